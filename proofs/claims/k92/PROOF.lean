import PyProof.Rows.All
import Wide.All
import OpenK.AllK
import Wide.FinOn
import HandS.ForMost
import HandS.ForExc
import KE.SortData
import KE.KDictKeyed
import HandS.HeadHook1
import HandS.Conv
import HandS.TupLen
import HandS.TupSets
import KE.KeyNested
import KE.GoesEnum
import HandS.Iter
import HandS.Defaults
import HandS.Ends
import HandS.EndBits
import HandS.TupAny
import HandS.Style
import HandS.Wide
import HandS.WideBits
import HandS.Deep
import HandS.Flow
import HandS.TupMul
import PyProof.IsRules
import KE.DataEq
import HandS.SetFor
import HandS.IsInst
import KE.GoesEnumKw
import HandS.Zip
import KE.KDictWalk
import HandS.DictComp
import KE.SortKeyHeap
import KE.KSortKey
import HandS.SortKw
import HandS.Head0
import HandS.Head1
import HandS.Head2
import HandS.HeadEnd
import HandS.HeadHook2
import HandS.FStrTup
import PySem.Challenge.RW_roundlooks_k92_whole_what_can_be_left
set_option Elab.async false
set_option linter.all false
set_option maxRecDepth 100000
namespace Ev
open PySem

inductive P where
  | non | bl (b : Bool) | int (i : Int) | str (s : Str) | ty (n : String)
  | tup (ps : List P) | ref (l : Nat) | gl (g : Nat)
  /-- a list that is only read, and is no object of the heap (the script) -/
  | kls (ps : List P)

mutual
def P.beq : P → P → Bool
  | .non, .non => true
  | .bl a, .bl b => a == b
  | .int a, .int b => decide (a = b)
  | .str a, .str b => decide (a = b)
  | .ty a, .ty b => decide (a = b)
  | .tup a, .tup b => P.beqs a b
  | .ref a, .ref b => Nat.beq a b
  | .gl a, .gl b => Nat.beq a b
  | .kls a, .kls b => P.beqs a b
  | _, _ => false
def P.beqs : List P → List P → Bool
  | [], [] => true
  | a :: as, b :: bs => P.beq a b && P.beqs as bs
  | _, _ => false
end
mutual
theorem P.beq_iff : ∀ a b : P, P.beq a b = true ↔ a = b
  | .non, b => by cases b <;> simp [P.beq]
  | .bl a, b => by cases b <;> simp [P.beq]
  | .int a, b => by cases b <;> simp [P.beq]
  | .str a, b => by cases b <;> simp [P.beq]
  | .ty a, b => by cases b <;> simp [P.beq]
  | .ref a, b => by cases b <;> simp [P.beq]
  | .gl a, b => by cases b <;> simp [P.beq]
  | .tup as, b => by
    cases b with
    | tup bs => simp [P.beq, P.beqs_iff as bs]
    | _ => simp [P.beq]
  | .kls as, b => by
    cases b with
    | kls bs => simp [P.beq, P.beqs_iff as bs]
    | _ => simp [P.beq]
theorem P.beqs_iff : ∀ as bs : List P, P.beqs as bs = true ↔ as = bs
  | [], bs => by cases bs <;> simp [P.beqs]
  | a :: as, bs => by
    cases bs with
    | nil => simp [P.beqs]
    | cons b bs => simp [P.beqs, P.beq_iff a b, P.beqs_iff as bs]
end
instance : DecidableEq P := fun a b => decidable_of_iff (P.beq a b = true) (P.beq_iff a b)

inductive O where
  | lst (xs : List P)
  | dic (kvs : List (P × P))
  | set (xs : List P)
  | ins (c : Str) (fs : List (Str × P))
  deriving DecidableEq
structure Exn where
  cls : Nat
  fs : List (Str × P)
  deriving DecidableEq
abbrev Hea := List O
abbrev Slots := List (Option P)
inductive R (α : Type) where
  | stk
  | ok (a : α) (h : Hea)
  | ex (x : Exn) (h : Hea)
  deriving DecidableEq
def R.bind {α β : Type} : R α → (α → Hea → R β) → R β
  | .stk, _ => .stk
  | .ok a h, f => f a h
  | .ex x h, _ => .ex x h
@[simp] theorem R.bind_stk {α β : Type} (f : α → Hea → R β) : R.bind .stk f = .stk := rfl
@[simp] theorem R.bind_ok {α β : Type} (a : α) (h : Hea) (f : α → Hea → R β) : R.bind (.ok a h) f = f a h := rfl
@[simp] theorem R.bind_ex {α β : Type} (x : Exn) (h : Hea) (f : α → Hea → R β) : R.bind (.ex x h) f = .ex x h := rfl
def R.calm {α : Type} : R α → R α
  | .ex _ _ => .stk
  | r => r
def R.of {α : Type} (o : Option α) (h : Hea) : R α := match o with
  | some a => .ok a h
  | none => .stk
inductive Flow where
  | nx | bk | ct | rt (p : P)
  deriving DecidableEq

inductive Bop | add | sub | mul | fdiv | mod | pow
  deriving DecidableEq
inductive Cop | eq | ne | lt | le | gt | ge | isN | notN | inn | nin
  deriving DecidableEq
inductive Blt | len | abs | int | list | tuple | sorted | max1 | min1 | max2 | min2 | sum | any | all | dict | set | str | repr | isi
  deriving DecidableEq
inductive Bmt | append | extend | pop | get | items | values | count
  deriving DecidableEq
inductive Kd | e | t | a | s | g | gs | i
inductive T : Kd → Type
  -- expressions
  | var (i : Nat) : T .e
  | non : T .e
  | bl (b : Bool) : T .e
  | int (i : Int) : T .e
  | str (s : Str) : T .e
  | con (g : Nat) : T .e
  /-- the name of a built-in type -/
  | tyn (n : String) : T .e
  /-- what is never reached -/
  | dead : T .e
  | tup (as : T .a) : T .e
  | lst (as : T .a) : T .e
  | dic0 : T .e
  | sset (a : T .e) : T .e
  /-- sorted(a, key=len) -/
  | srtL (a : T .e) : T .e
  /-- list(range(a, b)) -/
  | lrng (a b : T .e) : T .e
  | bin (o : Bop) (a b : T .e) : T .e
  | neg (a : T .e) : T .e
  | notv (a : T .e) : T .e
  | cmp (o : Cop) (a b : T .e) : T .e
  | chn (o o' : Cop) (a b c : T .e) : T .e
  | andv (a b : T .e) : T .e
  | orv (a b : T .e) : T .e
  | ife (c : T .t) (a b : T .e) : T .e
  | idx (a i : T .e) : T .e
  | slc (fl fh : Bool) (a lo hi : T .e) : T .e
  | rev (a : T .e) : T .e
  /-- a field of an instance of the class c -/
  | fld (c : Str) (a : T .e) (f : Str) : T .e
  /-- o.m(..), o of the class c, m its method with number g -/
  | meth (c m : Str) (g : Nat) (o : T .e) (as : T .a) : T .e
  /-- a new instance without fields -/
  | new (c : Str) : T .e
  | call (g : Nat) (as : T .a) : T .e
  | blt (b : Blt) (as : T .a) : T .e
  | bmt (m : Bmt) (o : T .e) (as : T .a) : T .e
  /-- o.get(k), o.get(k, d): o a dict with tuple keys -/
  | dget (o : T .e) (as : T .a) : T .e
  | lc (own : List Nat) (elt : T .e) (g : T .g) (i : T .i) (c : T .t) : T .e
  | dc (own : List Nat) (k v : T .e) (g : T .g) (i : T .i) (c : T .t) : T .e
  -- tests
  | tcmp (o : Cop) (a b : T .e) : T .t
  | tchn (o o' : Cop) (a b c : T .e) : T .t
  | tand (a b : T .t) : T .t
  | tor (a b : T .t) : T .t
  | tnot (a : T .t) : T .t
  | tval (a : T .e) : T .t
  | ttrue : T .t
  -- arguments
  | nil : T .a
  | cons (a : T .e) (as : T .a) : T .a
  -- targets
  | gnm (i : Nat) : T .g
  | gtup (gs : T .gs) : T .g
  | gnil : T .gs
  | gcons (g : T .g) (gs : T .gs) : T .gs
  | gsub (o i : T .e) : T .g
  | gfld (o : T .e) (f : Str) : T .g
  -- what is walked
  | isq (a : T .e) : T .i
  | irng (a : T .e) : T .i
  | irng2 (a b : T .e) : T .i
  | ienum (a : T .e) : T .i
  | izip (st : Bool) (a b : T .e) : T .i
  /-- a dict's keys (0), values (1), items (2); the dict is not to be used behind it -/
  | idic (k : Nat) (a : T .e) : T .i
  -- statements, each with what follows
  | skip : T .s
  | asg (g : T .g) (a : T .e) (k : T .s) : T .s
  | par (is : List Nat) (as : T .a) (k : T .s) : T .s
  | aug (i : Nat) (o : Bop) (a : T .e) (k : T .s) : T .s
  | exp (a : T .e) (k : T .s) : T .s
  | ret (a : T .e) : T .s
  | retN : T .s
  | ifs (c : T .t) (a b k : T .s) : T .s
  | for_ (g : T .g) (i : T .i) (b k : T .s) : T .s
  | whl (c : T .t) (b k : T .s) : T .s
  | brk : T .s
  | cnt : T .s
  | pas (k : T .s) : T .s
  | deadS : T .s
  | setf (c : Str) (o : T .e) (f : Str) (a : T .e) (k : T .s) : T .s

mutual
def dataW (f : Nat → Option PyData) : P → Option PyData
  | .non => some .none
  | .bl b => some (.bool b)
  | .int i => some (.int i)
  | .str s => some (.str s)
  | .ty _ => none
  | .gl _ => none
  | .ref l => f l
  | .tup ps => (dataWs f ps).map .tuple
  | .kls ps => (dataWs f ps).map .list
def dataWs (f : Nat → Option PyData) : List P → Option (List PyData)
  | [] => some []
  | p :: ps => (dataW f p).bind fun d => (dataWs f ps).map fun ds => d :: ds
end
def locData (h : Hea) : Nat → Nat → Option PyData
  | 0, _ => none
  | n + 1, l => match h[l]? with
    | some (.lst xs) => (dataWs (locData h n) xs).map .list
    | _ => none
def dataOf (h : Hea) (p : P) : Option PyData := dataW (locData h 6) p
def dataOfs (h : Hea) (ps : List P) : Option (List PyData) := dataWs (locData h 6) ps
def SZ : Nat := 16777216

def mkTup (ps : List P) (h : Hea) : R P := if ps.length ≤ SZ then .ok (.tup ps) h else .stk
def mkObj (o : O) (h : Hea) : R P := .ok (.ref h.length) (h ++ [o])
def mkLst (ps : List P) (h : Hea) : R P := if ps.length ≤ SZ then mkObj (.lst ps) h else .stk
def bits (i : Int) : Nat := i.natAbs.log2
def binV (o : Bop) (x y : P) (h : Hea) : R P := match o, x, y with
  | .add, .int i, .int j => .ok (.int (i + j)) h
  | .add, .str a, .str b => if a.length + b.length ≤ SZ then .ok (.str (a ++ b)) h else .stk
  | .add, .tup a, .tup b => mkTup (a ++ b) h
  | .add, .ref l, .ref m => match h[l]?, h[m]? with
    | some (.lst a), some (.lst b) => mkLst (a ++ b) h
    | _, _ => .stk
  | .sub, .int i, .int j => .ok (.int (i - j)) h
  | .mul, .int i, .int j => if bits i + bits j < 100000000 then .ok (.int (i * j)) h else .stk
  | .mul, .ref l, .int k => match h[l]? with
    | some (.lst a) => if -9223372036854775808 ≤ k ∧ k < 9223372036854775808 ∧ a.length * k.toNat ≤ SZ then mkObj (.lst (List.replicate k.toNat a).flatten) h else .stk
    | _ => .stk
  | .mul, .tup a, .int k => if 0 < a.length ∧ 1 ≤ k ∧ k ≤ 1000 ∧ a.length ≤ 1000 then mkTup (List.replicate k.toNat a).flatten h else .stk
  | .fdiv, .int i, .int j => if 0 < j ∧ bits j < 9000 then .ok (.int (i / j)) h else .stk
  | .mod, .int i, .int j => if 0 < j then .ok (.int (i % j)) h else .stk
  | .pow, .int i, .int j => if 0 ≤ j ∧ j ≤ 1000000 ∧ i.natAbs < 18446744073709551616 then .ok (.int (i ^ j.toNat)) h else .stk
  | _, _, _ => .stk
def augV (o : Bop) (x y : P) (h : Hea) : R P := match o, x, y with
  | .add, .ref l, .ref m => match h[l]?, h[m]? with
    | some (.lst a), some (.lst b) => if a.length + b.length ≤ SZ then .ok (.ref l) (h.set l (.lst (a ++ b))) else .stk
    | _, _ => .stk
  | .add, .int i, .int j => .ok (.int (i + j)) h
  | .add, .str a, .str b => if a.length + b.length ≤ SZ then .ok (.str (a ++ b)) h else .stk
  | .sub, .int i, .int j => .ok (.int (i - j)) h
  | _, _, _ => .stk
def eqD (h : Hea) (x y : P) : Option Bool := (dataOf h x).bind fun d => (dataOf h y).bind fun e => if SeqAt.shaped d && SeqAt.shaped e then some (PyData.eqv d e) else none
def strP : P → Option Str
  | .str a => some a
  | _ => none
theorem strP_ok {p : P} {a : Str} (h : strP p = some a) : p = .str a := by
  cases p <;> simp_all [strP]
def eqV (h : Hea) (x y : P) : Option Bool := match strP x, strP y with
  | some a, some b => some (decide (a = b))
  | _, _ => eqD h x y
def inD (h : Hea) (x : P) (ys : List P) : Option Bool := (dataOf h x).bind fun d => (dataOfs h ys).bind fun es =>
  if SeqAt.shaped d && SeqAt.shaped (.list es) then some (es.any fun e => PyData.eqv e d) else none
mutual
def deepP : Nat → P → Bool
  | _, .non => true
  | _, .int _ => true
  | _, .str _ => true
  | n + 1, .tup ps => deepPs n ps
  | _, _ => false
def deepPs : Nat → List P → Bool
  | _, [] => true
  | n, p :: ps => deepP n p && deepPs n ps
end
def keyT : P → Bool
  | .tup ps => deepPs 6 ps
  | _ => false
def kvGet : List (P × P) → P → Option P
  | [], _ => none
  | kv :: r, k => if P.beq kv.1 k then some kv.2 else kvGet r k
def kvHas : List (P × P) → P → Bool
  | [], _ => false
  | kv :: r, k => P.beq kv.1 k || kvHas r k
def kvPut : List (P × P) → P → P → List (P × P)
  | [], k, v => [(k, v)]
  | kv :: r, k, v => if P.beq kv.1 k then (kv.1, v) :: r else kv :: kvPut r k v
def inV (x y : P) (h : Hea) : Option Bool := match y with
  | .tup ys => inD h x ys
  | .kls ys => inD h x ys
  | .ref l => match h[l]? with
    | some (.lst ys) => inD h x ys
    | some (.dic kvs) => if keyT x then some (kvHas kvs x) else none
    | _ => none
  | _ => none
def isNone : P → Bool
  | .non => true
  | _ => false
def isB : P → Bool → Option Bool
  | .bl a, b => some (a == b)
  | .non, _ => some false
  | _, _ => none
def isV (x y : P) : Option Bool := match y with
  | .non => some (isNone x)
  | .bl b => isB x b
  | _ => none
def cmpV (o : Cop) (x y : P) (h : Hea) : Option Bool := match o with
  | .eq => eqV h x y
  | .ne => (eqV h x y).map fun b => !b
  | .lt => match x, y with | .int i, .int j => some (decide (i < j)) | _, _ => none
  | .le => match x, y with | .int i, .int j => some (decide (i ≤ j)) | _, _ => none
  | .gt => match x, y with | .int i, .int j => some (decide (j < i)) | _, _ => none
  | .ge => match x, y with | .int i, .int j => some (decide (j ≤ i)) | _, _ => none
  | .isN => isV x y
  | .notN => (isV x y).map fun b => !b
  | .inn => inV x y h
  | .nin => (inV x y h).map fun b => !b
def truV (x : P) (h : Hea) : Option Bool := match x with
  | .non => some false
  | .bl b => some b
  | .int i => some (i != 0)
  | .tup xs => some (!xs.isEmpty)
  | .kls xs => some (!xs.isEmpty)
  | .ref l => match h[l]? with
    | some (.lst xs) => some (!xs.isEmpty)
    | _ => none
  | _ => none
def idxV (x y : P) (h : Hea) : Option P := match x, y with
  | .tup xs, .int i => L2.atI xs i
  | .kls xs, .int i => L2.atI xs i
  | .ref l, .int i => match h[l]? with
    | some (.lst xs) => L2.atI xs i
    | _ => none
  | .ref l, .tup ks => match h[l]? with
    | some (.dic kvs) => if keyT (.tup ks) then kvGet kvs (.tup ks) else none
    | _ => none
  | _, _ => none
def bndV : Bool → P → Option (Option Int)
  | false, .non => some none
  | true, .int i => some (some i)
  | _, _ => none
def cut {α : Type} (xs : List α) (lo hi : Option Int) : List α := (xs.drop (HT.sIx xs.length 0 lo)).take (HT.sIx xs.length xs.length hi - HT.sIx xs.length 0 lo)
def slcV (x : P) (l u : Option Int) (h : Hea) : R P := match x with
  | .tup xs => .ok (.tup (cut xs l u)) h
  | .kls xs => mkObj (.lst (cut xs l u)) h
  | .ref a => match h[a]? with
    | some (.lst xs) => mkObj (.lst (cut xs l u)) h
    | _ => .stk
  | _ => .stk

def ins1 {α : Type} (le : α → α → Bool) (x : α) : List α → List α
  | [] => [x]
  | y :: ys => if le x y then x :: y :: ys else y :: ins1 le x ys
def isort {α : Type} (le : α → α → Bool) : List α → List α
  | [] => []
  | x :: xs => ins1 le x (isort le xs)
section
open PySem.W
variable {α : Type} {le : α → α → Bool}
theorem ins1_mem {x z : α} : ∀ {l : List α}, z ∈ ins1 le x l ↔ z = x ∨ z ∈ l
  | [] => by simp [ins1]
  | y :: ys => by
    unfold ins1
    split
    · simp
    · simp [ins1_mem (l := ys)]
      constructor <;> (intro h; rcases h with h | h | h <;> simp [h])
theorem ins1_pw (h : TotalLe le) (x : α) : ∀ {l : List α}, l.Pairwise (fun a b => le a b = true) → (ins1 le x l).Pairwise (fun a b => le a b = true)
  | [], _ => by simp [ins1]
  | y :: ys, p => by
    unfold ins1
    obtain ⟨p1, p2⟩ := List.pairwise_cons.mp p
    split
    · rename_i e
      refine List.pairwise_cons.mpr ⟨fun z hz => ?_, p⟩
      rcases List.mem_cons.mp hz with rfl | hz
      · exact e
      · exact h.trans _ _ _ e (p1 z hz)
    · rename_i e
      refine List.pairwise_cons.mpr ⟨fun z hz => ?_, ins1_pw h x p2⟩
      rcases ins1_mem.mp hz with rfl | hz
      · rcases h.total z y with q | q
        · exact absurd q e
        · exact q
      · exact p1 z hz
theorem ins1_filter (h : TotalLe le) (x c : α) : ∀ {l : List α}, l.Pairwise (fun a b => le a b = true) → (ins1 le x l).filter (sameRank le c) = (x :: l).filter (sameRank le c)
  | [], _ => rfl
  | y :: ys, p => by
    unfold ins1
    obtain ⟨p1, p2⟩ := List.pairwise_cons.mp p
    split
    · rfl
    · rename_i e
      rw [List.filter_cons, ins1_filter h x c p2]
      cases hy : sameRank le c y with
      | false => simp [List.filter_cons, hy]
      | true =>
        have hx : sameRank le c x = false := by
          cases q : sameRank le c x with
          | false => rfl
          | true =>
            unfold sameRank at hy q
            rw [Bool.and_eq_true] at hy q
            exact absurd (h.trans _ _ _ q.2 hy.1) e
        simp [List.filter_cons, hy, hx]
theorem isort_pw (h : TotalLe le) : ∀ l : List α, (isort le l).Pairwise (fun a b => le a b = true)
  | [] => List.Pairwise.nil
  | x :: xs => ins1_pw h x (isort_pw h xs)
theorem isort_eq (h : TotalLe le) (l : List α) : isort le l = l.mergeSort le := by
  refine sort_unique h (isort_pw h l) fun c => ?_
  induction l with
  | nil => rfl
  | cons x xs ih =>
    show (ins1 le x (isort le xs)).filter _ = _
    rw [ins1_filter h x c (isort_pw h xs), List.filter_cons, List.filter_cons, ih]
end
def sortOk (ds : List PyData) : Bool := (ds.all fun d => ds.all fun e => PySem.W.alike d e) && ds.all (fun d => decide (d.depth ≤ 150)) &&
  ((ds.all fun d => match d with | .tuple (_ :: _) => true | _ => false) || (ds.all fun d => match d with | .none => false | .tuple _ => false | _ => true) || (decide (ds.length ≤ 1) && ds.all fun d => match d with | .none => false | _ => true))
def sortD (h : Hea) (xs : List P) : Option (List P) := (dataOfs h xs).bind fun ds => if sortOk ds then some ((isort (PySem.W.dataLe false (·.2)) (xs.zip ds)).map (·.1)) else none
def seqP : P → Bool
  | .tup _ => true
  | .kls _ => true
  | .ref _ => true
  | _ => false

def hasP : List P → P → Bool
  | [], _ => false
  | q :: r, p => P.beq q p || hasP r p
def dedupP : List P → List P → List P
  | acc, [] => acc
  | acc, p :: ps => if hasP acc p then dedupP acc ps else dedupP (acc ++ [p]) ps
def intsP : List P → Option (List Int)
  | [] => some []
  | .int i :: r => (intsP r).map (i :: ·)
  | _ => none
def boolsP : List P → Option (List Bool)
  | [] => some []
  | .bl i :: r => (boolsP r).map (i :: ·)
  | _ => none
def rowOk (d : Nat) : P → Bool
  | .tup ps => decide (ps.length = d) && ps.all fun p => match p with | .int i => decide (0 ≤ i) && decide (i < 64) | _ => false
  | _ => false
def setOk : List P → Bool
  | [] => true
  | .tup ps :: r => decide (1 ≤ ps.length) && (decide (r.length < 63) || decide ((dedupP [] (.tup ps :: r)).length < 63)) && rowOk ps.length (.tup ps) && r.all (rowOk ps.length)
  | _ => false
def lrngV (x y : P) (h : Hea) : R P := match x, y with
  | .int i, .int j => if (-4611686018427387904 ≤ i ∧ i < 4611686018427387904) ∧ (-4611686018427387904 ≤ j ∧ j < 4611686018427387904) ∧ (j - i).toNat ≤ SZ then mkObj (.lst ((List.range (j - i).toNat).map fun k => .int (i + (k : Nat)))) h else .stk
  | _, _ => .stk
def tlen : P → Nat
  | .tup xs => xs.length
  | _ => 0
def isTp : P → Bool
  | .tup _ => true
  | _ => false
def lenLe (a b : P) : Bool := PySem.W.dataLe false (fun p => PyData.int (tlen p)) a b
def srtLV (x : P) (h : Hea) : R P := match x with
  | .ref l => match h[l]? with
    | some (.lst xs) => if xs.all isTp then mkObj (.lst (isort lenLe xs)) h else .stk
    | _ => .stk
  | _ => .stk
def ssetV (x : P) (h : Hea) : R P := match x with
  | .ref l => match h[l]? with
    | some (.lst xs) => if setOk xs then (match sortD h (dedupP [] xs) with
      | some ys => mkObj (.lst ys) h
      | none => .stk) else .stk
    | _ => .stk
  | _ => .stk
def maxI : List Int → Int → Int
  | [], m => m
  | i :: r, m => maxI r (if i > m then i else m)
def minI : List Int → Int → Int
  | [], m => m
  | i :: r, m => minI r (if i < m then i else m)
def reprA : P → Option Str
  | .int i => if i.natAbs.log2 < 1920 then some (toString i) else none
  | .non => some "None"
  | .bl b => some (if b then "True" else "False")
  | _ => none
def tyP (x : P) (h : Hea) : Option String := match x with
  | .non => some "NoneType"
  | .bl _ => some "bool"
  | .int _ => some "int"
  | .str _ => some "str"
  | .tup _ => some "tuple"
  | .ref l => match h[l]? with
    | some (.lst _) => some "list"
    | _ => none
  | _ => none
def tyIs (t n : String) : Bool := t == n || (t == "bool" && n == "int")
def tyOk (n : String) : Bool := n == "int" || n == "bool" || n == "str" || n == "tuple" || n == "list"
def isiV (x : P) (n : String) (h : Hea) : Option Bool := if tyOk n then (tyP x h).map fun t => tyIs t n else none
def bltV (b : Blt) (as : List P) (h : Hea) : R P := match b, as with
  | .len, [x] => match x with
    | .tup xs => .ok (.int xs.length) h
    | .kls xs => .ok (.int xs.length) h
    | .ref l => match h[l]? with
      | some (.lst xs) => .ok (.int xs.length) h
      | some (.dic kvs) => .ok (.int kvs.length) h
      | _ => .stk
    | _ => .stk
  | .abs, [.int i] => .ok (.int (if i < 0 then -i else i)) h
  | .int, [.int i] => .ok (.int i) h
  | .int, [.bl b] => .ok (.int (if b then 1 else 0)) h
  | .list, [x] => match x with
    | .tup xs => mkObj (.lst xs) h
    | .kls xs => mkObj (.lst xs) h
    | .ref l => match h[l]? with
      | some (.lst xs) => mkObj (.lst xs) h
      | some (.dic kvs) => mkObj (.lst (kvs.map (·.1))) h
      | _ => .stk
    | _ => .stk
  | .tuple, [x] => match x with
    | .tup xs => .ok (.tup xs) h
    | .kls xs => .ok (.tup xs) h
    | .ref l => match h[l]? with
      | some (.lst xs) => .ok (.tup xs) h
      | _ => .stk
    | _ => .stk
  | .sorted, [.ref l] => match h[l]? with
    | some (.lst xs) => match sortD h xs with
      | some ys => mkObj (.lst ys) h
      | none => .stk
    | some (.dic kvs) => match sortD h (kvs.map (·.1)) with
      | some ys => mkObj (.lst ys) h
      | none => .stk
    | _ => .stk
  | .any, [.ref l] => match h[l]? with
    | some (.lst xs) => match boolsP xs with
      | some bs => .ok (.bl (bs.any id)) h
      | none => .stk
    | _ => .stk
  | .all, [.ref l] => match h[l]? with
    | some (.lst xs) => match boolsP xs with
      | some bs => .ok (.bl (bs.all id)) h
      | none => .stk
    | _ => .stk
  | .dict, [.ref l] => match h[l]? with
    | some (.lst []) => mkObj (.dic []) h
    | _ => .stk
  | .isi, [x, .ty n] => match isiV x n h with
    | some b => .ok (.bl b) h
    | none => .stk
  | .repr, [x] => if seqP x then (match dataOf h x with
    | some d => if d.showable && !d.hasDict && decide (d.depth ≤ 150) && decide (d.shown.length ≤ SZ) then .ok (.str d.shown) h else .stk
    | none => .stk) else (match reprA x with
    | some t => .ok (.str t) h
    | none => .stk)
  | .max1, [.ref l] => match h[l]? with
    | some (.lst xs) => match intsP xs with
      | some (n :: ns) => .ok (.int (maxI ns n)) h
      | _ => .stk
    | _ => .stk
  | .min1, [.ref l] => match h[l]? with
    | some (.lst xs) => match intsP xs with
      | some (n :: ns) => .ok (.int (minI ns n)) h
      | _ => .stk
    | _ => .stk
  | .max2, [.int i, .int j] => .ok (.int (if j > i then j else i)) h
  | .min2, [.int i, .int j] => .ok (.int (if j < i then j else i)) h
  | .sum, [.ref l] => match h[l]? with
    | some (.lst xs) => match intsP xs with
      | some ns => .ok (.int ns.sum) h
      | none => .stk
    | _ => .stk
  | _, _ => .stk
def bmtV (m : Bmt) (x : P) (as : List P) (h : Hea) : R P := match m, x, as with
  | .append, .ref l, [y] => match h[l]? with
    | some (.lst xs) => if xs.length < SZ then .ok .non (h.set l (.lst (xs ++ [y]))) else .stk
    | _ => .stk
  | .extend, .ref l, [.ref m] => match h[l]?, h[m]? with
    | some (.lst xs), some (.lst ys) => if xs.length + ys.length ≤ SZ then .ok .non (h.set l (.lst (xs ++ ys))) else .stk
    | _, _ => .stk
  | .extend, .ref l, [.tup ys] => match h[l]? with
    | some (.lst xs) => if xs.length + ys.length ≤ SZ then .ok .non (h.set l (.lst (xs ++ ys))) else .stk
    | _ => .stk
  | .pop, .ref l, [] => match h[l]? with
    | some (.lst xs) => match xs[xs.length - 1]? with
      | some y => .ok y (h.set l (.lst xs.dropLast))
      | none => .stk
    | _ => .stk
  | .pop, .ref l, [.int i] => if i = 0 then (match h[l]? with
    | some (.lst xs) => match xs with
      | y :: r => .ok y (h.set l (.lst r))
      | [] => .stk
    | _ => .stk) else .stk
  | .count, .ref l, [.int i] => match h[l]? with
    | some (.lst xs) => match intsP xs with
      | some ns => .ok (.int (ns.count i)) h
      | none => .stk
    | _ => .stk
  | _, _, _ => .stk
def rcvOk (m : Bmt) (x : P) (h : Hea) : Bool := match m, x with
  | .append, .ref l | .extend, .ref l | .pop, .ref l | .count, .ref l => (match h[l]? with
    | some (.lst _) => true
    | _ => false)
  | _, _ => false
def revV (x : P) (h : Hea) : R P := match x with
  | .kls xs => mkObj (.lst xs.reverse) h
  | .ref l => match h[l]? with
    | some (.lst xs) => mkObj (.lst xs.reverse) h
    | _ => .stk
  | _ => .stk
def isDic (x : P) (h : Hea) : Bool := match x with
  | .ref l => (match h[l]? with
    | some (.dic _) => true
    | _ => false)
  | _ => false
def dgetV (x : P) (as : List P) (h : Hea) : Option P := match x, as with
  | .ref l, [k] => match h[l]? with
    | some (.dic kvs) => if keyT k then some ((kvGet kvs k).getD .non) else none
    | _ => none
  | .ref l, [k, d] => match h[l]? with
    | some (.dic kvs) => if keyT k then some ((kvGet kvs k).getD d) else none
    | _ => none
  | _, _ => none
def setV (o i v : P) (h : Hea) : R Unit := match o, i with
  | .ref l, .int k => match h[l]? with
    | some (.lst xs) => match L2.ixN xs.length k with
      | some j => .ok () (h.set l (.lst (xs.set j v)))
      | none => .stk
    | _ => .stk
  | .ref l, .tup ks => match h[l]? with
    | some (.dic kvs) => if keyT (.tup ks) && decide (kvs.length < SZ) then .ok () (h.set l (.dic (kvPut kvs (.tup ks) v))) else .stk
    | _ => .stk
  | _, _ => .stk

def fldV (c : Str) (x : P) (f : Str) (h : Hea) : Option P := match x with
  | .ref l => match h[l]? with
    | some (.ins c' fs) => if c' = c then fs.lookup f else none
    | _ => none
  | _ => none
def insOk (c m : Str) (x : P) (h : Hea) : Bool := match x with
  | .ref l => match h[l]? with
    | some (.ins c' fs) => decide (c' = c) && (fs.lookup m).isNone
    | _ => false
  | _ => false
def putP (f : Str) (v : P) : List (Str × P) → List (Str × P)
  | [] => [(f, v)]
  | (g, x) :: r => if g = f then (g, v) :: r else (g, x) :: putP f v r
def setF (c : Str) (x : P) (f : Str) (p : P) (h : Hea) : R Unit := match x with
  | .ref l => match h[l]? with
    | some (.ins c' fs) => if c' = c ∧ fs.length < 1000 then .ok () (h.set l (.ins c (putP f p fs))) else .stk
    | _ => .stk
  | _ => .stk

structure Cfg where
  call : Nat → List P → Hea → R P
  con : Nat → Option P
  W : Nat
structure Wk where
  its : List P
  stay : List (Nat × O)
def Wk.holds (w : List (Nat × O)) (h : Hea) : Bool := w.all fun x => decide (h[x.1]? = some x.2)
@[reducible] def Inp : Kd → Type
  | .g => P
  | .gs => List P
  | _ => Unit
@[reducible] def Res : Kd → Type
  | .e => P
  | .t => Bool
  | .a => List P
  | .s => Flow × Slots
  | .g => Slots
  | .gs => Slots
  | .i => Wk
def wipe (s : Slots) : List Nat → Slots
  | [] => s
  | v :: vs => (wipe s vs).set v none
def setAll : Slots → List Nat → List P → Slots
  | s, i :: is, p :: ps => setAll (s.set i (some p)) is ps
  | s, _, _ => s
def walkSeq (x : P) (h : Hea) : R Wk := match x with
  | .tup xs => .ok ⟨xs, []⟩ h
  | .kls xs => .ok ⟨xs, []⟩ h
  | .ref l => match h[l]? with
    | some (.lst xs) => .ok ⟨xs, [(l, .lst xs)]⟩ h
    | _ => .stk
  | _ => .stk
def dicSeen (k : Nat) (kv : P × P) : P := match k with
  | 0 => kv.1
  | 1 => kv.2
  | _ => .tup [kv.1, kv.2]
def walkDic (k : Nat) (x : P) (h : Hea) : R Wk := match x with
  | .ref l => match h[l]? with
    | some (.dic kvs) => .ok ⟨kvs.map (dicSeen k), []⟩ (h.set l (.set []))
    | _ => .stk
  | _ => .stk
def forL (w : List (Nat × O)) (f : P → Slots → Hea → R (Flow × Slots)) : List P → Slots → Hea → R (Flow × Slots)
  | [], s, h => if Wk.holds w h then .ok (.nx, s) h else .stk
  | p :: ps, s, h => if Wk.holds w h then (f p s h).bind fun r h => match r.1 with
      | .nx => forL w f ps r.2 h
      | .ct => forL w f ps r.2 h
      | .bk => .ok (.nx, r.2) h
      | .rt v => .ok (.rt v, r.2) h
    else .stk
def whileL (t : Slots → Hea → R Bool) (f : Slots → Hea → R (Flow × Slots)) : Nat → Slots → Hea → R (Flow × Slots)
  | 0, _, _ => .stk
  | n + 1, s, h => (t s h).bind fun b h => if b then (f s h).bind fun r h => match r.1 with
      | .nx => whileL t f n r.2 h
      | .ct => whileL t f n r.2 h
      | .bk => .ok (.nx, r.2) h
      | .rt v => .ok (.rt v, r.2) h
    else .ok (.nx, s) h
def lcL (w : List (Nat × O)) (f : P → Hea → R (Option P)) : List P → List P → Hea → R (List P)
  | [], acc, h => if Wk.holds w h then .ok acc h else .stk
  | p :: ps, acc, h => if Wk.holds w h then (f p h).bind fun r h => match r with
      | some v => if acc.length < SZ then lcL w f ps (acc ++ [v]) h else .stk
      | none => lcL w f ps acc h
    else .stk
def dcL (w : List (Nat × O)) (f : P → Hea → R (Option (P × P))) : List P → List (P × P) → Hea → R (List (P × P))
  | [], acc, h => if Wk.holds w h then .ok acc h else .stk
  | p :: ps, acc, h => if Wk.holds w h then (f p h).bind fun r h => match r with
      | some v => if acc.length < SZ && keyT v.1 then dcL w f ps (kvPut acc v.1 v.2) h else .stk
      | none => dcL w f ps acc h
    else .stk

def glen : {k : Kd} → T k → Nat
  | _, .gcons _ gs => glen gs + 1
  | _, _ => 0
def ev (C : Cfg) : {k : Kd} → T k → Inp k → Slots → Hea → R (Res k)
  | _, .var i, _, s, h => R.of (s[i]?).join h
  | _, .non, _, _, h => .ok P.non h
  | _, .bl b, _, _, h => .ok (P.bl b) h
  | _, .int i, _, _, h => .ok (P.int i) h
  | _, .str x, _, _, h => .ok (P.str x) h
  | _, .con g, _, _, h => R.of (C.con g) h
  | _, .tyn n, _, _, h => .ok (P.ty n) h
  | _, .dead, _, _, _ => .stk
  | _, .tup as, _, s, h => (ev C as () s h).bind mkTup
  | _, .lst as, _, s, h => (ev C as () s h).bind mkLst
  | _, .dic0, _, _, h => mkObj (.dic []) h
  | _, .sset a, _, s, h => (ev C a () s h).bind ssetV
  | _, .srtL a, _, s, h => (ev C a () s h).bind srtLV
  | _, .lrng a b, _, s, h => (ev C a () s h).bind fun x h => (ev C b () s h).bind fun y h => lrngV x y h
  | _, .bin o a b, _, s, h => (ev C a () s h).bind fun x h => (ev C b () s h).bind fun y h => binV o x y h
  | _, .neg a, _, s, h => (ev C a () s h).bind fun x h => match x with
    | .int i => .ok (P.int (-i)) h
    | _ => .stk
  | _, .notv a, _, s, h => (ev C a () s h).bind fun x h => (R.of (truV x h) h).bind fun k h => .ok (P.bl (!k)) h
  | _, .cmp o a b, _, s, h => (ev C a () s h).bind fun x h => (ev C b () s h).bind fun y h => (R.of (cmpV o x y h) h).bind fun b h => .ok (P.bl b) h
  | _, .chn o o' a b c, _, s, h => (ev C a () s h).bind fun x h => (ev C b () s h).bind fun y h => (R.of (cmpV o x y h) h).bind fun k h =>
      if k then (ev C c () s h).bind fun z h => (R.of (cmpV o' y z h) h).bind fun b h => .ok (P.bl b) h else .ok (P.bl false) h
  | _, .andv a b, _, s, h => (ev C a () s h).bind fun x h => (R.of (truV x h) h).bind fun k h => if k then ev C b () s h else .ok x h
  | _, .orv a b, _, s, h => (ev C a () s h).bind fun x h => (R.of (truV x h) h).bind fun k h => if k then .ok x h else ev C b () s h
  | _, .ife c a b, _, s, h => (ev C c () s h).bind fun k h => if k then ev C a () s h else ev C b () s h
  | _, .idx a i, _, s, h => (ev C a () s h).bind fun x h => (ev C i () s h).bind fun y h => R.of (idxV x y h) h
  | _, .slc fl fh a lo hi, _, s, h => (ev C a () s h).bind fun x h => (ev C lo () s h).bind fun p h => (R.of (bndV fl p) h).bind fun l h => (ev C hi () s h).bind fun q h => (R.of (bndV fh q) h).bind fun u h => slcV x l u h
  | _, .rev a, _, s, h => (ev C a () s h).bind fun x h => revV x h
  | _, .fld c a f, _, s, h => (ev C a () s h).bind fun x h => R.of (fldV c x f h) h
  | _, .meth c m g o as, _, s, h => (ev C o () s h).bind fun x h => if insOk c m x h then (ev C as () s h).bind fun xs h => C.call g (x :: xs) h else .stk
  | _, .new c, _, _, h => mkObj (.ins c []) h
  | _, .call g as, _, s, h => (ev C as () s h).bind fun xs h => C.call g xs h
  | _, .blt b as, _, s, h => (ev C as () s h).bind fun xs h => bltV b xs h
  | _, .bmt m o as, _, s, h => (ev C o () s h).bind fun x h => if rcvOk m x h then (ev C as () s h).bind fun xs h => bmtV m x xs h else .stk
  | _, .dget o as, _, s, h => (ev C o () s h).bind fun x h => if isDic x h then (ev C as () s h).bind fun xs h => R.of (dgetV x xs h) h else .stk
  | _, .lc own elt g i c, _, s, h => (ev C i () s h).bind fun w h =>
      ((lcL w.stay (fun p h => (ev C g p (wipe s own) h).bind fun s' h => (ev C c () s' h).bind fun b h => if b then (ev C elt () s' h).bind fun v h => .ok (some v) h else .ok none h) w.its [] h).calm).bind fun vs h => mkLst vs h
  | _, .dc own k v g i c, _, s, h => (ev C i () s h).bind fun w h =>
      ((dcL w.stay (fun p h => (ev C g p (wipe s own) h).bind fun s' h => (ev C c () s' h).bind fun b h => if b then (ev C k () s' h).bind fun x h => (ev C v () s' h).bind fun y h => .ok (some (x, y)) h else .ok none h) w.its [] h).calm).bind fun vs h => mkObj (.dic vs) h
  -- tests
  | _, .tcmp o a b, _, s, h => (ev C a () s h).bind fun x h => (ev C b () s h).bind fun y h => R.of (cmpV o x y h) h
  | _, .tchn o o' a b c, _, s, h => (ev C a () s h).bind fun x h => (ev C b () s h).bind fun y h => (R.of (cmpV o x y h) h).bind fun k h =>
      if k then (ev C c () s h).bind fun z h => R.of (cmpV o' y z h) h else .ok false h
  | _, .tand a b, _, s, h => (ev C a () s h).bind fun k h => if k then ev C b () s h else .ok false h
  | _, .tor a b, _, s, h => (ev C a () s h).bind fun k h => if k then .ok true h else ev C b () s h
  | _, .tnot a, _, s, h => (ev C a () s h).bind fun k h => .ok (!k) h
  | _, .tval a, _, s, h => (ev C a () s h).bind fun x h => R.of (truV x h) h
  | _, .ttrue, _, _, h => .ok true h
  -- arguments
  | _, .nil, _, _, h => .ok [] h
  | _, .cons a as, _, s, h => (ev C a () s h).bind fun x h => (ev C as () s h).bind fun xs h => .ok (x :: xs) h
  -- targets
  | _, .gnm i, p, s, h => .ok (s.set i (some p)) h
  | _, .gtup g, p, s, h => match p with
    | .tup ps => if ps.length = glen g then ev C (k := .gs) g ps s h else .stk
    | _ => .stk
  | _, .gnil, ps, s, h => match ps with
    | [] => .ok s h
    | _ => .stk
  | _, .gcons g gs, ps, s, h => match ps with
    | q :: qs => (ev C (k := .g) g q s h).bind fun s h => ev C (k := .gs) gs qs s h
    | _ => .stk
  | _, .gsub o i, p, s, h => (ev C o () s h).bind fun x h => (ev C i () s h).bind fun y h => (setV x y p h).bind fun _ h => .ok s h
  | _, .gfld o f, p, s, h => .stk
  -- what is walked
  | _, .isq a, _, s, h => (ev C a () s h).bind walkSeq
  | _, .irng a, _, s, h => (ev C a () s h).bind fun x h => match x with
    | .int j => if -4611686018427387904 ≤ j ∧ j < 4611686018427387904 then .ok ⟨(List.range j.toNat).map fun i => .int (0 + (i : Nat)), []⟩ h else .stk
    | _ => .stk
  | _, .irng2 a b, _, s, h => (ev C a () s h).bind fun x h => (ev C b () s h).bind fun y h => match x, y with
    | .int i, .int j => if -4611686018427387904 ≤ i ∧ i < 4611686018427387904 ∧ -4611686018427387904 ≤ j ∧ j < 4611686018427387904 then .ok ⟨(List.range (j - i).toNat).map fun (k : Nat) => .int (i + k), []⟩ h else .stk
    | _, _ => .stk
  | _, .ienum a, _, s, h => (ev C a () s h).bind fun x h => (walkSeq x h).bind fun w h => .ok ⟨w.its.zipIdx.map fun x => .tup [.int (x.2 : Nat), x.1], w.stay⟩ h
  | _, .izip st a b, _, s, h => (ev C a () s h).bind fun x h => (ev C b () s h).bind fun y h => (walkSeq x h).bind fun u h => (walkSeq y h).bind fun w h => if st = true → u.its.length = w.its.length then .ok ⟨(u.its.zip w.its).map fun x => .tup [x.1, x.2], u.stay ++ w.stay⟩ h else .stk
  | _, .idic k a, _, s, h => (ev C a () s h).bind (walkDic k)
  -- statements
  | _, .skip, _, s, h => .ok (.nx, s) h
  | _, .pas k, _, s, h => ev C k () s h
  | _, .asg g a k, _, s, h => (ev C a () s h).bind fun x h => (ev C g x s h).bind fun s h => ev C k () s h
  | _, .par is as k, _, s, h => (ev C as () s h).bind fun xs h => if xs.length = is.length then ev C k () (setAll s is xs) h else .stk
  | _, .aug i o a k, _, s, h => (R.of (s[i]?).join h).bind fun x h => (ev C a () s h).bind fun y h => (augV o x y h).bind fun z h => ev C k () (s.set i (some z)) h
  | _, .exp a k, _, s, h => (ev C a () s h).bind fun _ h => ev C k () s h
  | _, .ret a, _, s, h => (ev C a () s h).bind fun x h => .ok (.rt x, s) h
  | _, .retN, _, s, h => .ok (.rt .non, s) h
  | _, .ifs c a b k, _, s, h => (ev C c () s h).bind fun q h => (if q then ev C a () s h else ev C b () s h).bind fun r h => match r.1 with
    | .nx => ev C k () r.2 h
    | _ => .ok r h
  | _, .for_ g i b k, _, s, h => (ev C i () s h).bind fun w h => (forL w.stay (fun p s h => (ev C g p s h).bind fun s h => ev C b () s h) w.its s h).bind fun r h => match r.1 with
    | .nx => ev C k () r.2 h
    | _ => .ok r h
  | _, .whl c b k, _, s, h => (whileL (fun s h => ev C c () s h) (fun s h => ev C b () s h) C.W s h).bind fun r h => match r.1 with
    | .nx => ev C k () r.2 h
    | _ => .ok r h
  | _, .brk, _, s, h => .ok (.bk, s) h
  | _, .cnt, _, s, h => .ok (.ct, s) h
  | _, .deadS, _, _, _ => .stk
  | _, .setf c o f a k, _, s, h => (ev C a () s h).bind fun p h => (ev C o () s h).bind fun x h => (setF c x f p h).bind fun _ h => ev C k () s h

structure Fn where
  params : Nat
  slots : Nat
  body : T .s
def runFn (C : Cfg) (f : Fn) (as : List P) (h : Hea) : R P :=
  if as.length = f.params then (ev C f.body () (as.map some ++ List.replicate (f.slots - f.params) none) h).bind fun r h => match r.1 with
    | .rt v => .ok v h
    | .nx => .ok .non h
    | _ => .stk
  else .stk
structure Prog where
  fn : Nat → Option Fn
  con : Nat → Option P
def callN (G : Prog) (W : Nat) : Nat → Nat → List P → Hea → R P
  | 0, _, _, _ => .stk
  | d + 1, g, as, h => match G.fn g with
    | some f => runFn ⟨callN G W d, G.con, W⟩ f as h
    | none => .stk
end Ev

namespace Ev
open PySem
mutual
def sh (n : Nat) : P → P
  | .non => .non
  | .bl b => .bl b
  | .int i => .int i
  | .str s => .str s
  | .ty t => .ty t
  | .tup ps => .tup (shs n ps)
  | .ref l => .ref (l + n)
  | .gl g => .gl g
  | .kls ps => .kls (shs n ps)
def shs (n : Nat) : List P → List P
  | [] => []
  | p :: ps => sh n p :: shs n ps
end
def shKv (n : Nat) (kv : P × P) : P × P := (sh n kv.1, sh n kv.2)
def shF (n : Nat) (kv : Str × P) : Str × P := (kv.1, sh n kv.2)
def shO (n : Nat) : O → O
  | .lst xs => .lst (shs n xs)
  | .dic kvs => .dic (kvs.map (shKv n))
  | .set xs => .set (shs n xs)
  | .ins c fs => .ins c (fs.map (shF n))
def up (g h : Hea) : Hea := g ++ h.map (shO g.length)
def R.up {α : Type} (g : Hea) (φ : α → α) : R α → R α
  | .stk => .stk
  | .ok a h => .ok (φ a) (Ev.up g h)
  | .ex x h => .ex ⟨x.cls, x.fs.map (shF g.length)⟩ (Ev.up g h)
section
variable {g h : Hea} {α β : Type}
end
end Ev

namespace Ev
open PySem
section
variable {g h : Hea}
end
structure CUp (C : Cfg) (g : Hea) : Prop where
  call : ∀ id as h, C.call id (shs g.length as) (up g h) = (C.call id as h).up g (sh g.length)
  con : ∀ id p, C.con id = some p → sh g.length p = p
def Clo (p : P) : Prop := ∀ n, sh n p = p
end Ev

namespace Ev
open PySem
section
variable {j : Nat} {o : Option P}
end
end Ev

namespace Ev
open PySem L2

structure Kw where
  K : PySem.W.Frag
  P : Program
  w : World
instance : Coe Kw PySem.W.Frag := ⟨Kw.K⟩
abbrev _root_.L2.Cx.kw (X : Cx) : Kw := ⟨X.K, X.prog, X.w⟩
def Kls (K : Kw) (H : Hp) (a : Addr) (vs : List V) : Prop := (∃ o, H a = some (.frz o (.lst vs))) ∨
  ∃ (o : Obj) (its : Array Value) (n : Nat), K.K.lookup a = some o ∧ o.cls = .type "list" ∧ o.dict = none ∧ o.data = .seq its n ∧ its.size ≤ sizeLine ∧ Vals vs its.toList
theorem Kls.sq {K : Kw} {H : Hp} {a : Addr} {vs : List V} (h : Kls K H a vs) : SqL K H a vs := by
  rcases h with ⟨o, h⟩ | h
  · exact .inl (.inr ⟨o, h⟩)
  · exact .inr h

mutual
def Rv (K : Kw) (ρ : List Addr) (H : Hp) : P → V → Prop
  | .non, v => v = .non
  | .bl b, v => v = .bl b
  | .int i, v => v = .int i
  | .str s, v => v = .str s
  | .ty n, v => v = .ty n
  | .ref l, v => ∃ a, ρ[l]? = some a ∧ v = .ref a
  | .gl _, _ => False
  | .tup ps, v => ∃ a vs, v = .ref a ∧ SqT K H a vs ∧ Rvs K ρ H ps vs
  | .kls ps, v => ∃ a vs, v = .ref a ∧ Kls K H a vs ∧ Rvs K ρ H ps vs
def Rvs (K : Kw) (ρ : List Addr) (H : Hp) : List P → List V → Prop
  | [], vs => vs = []
  | p :: ps, vs => ∃ v r, vs = v :: r ∧ Rv K ρ H p v ∧ Rvs K ρ H ps r
end
structure Ext (ρ ρ' : List Addr) (H H' : Hp) : Prop where
  pre : ∀ (i : Nat) (a : Addr), ρ[i]? = some a → ρ'[i]? = some a
  tup : ∀ b xs, H b = some (.tup xs) → H' b = some (.tup xs)
  frz : ∀ b o u, H b = some (.frz o u) → H' b = some (.frz o u)
theorem Ext.refl {ρ : List Addr} {H : Hp} : Ext ρ ρ H H := ⟨fun _ _ h => h, fun _ _ h => h, fun _ _ _ h => h⟩
theorem Ext.trans {ρ ρ1 ρ2 : List Addr} {H H1 H2 : Hp} (a : Ext ρ ρ1 H H1) (b : Ext ρ1 ρ2 H1 H2) : Ext ρ ρ2 H H2 :=
  ⟨fun i x h => b.pre i x (a.pre i x h), fun c xs h => b.tup c xs (a.tup c xs h), fun c o u h => b.frz c o u (a.frz c o u h)⟩
theorem Ext.sqT {K : Kw} {ρ ρ' : List Addr} {H H' : Hp} (e : Ext ρ ρ' H H') {a : Addr} {xs : List V} (h : SqT K H a xs) : SqT K H' a xs := by
  rcases h with (h | ⟨o, h⟩) | h
  · exact .inl (.inl (e.tup _ _ h))
  · exact .inl (.inr ⟨o, e.frz _ _ _ h⟩)
  · exact .inr h
theorem Ext.kls {K : Kw} {ρ ρ' : List Addr} {H H' : Hp} (e : Ext ρ ρ' H H') {a : Addr} {xs : List V} (h : Kls K H a xs) : Kls K H' a xs := by
  rcases h with ⟨o, h⟩ | h
  · exact .inl ⟨o, e.frz _ _ _ h⟩
  · exact .inr h
section
variable {K : Kw} {ρ ρ' : List Addr} {H H' : Hp}
mutual
theorem Rv.ext (e : Ext ρ ρ' H H') : ∀ (p : P) (v : V), Rv K ρ H p v → Rv K ρ' H' p v
  | .non, _, h => h
  | .bl _, _, h => h
  | .int _, _, h => h
  | .str _, _, h => h
  | .ty _, _, h => h
  | .ref l, v, h => by
    obtain ⟨a, h1, h2⟩ := h
    exact ⟨a, e.pre _ _ h1, h2⟩
  | .gl _, _, h => h
  | .tup ps, v, h => by
    obtain ⟨a, vs, h1, h2, h3⟩ := h
    exact ⟨a, vs, h1, e.sqT h2, Rvs.ext e ps vs h3⟩
  | .kls ps, v, h => by
    obtain ⟨a, vs, h1, h2, h3⟩ := h
    exact ⟨a, vs, h1, e.kls h2, Rvs.ext e ps vs h3⟩
theorem Rvs.ext (e : Ext ρ ρ' H H') : ∀ (ps : List P) (vs : List V), Rvs K ρ H ps vs → Rvs K ρ' H' ps vs
  | [], _, h => h
  | p :: ps, vs, h => by
    obtain ⟨v, r, h1, h2, h3⟩ := h
    exact ⟨v, r, h1, Rv.ext e p v h2, Rvs.ext e ps r h3⟩
end
theorem Rvs.nil : Rvs K ρ H [] [] := rfl
theorem Rvs.cons {p : P} {ps : List P} {v : V} {vs : List V} (h : Rv K ρ H p v) (hs : Rvs K ρ H ps vs) : Rvs K ρ H (p :: ps) (v :: vs) := ⟨v, vs, rfl, h, hs⟩
theorem Rvs.length : ∀ {ps : List P} {vs : List V}, Rvs K ρ H ps vs → vs.length = ps.length
  | [], vs, h => by cases h; rfl
  | p :: ps, vs, h => by
    obtain ⟨v, r, rfl, _, h⟩ := h
    simp [Rvs.length h]
theorem Rvs.append : ∀ {ps qs : List P} {vs ws : List V}, Rvs K ρ H ps vs → Rvs K ρ H qs ws → Rvs K ρ H (ps ++ qs) (vs ++ ws)
  | [], _, _, _, h, k => by cases h; exact k
  | p :: ps, qs, vs, ws, h, k => by
    obtain ⟨v, r, rfl, h1, h2⟩ := h
    exact ⟨v, r ++ ws, rfl, h1, Rvs.append h2 k⟩
theorem Rvs.get : ∀ {ps : List P} {vs : List V} {i : Nat} {p : P}, Rvs K ρ H ps vs → ps[i]? = some p → ∃ v, vs[i]? = some v ∧ Rv K ρ H p v
  | [], _, _, _, _, e => by simp at e
  | q :: ps, vs, i, p, h, e => by
    obtain ⟨v, r, rfl, h1, h2⟩ := h
    cases i with
    | zero => simp at e; subst e; exact ⟨v, rfl, h1⟩
    | succ i => exact Rvs.get (i := i) h2 (by simpa using e)
theorem Rvs.drop : ∀ {ps : List P} {vs : List V} (n : Nat), Rvs K ρ H ps vs → Rvs K ρ H (ps.drop n) (vs.drop n)
  | ps, vs, 0, h => by simpa using h
  | [], vs, n + 1, h => by cases h; exact rfl
  | p :: ps, vs, n + 1, h => by
    obtain ⟨v, r, rfl, h1, h2⟩ := h
    exact Rvs.drop n h2
theorem Rvs.take : ∀ {ps : List P} {vs : List V} (n : Nat), Rvs K ρ H ps vs → Rvs K ρ H (ps.take n) (vs.take n)
  | ps, vs, 0, h => by simp [Rvs]
  | [], vs, n + 1, h => by cases h; exact rfl
  | p :: ps, vs, n + 1, h => by
    obtain ⟨v, r, rfl, h1, h2⟩ := h
    exact ⟨v, r.take n, rfl, h1, Rvs.take n h2⟩
theorem Rvs.set {p : P} {v : V} (r : Rv K ρ H p v) : ∀ {ps : List P} {vs : List V} (i : Nat), Rvs K ρ H ps vs → Rvs K ρ H (ps.set i p) (vs.set i v)
  | [], vs, _, h => by cases h; exact rfl
  | q :: ps, vs, 0, h => by
    obtain ⟨v', r', rfl, h1, h2⟩ := h
    exact ⟨v, r', rfl, r, h2⟩
  | q :: ps, vs, i + 1, h => by
    obtain ⟨v', r', rfl, h1, h2⟩ := h
    exact ⟨v', r'.set i v, rfl, h1, Rvs.set r i h2⟩
theorem Rvs.reverse : ∀ {ps : List P} {vs : List V}, Rvs K ρ H ps vs → Rvs K ρ H ps.reverse vs.reverse
  | [], vs, h => by cases h; exact rfl
  | p :: ps, vs, h => by
    obtain ⟨v, r, rfl, h1, h2⟩ := h
    rw [List.reverse_cons, List.reverse_cons]
    exact (Rvs.reverse h2).append (.cons h1 .nil)
theorem Rvs.dropLast {ps : List P} {vs : List V} (h : Rvs K ρ H ps vs) : Rvs K ρ H ps.dropLast vs.dropLast := by
  rw [List.dropLast_eq_take, List.dropLast_eq_take, h.length]
  exact h.take _
theorem Rvs.rep {ps : List P} {vs : List V} (h : Rvs K ρ H ps vs) : ∀ k : Nat, Rvs K ρ H (List.replicate k ps).flatten (List.replicate k vs).flatten
  | 0 => rfl
  | k + 1 => by
    rw [List.replicate_succ, List.replicate_succ, List.flatten_cons, List.flatten_cons]
    exact h.append (Rvs.rep h k)
end

mutual
def nkey : P → NestedKey
  | .non => .none
  | .bl _ => .none
  | .int i => .num i
  | .str s => .text s
  | .ty _ => .none
  | .tup ps => .tup (nkeys ps)
  | .ref _ => .none
  | .gl _ => .none
  | .kls _ => .none
def nkeys : List P → List NestedKey
  | [] => []
  | p :: ps => nkey p :: nkeys ps
end
mutual
theorem nkey_inj : ∀ (p q : P) (n m : Nat), deepP n p = true → deepP m q = true → nkey p = nkey q → p = q
  | .non, q, n, m, h, k, e => by cases q <;> first | rfl | (cases e; done) | (cases m <;> cases k)
  | .bl _, q, n, m, h, k, e => by cases n <;> cases h
  | .int i, q, n, m, h, k, e => by cases q <;> first | (cases e; rfl) | (cases e; done)
  | .str s, q, n, m, h, k, e => by cases q <;> first | (cases e; rfl) | (cases e; done)
  | .ty _, q, n, m, h, k, e => by cases n <;> cases h
  | .ref _, q, n, m, h, k, e => by cases n <;> cases h
  | .gl _, q, n, m, h, k, e => by cases n <;> cases h
  | .kls _, q, n, m, h, k, e => by cases n <;> cases h
  | .tup ps, q, n, m, h, k, e => by
    cases n with
    | zero => cases h
    | succ n =>
      cases q <;> first
        | (cases e; done)
        | skip
      rename_i qs
      cases m with
      | zero => cases k
      | succ m =>
        simp only [nkey, NestedKey.tup.injEq] at e
        rw [nkeys_inj ps qs n m h k e]
theorem nkeys_inj : ∀ (ps qs : List P) (n m : Nat), deepPs n ps = true → deepPs m qs = true → nkeys ps = nkeys qs → ps = qs
  | [], qs, _, _, _, _, e => by cases qs <;> first | rfl | (simp [nkeys] at e)
  | p :: ps, qs, n, m, h, k, e => by
    cases qs with
    | nil => simp [nkeys] at e
    | cons q qs =>
      simp only [deepPs, Bool.and_eq_true] at h k
      simp only [nkeys, List.cons.injEq] at e
      rw [nkey_inj p q n m h.1 k.1 e.1, nkeys_inj ps qs n m h.2 k.2 e.2]
end
mutual
theorem nkey_depth : ∀ (p : P) (n : Nat), deepP n p = true → (nkey p).depth ≤ n
  | .non, n, _ => Nat.zero_le _
  | .bl _, n, _ => Nat.zero_le _
  | .int _, n, _ => Nat.zero_le _
  | .str _, n, _ => Nat.zero_le _
  | .ty _, n, _ => Nat.zero_le _
  | .ref _, n, _ => Nat.zero_le _
  | .gl _, n, _ => Nat.zero_le _
  | .kls _, n, _ => Nat.zero_le _
  | .tup ps, n, h => by
    cases n with
    | zero => cases h
    | succ n =>
      have := nkeys_depth ps n h
      simp only [nkey, NestedKey.depth]; omega
theorem nkeys_depth : ∀ (ps : List P) (n : Nat), deepPs n ps = true → NestedKey.depthAll (nkeys ps) ≤ n
  | [], n, _ => Nat.zero_le _
  | p :: ps, n, h => by
    simp only [deepPs, Bool.and_eq_true] at h
    have h1 := nkey_depth p n h.1
    have h2 := nkeys_depth ps n h.2
    simp only [nkeys, NestedKey.depthAll]; omega
end
theorem keyT_deep {p : P} (h : keyT p = true) : deepP 7 p = true := by
  cases p <;> first | exact h | cases h
theorem keyT_inj {p q : P} (h : keyT p = true) (k : keyT q = true) : P.beq p q = decide (nkey p = nkey q) := by
  rw [Bool.eq_iff_iff, P.beq_iff, decide_eq_true_iff]
  exact ⟨fun e => by rw [e], fun e => nkey_inj p q 7 7 (keyT_deep h) (keyT_deep k) e⟩
abbrev DX := List (NestedKey × Addr × V)
abbrev DY := List (NestedKey × Addr × Value)
def DXY : DX → DY → Prop := Paired fun x y => x.1 = y.1 ∧ x.2.1 = y.2.1 ∧ RelV x.2.2 y.2.2
def DkO (P : Program) (w : World) (a : Addr) (xs : DX) (h : Heap) : Prop := (a == sysModules) = false ∧ xs.length ≤ sizeLine ∧ ∃ ys : DY, DXY xs ys ∧
  (∃ o es ep, h.get? a = some o ∧ o.ExactDict ∧ o.data = .dict es ep ∧ es.toList = ys.map (entryOfKey (nestedKind P w))) ∧ (ys.map (·.1)).Nodup
def dkO (P : Program) (w : World) (a : Addr) (xs : DX) : HO := .ext (DkO P w a xs)
theorem dkO_new {P : Program} {w : World} {H : Hp} {h : Heap} {a : Addr} {xs : DX} (d : DkO P w a xs h) : ObjOk P w H h a (dkO P w a xs) := by
  obtain ⟨d1, d2, ys, d3, ⟨o, es, ep, e1, e2, e3, e4⟩, d5⟩ := id d
  refine ⟨d, ⟨o, e1⟩, fun h1 h2 p k => ?_⟩
  obtain ⟨p1, p2, zs, p3, ⟨o', es', ep', q1, q2, q3, q4⟩, p5⟩ := p
  exact ⟨p1, p2, zs, p3, ⟨o', es', ep', k _ q1, q2, q3, q4⟩, p5⟩
def DKs (K : Kw) (ρ : List Addr) (H : Hp) : List (P × P) → DX → Prop
  | [], xs => xs = []
  | kv :: kvs, xs => ∃ b v r, xs = (nkey kv.1, b, v) :: r ∧ keyT kv.1 = true ∧ Rv K ρ H kv.1 (.ref b) ∧ Rv K ρ H kv.2 v ∧ DKs K ρ H kvs r
theorem DKs.ext {K : Kw} {ρ ρ' : List Addr} {H H' : Hp} (e : Ext ρ ρ' H H') : ∀ {kvs : List (P × P)} {xs : DX}, DKs K ρ H kvs xs → DKs K ρ' H' kvs xs
  | [], _, h => h
  | kv :: kvs, xs, h => by
    obtain ⟨b, v, r, e1, e2, e3, e4, e5⟩ := h
    exact ⟨b, v, r, e1, e2, e3.ext e, e4.ext e, e5.ext e⟩
theorem DKs.length {K : Kw} {ρ : List Addr} {H : Hp} : ∀ {kvs : List (P × P)} {xs : DX}, DKs K ρ H kvs xs → xs.length = kvs.length
  | [], _, h => by cases h; rfl
  | kv :: kvs, xs, h => by
    obtain ⟨b, v, r, rfl, _, _, _, h⟩ := h
    simp [h.length]

def Fsr (K : Kw) (ρ : List Addr) (H : Hp) : List (Str × P) → List (Str × V) → Prop
  | [], vs => vs = []
  | (f, p) :: fs, vs => ∃ v r, vs = (f, v) :: r ∧ Rv K ρ H p v ∧ Fsr K ρ H fs r
theorem Fsr.ext {K : Kw} {ρ ρ' : List Addr} {H H' : Hp} (e : Ext ρ ρ' H H') : ∀ {fs : List (Str × P)} {vs : List (Str × V)}, Fsr K ρ H fs vs → Fsr K ρ' H' fs vs
  | [], _, h => h
  | (f, p) :: fs, vs, h => by
    obtain ⟨v, r, e1, e2, e3⟩ := h
    exact ⟨v, r, e1, e2.ext e, e3.ext e⟩
theorem Fsr.length {K : Kw} {ρ : List Addr} {H : Hp} : ∀ {fs : List (Str × P)} {vs : List (Str × V)}, Fsr K ρ H fs vs → vs.length = fs.length
  | [], _, h => by cases h; rfl
  | (f, p) :: fs, vs, h => by
    obtain ⟨v, r, rfl, _, h⟩ := h
    simp [h.length]
theorem Fsr.lookup {K : Kw} {ρ : List Addr} {H : Hp} {f : Str} : ∀ {fs : List (Str × P)} {vs : List (Str × V)}, Fsr K ρ H fs vs → (match fs.lookup f with
    | some p => ∃ v, vs.lookup f = some v ∧ Rv K ρ H p v
    | none => vs.lookup f = none)
  | [], _, h => by cases h; rfl
  | (g, p) :: fs, vs, h => by
    obtain ⟨v, r, rfl, h1, h⟩ := h
    have ih := h.lookup (f := f)
    simp only [List.lookup_cons]
    cases f == g with
    | true => exact ⟨v, rfl, h1⟩
    | false => exact ih
theorem Fsr.put {K : Kw} {ρ : List Addr} {H : Hp} {f : Str} {p : P} {v : V} (hv : Rv K ρ H p v) : ∀ {fs : List (Str × P)} {vs : List (Str × V)}, Fsr K ρ H fs vs → Fsr K ρ H (putP f p fs) (putF f v vs)
  | [], _, h => by cases h; exact ⟨v, [], rfl, hv, rfl⟩
  | (g, q) :: fs, vs, h => by
    obtain ⟨u, r, rfl, h1, h⟩ := h
    have ih := h.put (f := f) hv
    show Fsr K ρ H (if g = f then (g, p) :: fs else (g, q) :: putP f p fs) (if g = f then (g, v) :: r else (g, u) :: putF f v r)
    by_cases e : g = f
    · rw [if_pos e, if_pos e]; exact ⟨v, r, rfl, hv, h⟩
    · rw [if_neg e, if_neg e]; exact ⟨u, _, rfl, h1, ih⟩
def RO (K : Kw) (ρ : List Addr) (H : Hp) (a : Addr) : O → Prop
  | .lst xs => ∃ vs, H a = some (.lst vs) ∧ Rvs K ρ H xs vs
  | .dic kvs => ∃ xs, H a = some (dkO K.P K.w a xs) ∧ DKs K ρ H kvs xs
  | .set _ => ∃ ob u, H a = some (.frz ob u)
  | .ins c fs => ∃ dx vs, H a = some (.ins (He.ga K.K c) dx vs) ∧ Fsr K ρ H fs vs
theorem RO.not_tup {K : Kw} {ρ : List Addr} {H : Hp} {a : Addr} {o : O} (h : RO K ρ H a o) : (∀ xs, H a ≠ some (.tup xs)) ∧ H a ≠ none := by
  cases o with
  | lst xs =>
    obtain ⟨vs, e, _⟩ := h
    rw [e]
    exact ⟨(fun _ z => by cases z), (fun z => by cases z)⟩
  | dic kvs =>
    obtain ⟨xs, e, _⟩ := h
    rw [e]
    exact ⟨(fun _ z => by cases z), (fun z => by cases z)⟩
  | set _ =>
    obtain ⟨ob, u, e⟩ := h
    rw [e]
    exact ⟨(fun _ z => by cases z), (fun z => by cases z)⟩
  | ins c fs =>
    obtain ⟨dx, xs, e, _⟩ := h
    rw [e]
    exact ⟨(fun _ z => by cases z), (fun z => by cases z)⟩
structure Rep (K : Kw) (ρ : List Addr) (h : Hea) (H : Hp) : Prop where
  len : h.length = ρ.length
  nd : ρ.Nodup
  ob : ∀ (i : Nat) (o : O) (a : Addr), h[i]? = some o → ρ[i]? = some a → RO K ρ H a o
structure Step (ρ ρ' : List Addr) (H H' : Hp) : Prop where
  pre : ∀ (i : Nat) (a : Addr), ρ[i]? = some a → ρ'[i]? = some a
  new : ∀ b, b ∈ ρ' → b ∈ ρ ∨ H b = none
  keep : ∀ b o, H b = some o → b ∉ ρ → H' b = some o
  frz : ∀ b o u, H b = some (.frz o u) → H' b = some (.frz o u)
theorem Step.refl {ρ : List Addr} {H : Hp} : Step ρ ρ H H := ⟨fun _ _ h => h, fun _ h => .inl h, fun _ _ h _ => h, fun _ _ _ h => h⟩
theorem Step.trans {ρ ρ1 ρ2 : List Addr} {H H1 H2 : Hp} (a : Step ρ ρ1 H H1) (b : Step ρ1 ρ2 H1 H2) : Step ρ ρ2 H H2 where
  pre := fun i x h => b.pre i x (a.pre i x h)
  new := fun c hc => by
    rcases b.new c hc with h | h
    · exact a.new c h
    · by_cases hm : c ∈ ρ
      · exact .inl hm
      · right
        cases q : H c with
        | none => rfl
        | some o => rw [a.keep c o q hm] at h; cases h
  keep := fun c o h hm => by
    refine b.keep c o (a.keep c o h hm) fun h1 => ?_
    rcases a.new c h1 with z | z
    · exact hm z
    · rw [z] at h; cases h
  frz := fun c o u h => b.frz c o u (a.frz c o u h)
section
variable {K : Kw} {ρ ρ' : List Addr} {H H' : Hp} {h : Hea}
theorem Rep.at_ (R : Rep K ρ h H) {a : Addr} (ha : a ∈ ρ) : ∃ (i : Nat) (o : O), h[i]? = some o ∧ ρ[i]? = some a ∧ RO K ρ H a o := by
  obtain ⟨i, hi, e⟩ := List.getElem_of_mem ha
  have e' : ρ[i]? = some a := by rw [List.getElem?_eq_getElem hi, e]
  have hl : i < h.length := by rw [R.len]; exact hi
  exact ⟨i, h[i], List.getElem?_eq_getElem hl, e', R.ob i _ a (List.getElem?_eq_getElem hl) e'⟩
theorem Rep.ext (R : Rep K ρ h H) (s : Step ρ ρ' H H') : Ext ρ ρ' H H' where
  pre := s.pre
  tup := fun b xs e => s.keep b _ e fun hb => by
    obtain ⟨_, _, _, _, r⟩ := R.at_ hb
    exact r.not_tup.1 xs e
  frz := s.frz
theorem Rep.idx (R : Rep K ρ h H) {i : Nat} {o : O} (e : h[i]? = some o) : ∃ a, ρ[i]? = some a ∧ RO K ρ H a o := by
  have hi : i < h.length := (List.getElem?_eq_some_iff.mp e).1
  have hr : i < ρ.length := by rw [← R.len]; exact hi
  exact ⟨ρ[i], List.getElem?_eq_getElem hr, R.ob i o _ e (List.getElem?_eq_getElem hr)⟩
theorem nd_idx {ρ : List Addr} (hn : ρ.Nodup) {i j : Nat} {a : Addr} (h1 : ρ[i]? = some a) (h2 : ρ[j]? = some a) : i = j := by
  obtain ⟨l1, e1⟩ := List.getElem?_eq_some_iff.mp h1
  obtain ⟨l2, e2⟩ := List.getElem?_eq_some_iff.mp h2
  exact (List.getElem_inj hn).mp (e1.trans e2.symm)
theorem RO.ext (e : Ext ρ ρ' H H') {a : Addr} {o : O} (ha : ∀ u, H a = some u → H' a = some u) (r : RO K ρ H a o) : RO K ρ' H' a o := by
  cases o with
  | lst xs => obtain ⟨vs, h1, h2⟩ := r; exact ⟨vs, ha _ h1, h2.ext e⟩
  | dic kvs => obtain ⟨xs, h1, h2⟩ := r; exact ⟨xs, ha _ h1, h2.ext e⟩
  | set _ => obtain ⟨ob, u, h1⟩ := r; exact ⟨ob, u, ha _ h1⟩
  | ins c fs => obtain ⟨dx, vs, h1, h2⟩ := r; exact ⟨dx, vs, ha _ h1, h2.ext e⟩
theorem Rep.fresh (R : Rep K ρ h H) {p : Addr} (hp : H p = none) : p ∉ ρ := fun hm => by
  obtain ⟨_, _, _, _, r⟩ := R.at_ hm
  exact r.not_tup.2 hp
theorem Rep.laid (R : Rep K ρ h H) {p : Addr} {u : HO} (hp : H p = none) : Step ρ ρ H (upd H p u) ∧ Rep K ρ h (upd H p u) := by
  have st : Step ρ ρ H (upd H p u) := ⟨fun _ _ h => h, fun _ h => .inl h, fun b o e hb => by rw [upd_ne (ne_of_none e hp)]; exact e, fun b o u e => by rw [upd_ne (ne_of_none e hp)]; exact e⟩
  have ex := R.ext st
  refine ⟨st, R.len, R.nd, fun i o a e1 e2 => (R.ob i o a e1 e2).ext ex fun u' hu => by rw [upd_ne (ne_of_none hu hp)]; exact hu⟩
theorem Rep.push (R : Rep K ρ h H) {p : Addr} {u : HO} {o : O} (hp : H p = none) (new : RO K (ρ ++ [p]) (upd H p u) p o) : Step ρ (ρ ++ [p]) H (upd H p u) ∧ Rep K (ρ ++ [p]) (h ++ [o]) (upd H p u) := by
  have hn := R.fresh hp
  have st : Step ρ (ρ ++ [p]) H (upd H p u) := by
    refine ⟨fun i a e => ?_, fun b hb => ?_, fun b o e hb => by rw [upd_ne (ne_of_none e hp)]; exact e, fun b o u e => by rw [upd_ne (ne_of_none e hp)]; exact e⟩
    · rw [List.getElem?_append_left (List.getElem?_eq_some_iff.mp e).1]; exact e
    · rcases List.mem_append.mp hb with z | z
      · exact .inl z
      · have e : b = p := by simpa using z
        rw [e]; exact .inr hp
  have ex := R.ext st
  refine ⟨st, by simp [R.len], ?_, fun i o' a e1 e2 => ?_⟩
  · refine List.nodup_append.mpr ⟨R.nd, by simp, fun a ha b hb => ?_⟩
    have e : b = p := by simpa using hb
    subst e
    exact fun z => hn (z ▸ ha)
  · by_cases hi : i < h.length
    · rw [List.getElem?_append_left hi] at e1
      rw [List.getElem?_append_left (by rw [← R.len]; exact hi)] at e2
      exact (R.ob i o' a e1 e2).ext ex fun u' hu => by rw [upd_ne (ne_of_none hu hp)]; exact hu
    · have hi' : i = h.length := by
        have := (List.getElem?_eq_some_iff.mp e1).1
        simp at this
        omega
      subst hi'
      rw [List.getElem?_append_right (Nat.le_refl _)] at e1
      rw [R.len, List.getElem?_append_right (Nat.le_refl _)] at e2
      simp at e1 e2
      subst e1 e2
      exact new
theorem Rep.set (R : Rep K ρ h H) {l : Nat} {a : Addr} {u : HO} {o : O} (ha : ρ[l]? = some a) (nf : ∀ ob u, H a ≠ some (.frz ob u)) (new : RO K ρ (upd H a u) a o) : Step ρ ρ H (upd H a u) ∧ Rep K ρ (h.set l o) (upd H a u) := by
  have hm : a ∈ ρ := List.mem_of_getElem? ha
  have st : Step ρ ρ H (upd H a u) := ⟨fun _ _ h => h, fun _ h => .inl h, fun b o e hb => by rw [upd_ne (fun z => by subst z; exact hb hm)]; exact e, fun b o u e => by rw [upd_ne (fun z => by subst z; exact nf _ _ e)]; exact e⟩
  have ex := R.ext st
  refine ⟨st, by simp [R.len], R.nd, fun i o' b e1 e2 => ?_⟩
  by_cases hi : i = l
  · subst hi
    rw [ha] at e2; cases e2
    have hl : i < h.length := by rw [R.len]; exact (List.getElem?_eq_some_iff.mp ha).1
    rw [List.getElem?_set_self hl] at e1
    cases e1
    exact new
  · rw [List.getElem?_set_ne (Ne.symm hi)] at e1
    have hb : b ≠ a := fun z => by subst z; exact hi (nd_idx R.nd e2 ha)
    exact (R.ob i o' b e1 e2).ext ex fun u' hu => by rw [upd_ne hb]; exact hu
end

structure RS (K : Kw) (ρ : List Addr) (H : Hp) (sp : Slots) (σ : St) : Prop where
  len : sp.length = σ.length
  at_ : ∀ (i : Nat) (p : P), sp[i]? = some (some p) → ∃ v, σ[i]? = some (some v) ∧ Rv K ρ H p v
section
variable {K : Kw} {ρ ρ' : List Addr} {H H' : Hp} {sp : Slots} {σ : St}
theorem RS.ext (e : Ext ρ ρ' H H') (r : RS K ρ H sp σ) : RS K ρ' H' sp σ := ⟨r.len, fun i p h => by
  obtain ⟨v, h1, h2⟩ := r.at_ i p h
  exact ⟨v, h1, h2.ext e⟩⟩
theorem RS.set {p : P} {v : V} (r : RS K ρ H sp σ) (h : Rv K ρ H p v) (i : Nat) : RS K ρ H (sp.set i (some p)) (σ.set i (some v)) := by
  refine ⟨by simp [r.len], fun j q hq => ?_⟩
  by_cases hj : j = i
  · subst hj
    have hl : j < sp.length := by
      have := (List.getElem?_eq_some_iff.mp hq).1
      simpa using this
    rw [List.getElem?_set_self hl] at hq
    cases hq
    exact ⟨v, by rw [List.getElem?_set_self (by rw [← r.len]; exact hl)], h⟩
  · rw [List.getElem?_set_ne (Ne.symm hj)] at hq
    rw [List.getElem?_set_ne (Ne.symm hj)]
    exact r.at_ j q hq
theorem RS.wipe (r : RS K ρ H sp σ) : ∀ own : List Nat, RS K ρ H (Ev.wipe sp own) (L2.wipe σ own)
  | [] => r
  | v :: vs => by
    have ih := RS.wipe r vs
    refine ⟨by show ((Ev.wipe sp vs).set v none).length = ((L2.wipe σ vs).set v none).length; simp [ih.len], fun j q hq => ?_⟩
    have hq' : ((Ev.wipe sp vs).set v none)[j]? = some (some q) := hq
    show ∃ w, ((L2.wipe σ vs).set v none)[j]? = some (some w) ∧ _
    by_cases hj : j = v
    · subst hj
      have hl : j < (Ev.wipe sp vs).length := by
        have := (List.getElem?_eq_some_iff.mp hq').1
        simpa using this
      rw [List.getElem?_set_self hl] at hq'
      cases hq'
    · rw [List.getElem?_set_ne (Ne.symm hj)] at hq'
      rw [List.getElem?_set_ne (Ne.symm hj)]
      exact ih.at_ j q hq'
theorem RS.start {ps : List P} {vs : List V} (h : Rvs K ρ H ps vs) (N : List Str) : RS K ρ H (ps.map some ++ List.replicate (N.length - ps.length) none) (L2.start N vs) := by
  unfold L2.start
  rw [h.length]
  refine ⟨by simp [h.length], fun i p hp => ?_⟩
  by_cases hi : i < ps.length
  · rw [List.getElem?_append_left (by simpa using hi), List.getElem?_map] at hp
    rw [List.getElem?_append_left (by simp [h.length]; exact hi), List.getElem?_map]
    rw [List.getElem?_eq_getElem hi] at hp
    simp at hp
    subst hp
    obtain ⟨v, e, r⟩ := h.get (List.getElem?_eq_getElem hi)
    exact ⟨v, by rw [e]; rfl, r⟩
  · rw [List.getElem?_append_right (by simpa using hi), List.getElem?_replicate] at hp
    split at hp <;> cases hp
end

def Post {α : Type} (K : Kw) (EX : Exn → List Addr → Hea → Hp → Prop) (r : R α) (ρ : List Addr) (H : Hp) (Φ : α → List Addr → Hea → Hp → Prop) : Prop :=
  match r with
  | .stk => False
  | .ok a h' => ∀ ρ' H', Step ρ ρ' H H' → Rep K ρ' h' H' → Φ a ρ' h' H'
  | .ex x h' => ∀ ρ' H', Step ρ ρ' H H' → Rep K ρ' h' H' → EX x ρ' h' H'
section
variable {α β : Type} {K : Kw} {EX : Exn → List Addr → Hea → Hp → Prop} {ρ ρ1 : List Addr} {H H1 : Hp}
theorem Post.step {r : R α} {Φ : α → List Addr → Hea → Hp → Prop} (s : Step ρ ρ1 H H1) (h : Post K EX r ρ H Φ) : Post K EX r ρ1 H1 Φ := by
  cases r with
  | stk => exact h
  | ok a h' => exact fun ρ' H' s' => h ρ' H' (s.trans s')
  | ex x h' => exact fun ρ' H' s' => h ρ' H' (s.trans s')
theorem Post.bind {r : R α} {f : α → Hea → R β} {Φ : β → List Addr → Hea → Hp → Prop} (h : Post K EX (r.bind f) ρ H Φ) :
    Post K EX r ρ H fun a ρ1 h1 H1 => Step ρ ρ1 H H1 ∧ Rep K ρ1 h1 H1 ∧ Post K EX (f a h1) ρ1 H1 Φ := by
  cases r with
  | stk => exact h
  | ok a h' => exact fun ρ' H' s R => ⟨s, R, h.step s⟩
  | ex x h' => exact h
theorem Post.imp {r : R α} {Φ Ψ : α → List Addr → Hea → Hp → Prop} (h : Post K EX r ρ H Φ) (k : ∀ a ρ' h' H', Step ρ ρ' H H' → Rep K ρ' h' H' → Φ a ρ' h' H' → Ψ a ρ' h' H') : Post K EX r ρ H Ψ := by
  cases r with
  | stk => exact h
  | ok a h' => exact fun ρ' H' s R => k a ρ' h' H' s R (h ρ' H' s R)
  | ex x h' => exact h
theorem Post.of_ok {a : α} {h : Hea} {Φ : α → List Addr → Hea → Hp → Prop} (R : Rep K ρ h H) (p : Post K EX (.ok a h) ρ H Φ) : Φ a ρ h H := p ρ H .refl R
theorem Post.of_R {o : Option α} {h : Hea} {Φ : α → List Addr → Hea → Hp → Prop} (R : Rep K ρ h H) (p : Post K EX (Ev.R.of o h) ρ H Φ) : ∃ a, o = some a ∧ Φ a ρ h H := by
  cases o with
  | none => exact p.elim
  | some a => exact ⟨a, rfl, p ρ H .refl R⟩
end
abbrev EX1 := Exn → List Addr → Hea → Hp → Prop
theorem sz_eq : SZ = sizeLine := by rw [sizeLine_eq]; rfl
end Ev

namespace Ev
open PySem L2 PySem.W PyProof.Rows
section
variable {X : Cx}
theorem call_reprD (hg : X.A.guards = some []) (hu : X.A.units + 200 < cLine) : CallR X (.builtin "repr") fun xs H Q => ∃ (a : Addr) (d : PyData), xs = [.ref a] ∧ Dp X.K H (.ref a) d ∧ d.showable = true ∧ d.hasDict = false ∧ d.depth ≤ 150 ∧ d.shown.length ≤ sizeLine ∧ Q (.str d.shown) H := by
  intro pins s σ H xs us Q I r h
  obtain ⟨a, d, rfl, hd, h1, h2, h3, h4, q⟩ := h
  obtain ⟨u, rfl, rx⟩ := vals1 r
  obtain ⟨as, rd⟩ := Dp.reads I d _ _ hd rx
  cases rx
  exact repr_of_reads' rd h1 (PyData.noDict_hsm h2) hg (by omega) (fun _ _ e => e) (fun h' u tk hk => ⟨.str d.shown, H, I.kept (t' := tk) hk, ⟨u, rfl⟩, q⟩) h4

theorem each_of {bs : List (V × PyData)} {R : Value → V × PyData → Prop} : ∀ {its : List Value}, Vals (bs.map (·.1)) its → (∀ b ∈ bs, ∀ v, RelV b.1 v → R v b) → EachIs R its bs := by
  induction bs with
  | nil => intro its r _; cases r; exact .nil
  | cons b bs ih =>
    intro its r h
    cases r with
    | cons r1 r2 => exact .cons (h b List.mem_cons_self _ r1) (ih r2 fun c hc => h c (List.mem_cons_of_mem _ hc))
theorem vals_of {out : List Value} {bs : List (V × PyData)} (h : EachIs (fun v (b : V × PyData) => RelV b.1 v) out bs) : Vals (bs.map (·.1)) out := by
  induction h with
  | nil => exact .nil
  | cons h1 _ ih => exact .cons h1 ih
def SortE (ds : List PyData) : Prop := PySem.W.Sortable ds ∨ (ds.length ≤ 1 ∧ ∀ d ∈ ds, d ≠ .none)
theorem sortsAt_e {prog : Program} {w : World} {A : Around} {s : Shared} {vs : List Value} {ds : List PyData} (e : EachIs (fun v d => ∃ as, Reads s.heap v d as) vs ds) (hal : AllAlike ds) (hk : SortE ds) (hu : ∀ d, d ∈ ds → A.units + d.depth < cLine) : SortsAt prog w A s (dataKind s.heap ds) vs := by
  rcases hk with hk | ⟨h1, hn⟩
  · exact SortsAt.data e hal hk hu
  · have room : ∀ {d d' : PyData}, d ∈ ds → A.units + min d.depth d'.depth < cLine := fun {d d'} hd => Nat.lt_of_le_of_lt (Nat.add_le_add_left (Nat.min_le_left _ _) _) (hu d hd)
    refine ⟨fun v hv => ?_, general', ?_, fun h2 => ?_⟩
    · obtain ⟨d, hd, as, r⟩ := e.left v hv
      exact ⟨_, dataKind_some hal hd r⟩
    · intro E x y a b Q ha hb hq
      obtain ⟨d, as, hd, ra, rfl⟩ := dataKind_inv ha
      obtain ⟨d', as', hd', rb, rfl⟩ := dataKind_inv hb
      exact oneLt_alike (f := false) (fun z => nomatch z) ra rb (hal d hd d' hd') (hn d hd) (room hd) hq
    · have := e.length; omega
theorem sorted_dataE {prog : Program} {w : World} {A : Around} {s : Shared} {E : Value → Shared → Prop} {β : Type} {R : Value → β → Prop} {enc : β → PyData} {vs : List Value} {bs : List β} {l : Addr} {Q : Value → Shared → Prop} (hl : s.heap.IsList l vs.toArray) (e : EachIs R vs bs) (er : EachIs (fun v b => ∃ as, Reads s.heap v (enc b) as) vs bs) (hal : AllAlike (bs.map enc)) (hk : SortE (bs.map enc)) (hL : bs.length ≤ sizeLine)
    (hu : ∀ b, b ∈ bs → A.units + 2 + (enc b).depth < cLine) (h : ∀ out, out.length = bs.length → EachIs R out (bs.mergeSort (dataLe false enc)) → Q (.ref (s.heap.objs.size + 1)) { s with heap := sortedAll s.heap vs (List.toArray out) }) :
    wpAny (model prog w) A (call (.builtin "sorted") [.ref l]) Q E s := by
  have er' : EachIs (fun v b => ∃ as, Reads (sortingHeap (copyHeap s.heap vs) (s.heap.objs.size + 1) vs) v (enc b) as) vs bs := er.mono fun _ _ ⟨as, r⟩ => ⟨as, PyProof.Rows.Reads.keeps (fun _ _ => sorting_copy_old) r⟩
  exact sorted_vals hl (sortsAt_e (s := { s with heap := sortingHeap (copyHeap s.heap vs) (s.heap.objs.size + 1) vs }) (each_map (R := fun v d => ∃ as, Reads (sortingHeap (copyHeap s.heap vs) (s.heap.objs.size + 1) vs) v d as) enc er') hal hk (bound_map hu)) (by rw [e.length]; exact hL)
    (h _ (by rw [sortVals_length false rfl]; exact e.length) (sortVals_data false e er' hal))
theorem call_sortD (hu : X.A.units + 200 < cLine) : CallR X (.builtin "sorted") fun xs H Q => ∃ (a : Addr) (bs : List (V × PyData)), xs = [.ref a] ∧ SqL X.K H a (bs.map (·.1)) ∧ (∀ b ∈ bs, Dp X.K H b.1 b.2) ∧ AllAlike (bs.map (·.2)) ∧ SortE (bs.map (·.2)) ∧ (∀ b ∈ bs, b.2.depth ≤ 150) ∧
    ∀ l, H l = none → Q (.ref l) (upd H l (.lst ((bs.mergeSort (dataLe false (·.2))).map (·.1)))) := by
  intro pins s σ H xs us Q I r h
  obtain ⟨a, bs, rfl, hq, hd, hal, hk, hdp, q⟩ := h
  obtain ⟨u, rfl, rx⟩ := vals1 r
  cases rx
  obtain ⟨its, r', pl, hz⟩ := I.list hq
  rw [List.length_map] at hz
  refine sorted_dataE (enc := fun b : V × PyData => b.2) pl.isList (each_of (R := fun v b => RelV b.1 v) r' fun b _ v h => h) (each_of r' fun b hb v h => Dp.reads I b.2 b.1 v (hd b hb) h) hal hk hz (fun b hb => by have := hdp b hb; omega) fun out ho eo => ?_
  obtain ⟨c, hc⟩ := sortedAll_at s.heap its out.toArray
  have hl : ((bs.mergeSort (dataLe false (·.2))).map (·.1)).length ≤ sizeLine := by rw [List.length_map, List.length_mergeSort]; exact hz
  exact ⟨.ref (s.heap.objs.size + 1), _, I.laid (t' := s.toks) (fun b o e => sortedAll_old e) (Nat.le_succ _) (show ObjOk X.prog X.w _ _ _ (.lst _) from ⟨hl, out, c, vals_of eo, hc⟩), rfl, q _ (I.hok.fresh (Nat.le_succ _))⟩
end

set_option maxHeartbeats 1000000 in
theorem meets_enumerate_newT {v : Value} {o : Obj} {H : Heap → Prop} (B : Begins v o H) :
    Meets (Builtin.«enumerate.__new__» ⟨[.type "enumerate", v], []⟩) (fun _ R s => H s.heap ∧
      R (.ok (.ret (.ref (s.heap.push o).objs.size))) { s with heap := (s.heap.push o).push { cls := .type "enumerate", data := .fields #[.none, .bool false, .ref s.heap.objs.size, rawInt 0, .none, .none] } }) :=
  .of_wp fun prog w A R s h => by
    obtain ⟨hp, g, d, tk, os⟩ := s; obtain ⟨h1, h⟩ := h
    have hsub := sub_enumerate
    have q1 : ∀ {A' : Around} {E : Value → Shared → Prop} {Q : Value → Shared → Prop}, Q (.ref hp.objs.size) ⟨hp.push o, g, d, tk, os⟩ → wpAny (model prog w) A' (pyIter v) Q E ⟨hp, g, d, tk, os⟩ :=
      fun q => B.iter prog w _ _ ⟨hp, g, d, tk, os⟩ _ h1 q
    wp_walk using q1
    refine wpAny_stack_any fun st => wpAny_pure ?_
    split
    · rename_i c _ _ _ _ _
      cases (c == Value.type "enumerate")
      · wp_walk using q1
        exact ⟨_, rfl, h⟩
      · wp_walk using q1
        exact ⟨_, rfl, h⟩
    · wp_walk using q1
      exact ⟨_, rfl, h⟩
section
variable {prog : Program} {w : World} {A : Around} {E : Value → Shared → Prop} {s : Shared}
theorem enum_begins1 {v : Value} {o : Obj} {H : Heap → Prop} {Q : Value → Shared → Prop} (B : Begins v o H) (h1 : H s.heap)
    (h : ∀ h', IsEnum h' (s.heap.objs.size + 1) s.heap.objs.size 0 .none → h'.get? s.heap.objs.size = some o → h'.objs.size = s.heap.objs.size + 2 →
      (∀ b o, s.heap.get? b = some o → h'.get? b = some o) → Q (.ref (s.heap.objs.size + 1)) { s with heap := h' }) :
    wpAny (model prog w) A (call (.type "enumerate") [v]) Q E s := by
  refine callType_new F.called_enumerate (by decide) (F.typeCall_enumerate_1 _) (F.newCall_enumerate_1 _) (fun obj => F.args_object_init_2 obj _) F.entry_enumerate_new
    (meets_enumerate_newT B) ⟨h1, ?_⟩
  have hz : (s.heap.push o).objs.size = s.heap.objs.size + 1 := Heap.size_push ..
  show _ ∧ _
  rw [hz]
  have he : IsEnum ((s.heap.push o).push { cls := .type "enumerate", data := .fields #[.none, .bool false, .ref s.heap.objs.size, rawInt 0, .none, .none] }) (s.heap.objs.size + 1) s.heap.objs.size 0 .none := by
    have := Heap.get?_push_size (s.heap.push o) (o := { cls := .type "enumerate", data := .fields #[.none, .bool false, .ref s.heap.objs.size, rawInt 0, .none, .none] }) rfl
    rw [hz] at this; exact this
  refine ⟨⟨_, he, rfl⟩, h _ he (Heap.get?_push_of_some _ (Heap.get?_push_size _ B.free)) (by rw [Heap.size_push, hz]) fun b o x => Heap.get?_push_of_some _ (Heap.get?_push_of_some _ x)⟩
end
def IteT (K : PySem.W.Frag) (a : Addr) : It :=
  ⟨fun i H => ∃ (xs : List V) (x : V), SqT K H a xs ∧ xs[i]? = some x, fun i H v H' => ∃ T x, v = .ref T ∧ H T = none ∧ H' = upd H T (.tup [.int (i : Nat), x]) ∧ ∀ xs, SqT K H a xs → xs[i]? = some x, fun i H => ∃ xs : List V, SqT K H a xs ∧ xs.length ≤ i⟩
theorem turn_enumT {P : Program} {w : World} {K : PySem.W.Frag} {elts : List Expr} {kk : Nat} {tpos : Pos} (a e it : Addr) :
    Turn P w K (.Tuple elts kk tpos) (IteT K a) [e, it] e (fun i h => (∃ old, IsEnum h e it ((i : Nat) : Int) old) ∧ h.IsTupleIter it a i ∧ e ≠ it ∧ a ≠ it ∧ a ≠ e) where
  mem := by simp
  obj := fun i h st b hb => by
    obtain ⟨⟨old, he⟩, ⟨o, ho, hc, hd⟩, _⟩ := st
    have e' : b = e ∨ b = it := by simpa using hb
    rcases e' with z | z
    · rw [z]; exact ⟨_, he, fun v q => nomatch q⟩
    · rw [z]; exact ⟨o, ho, fun v q => by rw [hd] at q; cases q⟩
  keep := fun i h h' st k => let ⟨⟨old, he⟩, hi, hne⟩ := st; ⟨⟨old, k e (by simp) _ he⟩, hi.at fun o q => k it (by simp) o q, hne⟩
  item := by
    intro X hP hw hK hc i pins s σ H E I hf st hg
    subst hP hw hK
    obtain ⟨⟨old, he⟩, hit, hne, hai, hae⟩ := st
    obtain ⟨xs, x, hq, hx⟩ := hg
    obtain ⟨its, rv, p, hz⟩ := I.tuple hq
    obtain ⟨u, hu, ru⟩ := rv.get hx
    have hel : e < s.heap.objs.size := Heap.lt_size he
    have hil : it < s.heap.objs.size := by obtain ⟨_, q, _⟩ := hit; exact Heap.lt_size q
    have hlt : i < its.toArray.size := by
      have := (List.getElem?_eq_some_iff.mp hu).1
      simpa using this
    refine wpAny_pyNext_enum_itemD (Draws.tuple (show X.A.in1.handled = none from I.ok.hd hc) it a hai its.toArray) he ⟨hit, p⟩ hlt hne (by simp [hne, Ne.symm hae]) fun x' h' tk hx' ho hit' hT hsz hk => ?_
    have ex : x' = u := by
      rw [List.getElem?_toArray] at hx'
      rw [hu] at hx'; exact (Option.some.inj hx').symm
    subst ex
    refine ⟨_, rfl, wpAny_letOwnedTupleGo_enum (s := { s with heap := h', toks := tk + 1 }) ho fun h'' he' sb => ?_⟩
    have hT2 : h''.get? s.heap.objs.size = some { cls := .type "tuple", data := .seq #[.int i tk, x'] } := (sb.2 _ (Nat.ne_of_gt hel)).trans hT
    have new : ObjOk X.prog X.w (upd H s.heap.objs.size (.tup [.int (i : Nat), x])) h'' s.heap.objs.size (.tup [.int (i : Nat), x]) :=
      ⟨by show 2 ≤ sizeLine; decide, [.int i tk, x'], .cons ⟨_, rfl⟩ (.cons ru .nil), ⟨_, hT2, rfl, _, rfl⟩⟩
    have I1 : Inv X pins σ (upd H s.heap.objs.size (.tup [.int (i : Nat), x])) { s with heap := h'', toks := tk + 1 } :=
      I.turnedNew (ch := [e, it]) (fun b ob hb q => (sb.2 b (fun z => hb (by simp [z]))).trans (hk b ob (fun z => hb (by simp [z])) (fun z => hb (by simp [z])) q)) hf (Nat.le_refl _) new
    refine ⟨.ref s.heap.objs.size, _, I1, rfl, ⟨_, x, rfl, I.hok.fresh (Nat.le_refl _), rfl, fun ys hy => by rw [I.tuple_inj hy hq]; exact hx⟩, ⟨⟨x', ?_⟩, hit'.1.at fun o q => (sb.2 it (Ne.symm hne)).trans q, hne, hai, hae⟩, fun b hb => ?_⟩
    · have e1 : ((i + 1 : Nat) : Int) = (i : Int) + 1 := by omega
      rw [e1]; exact he'
    · have hb' : b < s.heap.objs.size := by
        have e' : b = e ∨ b = it := by simpa using hb
        rcases e' with z | z
        · rw [z]; exact hel
        · rw [z]; exact hil
      rw [upd_ne (Nat.ne_of_lt hb')]
      exact (hf b hb).1
  done := by
    intro X hP hw hK hc i pins s σ H E I hf st hg
    subst hP hw hK
    obtain ⟨⟨old, he⟩, hit, hne, hai, hae⟩ := st
    obtain ⟨xs, hq, hx⟩ := hg
    obtain ⟨its, rv, p, hz⟩ := I.tuple hq
    obtain ⟨f0, f1, f2, f3, f4, f5⟩ := hf it (by simp)
    have hl := rv.length
    have hT : s.TypeIs (.ref e) "enumerate" := ⟨_, he, rfl⟩
    unfold pyNext
    refine wpAny_bind (wpAny_attempt (wpAny_callSpecial?_slot (name := Str.ofString "__next__") hT F.slot_enumerate_next
      (wpAny_call_entry F.slot_enumerate_next hT F.entry_enumerate_next ?_ (F.args_enumerate_next_1 _))))
    show wpAny _ _ (field (.ref e) 2 >>= _) _ _ _
    refine wpAny_bind (wpAny_field he rfl (x := .ref it) rfl ?_)
    refine wpAny_bind (wpAny_nextOf_tuple_end (show X.A.in1.handled = none from I.ok.hd hc) hit (show s.heap.IsTuple a its.toArray from p) (by simp; omega) fun h' x eb hx' => ?_)
    obtain ⟨o, ho, hc'⟩ := hx'
    refine wpAny_bind (wpAny_isInstance (T := "StopIteration") (b := true) ⟨o, ho, hc'⟩ isSubtype_stop ?_)
    exact wpAny_pure ⟨rfl, I.turned (t' := s.toks) (fun b o hb q => eb b o hb q) f0 f1 f3 f4 f5⟩
  self := fun A i s Q E st h => let ⟨⟨_, he⟩, _⟩ := st; wpAny_pyIter_enum he h
def iEnumS (K : PySem.W.Frag) (ta : TA) : TI := fun σ H R => ta σ H fun vs H1 => ∃ a xs, vs = [.ref a] ∧ ((SqL K H1 a xs ∧ R (Ite K a) H1) ∨ (SqT K H1 a xs ∧ R (IteT K a) H1))
theorem pi_enumS {X : Cx} {e : Expr} {ta : TA} {p pos tpos : Pos} {elts : List Expr} {kk : Nat} (hg : Gl X "enumerate") (hm : X.mg "enumerate" = none) (ha : PA X [e] ta) (hs : starEach [e] X.env = [(false, eval e X.env)] := by rfl) :
    PI X (.Tuple elts kk tpos) (.Call (.Name "enumerate" p) [e] [] pos) (iEnumS X.K ta) := by
  refine ⟨fun pins s σ H R I h => ?_⟩
  refine Call_ (ld_blt I hg hm boot_enumerate (PyProof.Rows.callWith_type1 (thn (ha.run pos pins s σ H _ I h) fun us s1 ⟨vs, H1, I1, r1, q1⟩ => ?_) hs rfl))
  obtain ⟨a, xs, ex, q1⟩ := q1
  subst ex
  cases r1 with
  | cons r rr =>
    cases rr
    cases r
    have fpk : ∀ b ∈ [s1.heap.objs.size + 1, s1.heap.objs.size], FpOk X pins H1 b := fun b hb => by
      have e' : b = s1.heap.objs.size + 1 ∨ b = s1.heap.objs.size := by simpa using hb
      have hle : s1.heap.objs.size ≤ b := by
        rcases e' with z | z
        · rw [z]; exact Nat.le_add_right _ _
        · rw [z]; exact Nat.le_refl _
      exact I1.fpOk hle (I1.hok.fresh hle)
    rcases q1 with ⟨hq, q⟩ | ⟨hq, q⟩
    · obtain ⟨its, rv, p', hz⟩ := I1.list hq
      refine call_enumerate_list p'.isList fun h' he hit hsz hk => wpAny_pyIter_enum he ?_
      have I2 : Inv X pins σ H1 { s1 with heap := h' } := I1.kept (t' := s1.toks) hk
      exact ⟨s1.heap.objs.size + 1, [s1.heap.objs.size + 1, s1.heap.objs.size], _, _, H1, rfl, I2, turn_enum a (s1.heap.objs.size + 1) s1.heap.objs.size, ⟨⟨.none, he⟩, hit, Nat.succ_ne_self _⟩, fpk, q⟩
    · obtain ⟨its, rv, p', hz⟩ := I1.tuple hq
      have hal : a < s1.heap.objs.size := by obtain ⟨_, ho, _⟩ := p'; exact Heap.lt_size ho
      refine enum_begins1 (begins_tuple a its.toArray) p' fun h' he hit hsz hk => wpAny_pyIter_enum he ?_
      have I2 : Inv X pins σ H1 { s1 with heap := h' } := I1.kept (t' := s1.toks) hk
      exact ⟨s1.heap.objs.size + 1, [s1.heap.objs.size + 1, s1.heap.objs.size], _, _, H1, rfl, I2, turn_enumT a (s1.heap.objs.size + 1) s1.heap.objs.size, ⟨⟨.none, he⟩, ⟨_, hit, rfl, rfl⟩, Nat.succ_ne_self _, Nat.ne_of_lt hal, Nat.ne_of_lt (Nat.lt_succ_of_lt hal)⟩, fpk, q⟩
end Ev

namespace Ev
open PySem L2 PyProof.Rows

structure FnG (P : Program) (w : World) (K : PySem.W.Frag) (mg : Str → Option Value) (base : Heap) (CX : CXT) (k : Nat) (f : Addr) (fd : FuncData) (ps : List Str) (sp : Sp) : Prop where
  len : ∀ vs H Q E, sp vs H Q E → vs.length = ps.length
  run : ∀ (A : Around) (outer : List Env) (s : Shared) (H : Hp) (args : Args) (us : List Value) (vs : List V) (Q : VK) (E : XK), A.guards = some [] → Room k A → Env0 P w K mg base A outer s H → BindsTo s fd args (ps.zip us) → Vals vs us → sp vs H Q E →
    codeAny (model P w) A (.call (.ref f) args) (CR CX outer P w H s Q E) s

section
variable {X : Cx} {CX : CXT} {k : Nat} {f : Addr} {fd : FuncData} {ps : List Str} {sp : Sp} {E : XK} {x : Str} {p pos : Pos} {e : Expr} {es : List Expr} {t : TA}
theorem run_fnG {pins : List (Addr × Obj)} {σ : L2.St} {H : Hp} {s : Shared} {Q : VK} {us : List Value} {vs : List V} (F : FnG X.prog X.w X.K X.mg X.base CX k f fd ps sp) (hg : X.A.guards = some []) (hr : Room k X.A) (hb : Binds X.K fd ps []) (hx : Passes CX X E)
    (I : Inv X pins σ H s) (r : Vals vs us) (h : sp vs H Q E) : wpAny (model X.prog X.w) X.A (PySem.call (.ref f) us) (EP X pins σ Q) X.xe s := by
  have hl : us.length = ps.length := by rw [← r.length]; exact F.len _ _ _ _ h
  have b := hb s us I.kIn (by rw [List.append_nil]; exact hl)
  rw [List.append_nil] at b
  refine wpAny_call (codeAny_mono (F.run X.A X.stack s H ⟨us, []⟩ us vs Q E hg hr I.env0 b r h) fun r s' hq => ?_)
  match r, hq with
  | .error e, hq => exact hx pins σ H s e s' I hq
  | .ok (.ret u), hq => exact I.after hq
  | .ok .next, hq => exact False.elim hq
  | .ok .brk, hq => exact False.elim hq
  | .ok .cont, hq => exact False.elim hq
theorem pe_callG (F : FnG X.prog X.w X.K X.mg X.base CX k f fd ps sp) (gd : X.A.guards = some []) (hr : Room k X.A) (hg : Gl X x) (hm : X.mg x = some (.ref f)) (hk : PySem.W.keepIn X.K (.ref f) = true) (hb : Binds X.K fd ps []) (hx : Passes CX X E)
    (ha : PA X (e :: es) t) (hdb : (x == ("__debug__" : Str)) = false) (he : starEach (e :: es) X.env = (false, eval e X.env) :: starEach es X.env) (hpl : (backTo pos (starEach es X.env)).any (·.1) = false) :
    PE X (.Call (.Name x p) (e :: es) [] pos) fun σ H Q => t σ H fun vs H1 => sp vs H1 Q E := by
  refine ⟨fun pins s σ H Q I h => ?_⟩
  refine wpAny_Call_Name_kw (ld_glob I hg hm ?_ hdb)
  exact PySem.W.callWith_K (h₀ := X.base) I.ok.mod.kin hk (thn (ha.run pos pins s σ H _ I h) fun us s1 ⟨vs, H1, I1, r, q⟩ => ⟨I1.kIn, run_fnG F gd hr hb hx I1 r q⟩) he hpl
theorem pe_callG0 (F : FnG X.prog X.w X.K X.mg X.base CX k f fd ps sp) (gd : X.A.guards = some []) (hr : Room k X.A) (hg : Gl X x) (hm : X.mg x = some (.ref f)) (hk : PySem.W.keepIn X.K (.ref f) = true) (hb : Binds X.K fd ps []) (hx : Passes CX X E)
    (hdb : (x == ("__debug__" : Str)) = false) : PE X (.Call (.Name x p) [] [] pos) fun σ H Q => sp [] H Q E := by
  refine ⟨fun pins s σ H Q I h => ?_⟩
  refine wpAny_Call_Name_kw (ld_glob I hg hm ?_ hdb)
  exact PySem.W.callWith_K0 I.kIn hk (run_fnG (us := []) F gd hr hb hx I .nil h)
end
section
variable {P : Program} {w : World} {K : PySem.W.Frag} {mg : Str → Option Value} {base : Heap} {CX : CXT}
theorem fnG_of {x qual : Str} {params : Arguments} {body : List Stmt} {scope : Scope} {dvs : List V} {kws : List (Str × V)} {f : Addr} {fd : FuncData} {N ps : List Str} {k : Nat} {sp : Sp} (F : FunD K x qual params body scope dvs kws f fd) (S : FnScope N ps scope)
    (len : ∀ vs H Q E, sp vs H Q E → vs.length = ps.length)
    (hbody : ∀ (cdv : Value) (A : Around) (outer : List Env) (s : Shared) (H : Hp) (vs : List V) (Q : VK) (E : XK), A.guards = some [] → Room k (A.deeper (envOfC qual scope s.heap.objs.size f cdv)) → sp vs H Q E →
      ∃ t, PSs (cxOf CX P w K mg base N qual scope f cdv A outer s H E) body t ∧ t { nx := fun _ H' => Q .non H', rt := Q } (start N vs) H) : FnG P w K mg base CX (k + 1) f fd ps sp := by
  obtain ⟨oc, od, dV, kV, doc, pm, an, cdv, ct, osl, rfl, lk, hcd, _, _⟩ := F.ex
  refine ⟨len, fun A outer s H args us vs Q E gd hr e0 hb r hsp => ?_⟩
  have KX : K.In s.heap := e0.mod.kin.keeps fun b o e => (e0.bs b o e).1
  have lim : s.heap.NoLimit := e0.mod.nolimit.keeps fun b o e => (e0.bs b o e).1
  refine codeAny_call_function hr.depth (KX _ _ lk) rfl S.co S.gen rfl (PySem.W.codeRec_of KX hcd) (hb _ _ _ _ (wpAny_newFunctionEnv_cells S.kind (fun ⟨n, v⟩ hy => ?_) fun env he s1 x => ?_))
  · rcases S.par n (List.of_mem_zip hy).1 with q | q
    · exact .inl q
    · exact .inr ⟨q, PySem.W.cellsFrom_some _ _ _ (.inl q)⟩
  subst he
  obtain ⟨t, ht, hq⟩ := hbody cdv A outer s H vs Q E gd (hr.deeper _) hsp
  refine ⟨lim.keeps x.toInCall.keep, codeAny_func (wpAny_mono (ht.run [] s1 (start N vs) H _ (inv_start S hr.hd e0 (len _ _ _ _ hsp) r x) hq) (fun fl s' hs => ?_) fun e s' hs => hs)⟩
  match fl, hs with
  | .ret u, ⟨v, σ', H', J, rv, q⟩ => exact ⟨v, H', J.os, J.bare, J.base, J.hok, rv, q⟩
  | .next, ⟨σ', H', J, q⟩ => exact ⟨.non, H', J.os, J.bare, J.base, J.hok, rfl, q⟩
  | .brk, ⟨_, _, _, q⟩ => exact False.elim q
  | .cont, ⟨_, _, _, q⟩ => exact False.elim q
theorem law_callG {mb : Str → Option Value} {k : Nat} {fa a : Addr} {fd : FuncData} {x : Str} {sp : Sp} {s₁ : Shared} {vs : List Value} {ns : List Int}
    (KX : K.In s₁.heap) (hns : s₁.heap.Ns mainGlobals mg) (hb : s₁.heap.Ns builtinsNs mb) (hbb : ∀ x : Str, x ≠ "__name__" → mb x = bootBuiltins x) (hlim : s₁.heap.NoLimit) (hg : s₁.gens = #[])
    (ha : s₁.heap.get? a = some { cls := .type "list", data := .seq vs.toArray }) (hi : IntsAre vs ns) (hl : ns.length ≤ sizeLine) (hr : Room k callerA)
    (F : ∀ base : Heap, K.In base → base.Ns mainGlobals mg → FnG P w K mg base CX k fa fd [x] sp) (hbind : ∀ (s : Shared) (u : Value), BindsTo s fd ⟨[u], []⟩ [(x, u)])
    (hsp : ∀ H : Hp, Only H → SqL K H a (ns.map V.int) → sp [.ref a] H (fun v _ => v = .bl true) fun _ _ _ => False)
    (hCX : ∀ H e s', CX [] H s₁ (fun _ _ _ => False) e s' → False) :
    codeAny (model P w) callerA (.call (.ref fa) ⟨[.ref a], []⟩) (fun r s' => r = .ok (.ret (.bool true)) ∧ OldK s₁.heap s'.heap ∧ s'.os = s₁.os ∧ AllBare s'.gens) s₁ := by
  have lenV := hi.length
  -- H tracks the script at most
  have main : ∀ H : Hp, Only H → SqL K H a (ns.map V.int) → HOk P w H s₁.heap → (∀ b, H b ≠ none → b = a ∧ K.lookup a = none) →
      codeAny (model P w) callerA (.call (.ref fa) ⟨[.ref a], []⟩) (fun r s' => r = .ok (.ret (.bool true)) ∧ OldK s₁.heap s'.heap ∧ s'.os = s₁.os ∧ AllBare s'.gens) s₁ := by
    intro H hO hS hok hA
    have free : ∀ {b : Addr}, (b = a → K.lookup a ≠ none ∨ ∃ o, s₁.heap.get? b = some o ∧ ∀ n, o.data ≠ .seq vs.toArray n) → H b = none := fun {b} hx => by
      cases q : H b with
      | none => rfl
      | some u =>
        obtain ⟨z1, z2⟩ := hA b (by rw [q]; simp)
        rcases hx z1 with c | ⟨o, c1, c2⟩
        · exact absurd z2 c
        · subst z1
          rw [ha] at c1
          cases c1
          exact absurd rfl (c2 _)
    have nsK : ∀ {b : Addr} {m : Str → Option Value}, s₁.heap.Ns b m → (hidT s₁.heap H).Ns b m := fun {b m} ⟨o, es, ep, e, d, r⟩ =>
      ⟨o, es, ep, hidT_get e (free fun _ => .inr ⟨o, e, fun n z => by rw [d] at z; cases z⟩), d, r⟩
    have hKb : K.In (hidT s₁.heap H) := fun b o e => hidT_get (KX b o e) (free fun z => .inl (by subst z; rw [e]; simp))
    have e0 : Env0 P w K mg (hidT s₁.heap H) callerA [] s₁ H := ⟨rfl, ⟨hKb, nsK hns, ⟨mb, nsK hb, hbb⟩, let ⟨mc, h1, h2⟩ := hlim; ⟨mc, nsK h1, h2⟩⟩, fun b o e => of_hidT e, Nat.le_of_eq (hidT_size _ _), trivial, fun b hb => absurd (show b ∈ ([] : List Addr) from hb) (by simp), hok, .of_eq hg⟩
    refine codeAny_mono ((F _ hKb (nsK hns)).run callerA [] s₁ H ⟨[.ref a], []⟩ [.ref a] [.ref a] _ _ rfl hr e0 (hbind s₁ (.ref a)) (.cons rfl .nil) (hsp H hO hS)) fun r s' h => ?_
    match r, h with
    | .error e, h => exact (hCX H e s' h).elim
    | .ok .next, h => exact False.elim h
    | .ok .brk, h => exact False.elim h
    | .ok .cont, h => exact False.elim h
    | .ok (.ret u), ⟨v, H', os, bare, un, hok', r', q⟩ =>
      have q' : v = .bl true := q
      subst q'
      obtain rfl : u = Value.bool true := r'
      refine ⟨rfl, OldK.of_keep fun b o e => ?_, os, bare⟩
      rcases hO b with z | ⟨ob, xs, z⟩
      · exact un.keep b o e z (by intro y; exact absurd (show b ∈ ([] : List Addr) from y) (by simp)) (by simp)
      · obtain ⟨e1, _⟩ := hok b _ z
        obtain ⟨e2, _⟩ := hok' b _ (un.frzs b ob _ z)
        rw [e] at e1; cases e1
        exact e2
  cases hk : K.lookup a with
  | some o =>
    have e := KX a o hk
    rw [ha] at e
    cases e
    exact main (fun _ => none) (fun _ => .inl rfl) (.inr ⟨_, vs.toArray, _, hk, rfl, rfl, rfl, by rw [List.size_toArray, lenV]; exact hl, by simpa using vals_ints hi⟩) (fun b u z => by have z' : (none : Option HO) = some u := z; cases z') fun b z => absurd rfl z
  | none =>
    have at_ : ∀ b, (if b = a then some (HO.frz { cls := .type "list", data := .seq vs.toArray } (.lst (ns.map V.int))) else none) ≠ none → b = a := fun b z => by
      by_cases hb : b = a
      · exact hb
      · exact absurd (if_neg hb) z
    refine main (fun b => if b = a then some (.frz { cls := .type "list", data := .seq vs.toArray } (.lst (ns.map V.int))) else none) (fun b => ?_) (.inl (.inr ⟨{ cls := .type "list", data := .seq vs.toArray }, if_pos rfl⟩)) (fun b u z => ?_) fun b z => ⟨at_ b z, hk⟩
    · by_cases hb : b = a
      · exact .inr ⟨_, _, if_pos hb⟩
      · exact .inl (if_neg hb)
    · have hb := at_ b fun y => by cases z.symm.trans y
      have z' := (if_pos hb).symm.trans z
      cases z'
      subst hb
      exact ⟨ha, by rw [List.length_map]; exact hl, vs, _, vals_ints hi, ha⟩
end
end Ev

namespace Ev
open PySem L2 PyProof.Rows
def hput {β : Type} : List (NestedKey × Addr × β) → NestedKey → Addr → β → List (NestedKey × Addr × β)
  | [], k, b, v => [(k, b, v)]
  | x :: r, k, b, v => if x.1 = k then (x.1, x.2.1, v) :: r else x :: hput r k b v
theorem storedH_eq {k : NestedKey} {b : Addr} {u : Value} : ∀ {ys : DY}, (ys.map (·.1)).Nodup → storedH ys k b u = hput ys k b u
  | [], _ => rfl
  | y :: r, nd => by
    obtain ⟨n1, n2⟩ := List.nodup_cons.mp nd
    have ih := storedH_eq (k := k) (b := b) (u := u) n2
    unfold storedH at ih ⊢
    by_cases e : y.1 = k
    · have ea : atKey (y :: r) k = some y.2 := by simp [atKey, e]
      rw [ea]
      have hn : k ∉ r.map (·.1) := by rw [← e]; exact n1
      simp only [Option.isSome_some, if_true, List.map_cons, hput, e]
      rw [map_putAt_of_not_mem r k u hn]
      simp [putAt, e]
    · have ea : atKey (y :: r) k = atKey r k := by simp [atKey, e]
      rw [ea]
      simp only [hput, e, if_false]
      rw [← ih]
      split
      · simp [putAt, e]
      · rfl
theorem hput_keys {β : Type} {k : NestedKey} {b : Addr} {u : β} : ∀ {ys : List (NestedKey × Addr × β)}, (hput ys k b u).length ≤ ys.length + 1
  | [] => by simp [hput]
  | y :: r => by
    have := hput_keys (k := k) (b := b) (u := u) (ys := r)
    simp only [hput]
    split <;> simp <;> omega
theorem DXY.put {k : NestedKey} {b : Addr} {v : V} {u : Value} (rv : RelV v u) : ∀ {xs : DX} {ys : DY}, DXY xs ys → DXY (hput xs k b v) (hput ys k b u)
  | [], [], _ => .cons ⟨rfl, rfl, rv⟩ .nil
  | x :: xs, y :: ys, .cons h t => by
    simp only [hput]
    rw [← h.1]
    split
    · exact .cons ⟨rfl, h.2.1, rv⟩ t
    · exact .cons h (DXY.put rv t)
theorem DXY.keys : ∀ {xs : DX} {ys : DY}, DXY xs ys → xs.map (·.1) = ys.map (·.1)
  | [], [], _ => rfl
  | x :: xs, y :: ys, .cons h t => by simp [h.1, DXY.keys t]
theorem DXY.length {xs : DX} {ys : DY} (h : DXY xs ys) : xs.length = ys.length := by
  have := congrArg List.length h.keys
  simpa using this
theorem dxy_refs : ∀ {xs : DX} {ys : DY}, DXY xs ys → Vals (xs.map fun x => V.ref x.2.1) (ys.map fun x => Value.ref x.2.1)
  | [], [], _ => .nil
  | x :: xs, y :: ys, .cons h t => .cons (by show RelV (.ref x.2.1) (.ref y.2.1); rw [h.2.1]; rfl) (dxy_refs t)
section
variable {K : Kw} {ρ : List Addr} {H : Hp}
theorem DKs.put {p : P} {q : P} {b : Addr} {v : V} (hk : keyT p = true) (hb : Rv K ρ H p (.ref b)) (hv : Rv K ρ H q v) : ∀ {kvs : List (P × P)} {xs : DX}, DKs K ρ H kvs xs → DKs K ρ H (kvPut kvs p q) (hput xs (nkey p) b v)
  | [], _, h => by cases h; exact ⟨b, v, [], rfl, hk, hb, hv, rfl⟩
  | kv :: kvs, xs, h => by
    obtain ⟨b', v', r, rfl, e2, e3, e4, e5⟩ := h
    simp only [kvPut, hput]
    rw [keyT_inj e2 hk]
    by_cases e : nkey kv.1 = nkey p
    · rw [decide_eq_true e, if_pos rfl, if_pos e]
      exact ⟨b', v, r, rfl, e2, e3, hv, e5⟩
    · rw [decide_eq_false e, if_neg (by simp), if_neg e]
      exact ⟨b', v', _, rfl, e2, e3, e4, e5.put hk hb hv⟩
theorem DKs.has {p : P} (hk : keyT p = true) : ∀ {kvs : List (P × P)} {xs : DX} {ys : DY}, DKs K ρ H kvs xs → DXY xs ys → (atKey ys (nkey p)).isSome = kvHas kvs p
  | [], _, ys, h, d => by cases h; cases d; rfl
  | kv :: kvs, xs, ys, h, d => by
    obtain ⟨b', v', r, rfl, e2, e3, e4, e5⟩ := h
    cases d with
    | @cons _ y _ ys d1 d2 =>
      have ih := e5.has hk d2
      simp only [kvHas]
      rw [keyT_inj e2 hk, ← ih]
      have hy : y.1 = nkey kv.1 := d1.1.symm
      by_cases e : nkey kv.1 = nkey p
      · simp [atKey, hy, e]
      · simp [atKey, hy, e]
theorem DKs.get {p q : P} (hk : keyT p = true) : ∀ {kvs : List (P × P)} {xs : DX} {ys : DY}, DKs K ρ H kvs xs → DXY xs ys → kvGet kvs p = some q → ∃ b u w, atKey ys (nkey p) = some (b, u) ∧ RelV w u ∧ Rv K ρ H q w
  | [], _, ys, h, d, e => by cases e
  | kv :: kvs, xs, ys, h, d, e => by
    obtain ⟨b', v', r, rfl, e2, e3, e4, e5⟩ := h
    cases d with
    | @cons _ y _ ys d1 d2 =>
      have hy : y.1 = nkey kv.1 := d1.1.symm
      simp only [kvGet] at e
      rw [keyT_inj e2 hk] at e
      by_cases en : nkey kv.1 = nkey p
      · rw [decide_eq_true en, if_pos rfl] at e
        cases e
        exact ⟨y.2.1, y.2.2, v', by simp [atKey, hy, en], d1.2.2, e4⟩
      · rw [decide_eq_false en, if_neg (by simp)] at e
        obtain ⟨b, u, w, q1, q2, q3⟩ := e5.get hk d2 e
        exact ⟨b, u, w, by simpa [atKey, hy, en] using q1, q2, q3⟩
theorem kvHas_none {p : P} : ∀ {kvs : List (P × P)}, kvGet kvs p = none → kvHas kvs p = false
  | [], _ => rfl
  | kv :: kvs, h => by
    simp only [kvGet] at h
    simp only [kvHas]
    split at h
    · cases h
    · rename_i q
      rw [kvHas_none h]
      simpa using q
theorem DKs.keysV : ∀ {kvs : List (P × P)} {xs : DX}, DKs K ρ H kvs xs → Rvs K ρ H (kvs.map (·.1)) (xs.map fun x => V.ref x.2.1)
  | [], _, h => by cases h; rfl
  | kv :: kvs, xs, h => by
    obtain ⟨b', v', r, rfl, e2, e3, e4, e5⟩ := h
    exact ⟨_, _, rfl, e3, e5.keysV⟩
end
theorem subTail_dict {prog : Program} {w : World} {A : Around} {E : Value → Shared → Prop} {s : Shared} {value slice : Expr} {o i : Value} {Q : Value → Shared → Prop} (hT : s.TypeIs o "dict") (hs : subscripted slice false o i = operate [o, i] (getItem o i))
    (h : wpAny (model prog w) A (getItem o i) Q E s) : wpAny (model prog w) A (subscriptTail value slice o i) Q E s := by
  unfold subscriptTail
  refine wpAny_bind ?_
  rw [getitemInPython_of_ne hT.not_modules]
  refine wpAny_bind (wpAny_specialOf hT PySem.F.slot_dict_getitem.lookup ?_)
  have fin : wpAny (model prog w) A (subscripted slice false o i) (fun r s₃ => wpAny (model prog w) A (letTemporaryGo value o r >>= fun _ => pure r) Q E s₃) E s := by
    rw [hs]
    exact wpAny_operating (wpAny_mono h (fun r s₃ h₃ => wpAny_bind (wpAny_letTemporaryGo (wpAny_pure h₃))) fun _ _ x => x)
  first
    | exact wpAny_pure (wpAny_bind fin)
    | exact wpAny_bind (wpAny_pure (wpAny_bind fin))
    | exact wpAny_bind fin
section
variable {X : Cx} {pins : List (Addr × Obj)} {σ : L2.St} {H : Hp} {s : Shared} {ρ : List Addr} {h : Hea}
mutual
theorem nis_of (I : Inv X pins σ H s) : ∀ (p : P) (n : Nat) (v : V) (u : Value), deepP n p = true → Rv X.kw ρ H p v → RelV v u → NestedIs s.heap (nkey p) u
  | .non, n, v, u, d, r, e => by cases r; cases e; exact .none
  | .bl _, n, v, u, d, r, e => by cases n <;> cases d
  | .int i, n, v, u, d, r, e => by
    cases r
    obtain ⟨t, rfl⟩ := e
    exact .int i t
  | .str x, n, v, u, d, r, e => by
    cases r
    obtain ⟨t, rfl⟩ := e
    exact .text x t
  | .ty _, n, v, u, d, r, e => by cases n <;> cases d
  | .ref _, n, v, u, d, r, e => by cases n <;> cases d
  | .gl _, n, v, u, d, r, e => by cases n <;> cases d
  | .kls _, n, v, u, d, r, e => by cases n <;> cases d
  | .tup ps, n, v, u, d, r, e => by
    cases n with
    | zero => cases d
    | succ n =>
      obtain ⟨a, vs, rfl, h1, h2⟩ := r
      cases e
      obtain ⟨its, rv, ⟨o, ho, hc, m, hd⟩, _⟩ := I.tuple h1
      exact .tup ho hc hd (by simpa using nis_all I ps n vs its d h2 rv)
theorem nis_all (I : Inv X pins σ H s) : ∀ (ps : List P) (n : Nat) (vs : List V) (us : List Value), deepPs n ps = true → Rvs X.kw ρ H ps vs → Vals vs us → NestedAll s.heap (nkeys ps) us
  | [], n, vs, us, d, r, e => by cases r; cases e; exact .nil
  | p :: ps, n, vs, us, d, r, e => by
    obtain ⟨v, vr, rfl, r1, r2⟩ := r
    cases e with
    | cons e1 e2 =>
      simp only [deepPs, Bool.and_eq_true] at d
      exact .cons (nis_of I p n v _ d.1 r1 e1) (nis_all I ps n vr _ d.2 r2 e2)
end
theorem key_is (I : Inv X pins σ H s) {p : P} {b : Addr} (hk : keyT p = true) (r : Rv X.kw ρ H p (.ref b)) : (nestedKind X.prog X.w).is s.heap (nkey p) b :=
  ⟨nis_of I p 7 _ _ (keyT_deep hk) r rfl, Nat.le_trans (nkey_depth p 7 (keyT_deep hk)) (by decide)⟩
theorem keys_are (I : Inv X pins σ H s) : ∀ {kvs : List (P × P)} {xs : DX} {ys : DY}, DKs X.kw ρ H kvs xs → DXY xs ys → ∀ y ∈ ys, (nestedKind X.prog X.w).is s.heap y.1 y.2.1
  | [], _, ys, h, d, y, hy => by cases h; cases d; cases hy
  | kv :: kvs, xs, ys, h, d, y, hy => by
    obtain ⟨b', v', r, rfl, e2, e3, e4, e5⟩ := h
    cases d with
    | @cons _ z _ ys d1 d2 =>
      rcases List.mem_cons.mp hy with rfl | hy
      · have e1 : y.1 = nkey kv.1 := d1.1.symm
        have e6 : y.2.1 = b' := d1.2.1.symm
        rw [e1, e6]
        exact key_is I e2 e3
      · exact keys_are I e5 d2 y hy
theorem dic_at (I : Inv X pins σ H s) {a : Addr} {kvs : List (P × P)} {xs : DX} (e : H a = some (dkO X.prog X.w a xs)) (dk : DKs X.kw ρ H kvs xs) : ∃ ys : DY, DXY xs ys ∧ (a == sysModules) = false ∧ xs.length ≤ sizeLine ∧ s.heap.DictOfH (nestedKind X.prog X.w) a ys := by
  obtain ⟨⟨d1, d2, ys, d3, ⟨o, es, ep, e1, e2, e3, e4⟩, d5⟩, _⟩ := I.hok a _ e
  exact ⟨ys, d3, d1, d2, o, es, ep, e1, e2, e3, e4, keys_are I dk d3, d5⟩
theorem dic_open (I : Inv X pins σ H s) {a : Addr} {kvs : List (P × P)} (ro : RO X.kw ρ H a (.dic kvs)) : ∃ (xs : DX) (ys : DY), H a = some (dkO X.prog X.w a xs) ∧ DKs X.kw ρ H kvs xs ∧ DXY xs ys ∧ (a == sysModules) = false ∧ xs.length ≤ sizeLine ∧
    s.heap.DictOfH (nestedKind X.prog X.w) a ys := by
  obtain ⟨xs, e, dk⟩ := ro
  obtain ⟨ys, d3, d1, d2, dd⟩ := dic_at I e dk
  exact ⟨xs, ys, e, dk, d3, d1, d2, dd⟩
theorem room8 (hu : X.A.units + 200 < cLine) : (nestedKind X.prog X.w).room X.A := by
  show X.A.units + 8 < cLine
  omega
theorem room8' (hu : X.A.units + 200 < cLine) : (nestedKind X.prog X.w).room X.A.in1 := by
  show X.A.in1.units + 8 < cLine
  rw [Around.in1_units]; omega
theorem Rep.dic {K : Kw} (R : Rep K ρ h H) {l : Nat} {kvs : List (P × P)} (e : h[l]? = some (.dic kvs)) : ∃ a, ρ[l]? = some a ∧ RO K ρ H a (.dic kvs) := R.idx e
theorem tup_ref {K : Kw} {ps : List P} {v : V} (r : Rv K ρ H (.tup ps) v) : ∃ b, v = .ref b := by
  obtain ⟨a, vs, rfl, _⟩ := r
  exact ⟨a, rfl⟩
theorem key_ref {K : Kw} {p : P} {v : V} (hk : keyT p = true) (r : Rv K ρ H p v) : ∃ b, v = .ref b := by
  cases p <;> first | exact tup_ref r | cases hk
theorem din_ok (hu : X.A.units + 200 < cLine) (neg : Bool) {Q : VK} {a : Addr} {kvs : List (P × P)} {p : P} {x : V} {v : Value} (I : Inv X pins σ H s) (ro : RO X.kw ρ H a (.dic kvs)) (hk : keyT p = true) (hp : Rv X.kw ρ H p x) (rx : RelV x v)
    (q : Q (.bl (if neg then !(kvHas kvs p) else kvHas kvs p)) H) : wpAny (model X.prog X.w) X.A (compareOp (if neg then .NotIn else .In) v (.ref a)) (EP X pins σ Q) X.xe s := by
  obtain ⟨xs, ys, e, dk, d3, d1, d2, dd⟩ := dic_open I ro
  obtain ⟨b, rfl⟩ := key_ref hk hp
  cases rx
  have hh := dk.has hk d3
  cases neg with
  | false => exact wpAny_in_heap (room8' hu) (key_is I hk hp) d1 dd ⟨.bl _, H, I.tok _, by rw [hh]; rfl, q⟩
  | true => exact wpAny_notIn_heap (room8' hu) (key_is I hk hp) d1 dd ⟨.bl _, H, I.tok _, by rw [hh]; rfl, q⟩
theorem dget_ok (hu : X.A.units + 200 < cLine) {Q : VK} {a : Addr} {kvs : List (P × P)} {p q : P} {x : V} {v : Value} (I : Inv X pins σ H s) (ro : RO X.kw ρ H a (.dic kvs)) (hk : keyT p = true) (hp : Rv X.kw ρ H p x) (rx : RelV x v) (hg : kvGet kvs p = some q)
    (k : ∀ w, Rv X.kw ρ H q w → Q w H) : wpAny (model X.prog X.w) X.A (getItem (.ref a) v) (EP X pins σ Q) X.xe s := by
  obtain ⟨xs, ys, e, dk, d3, d1, d2, dd⟩ := dic_open I ro
  obtain ⟨b, rfl⟩ := key_ref hk hp
  cases rx
  obtain ⟨c, u, w, e1, e2, e3⟩ := dk.get hk d3 hg
  exact wpAny_getItem_heap (room8' hu) (key_is I hk hp) dd e1 ⟨w, H, I.tok _, e2, k w e3⟩
theorem dkO_put (I : Inv X pins σ H s) {a : Addr} {xs : DX} {ys : DY} {k : NestedKey} {b : Addr} {v : V} {u : Value} {h' : Heap} {t : Nat} (e : H a = some (dkO X.prog X.w a xs)) (d3 : DXY xs ys) (d1 : (a == sysModules) = false) (hz : xs.length < sizeLine) (nd : (ys.map (·.1)).Nodup) (rv : RelV v u)
    (dd : h'.DictOfH (nestedKind X.prog X.w) a (storedH ys k b u)) (sb : Heap.SameBut a s.heap h') : Inv X pins σ (upd H a (dkO X.prog X.w a (hput xs k b v))) { s with heap := h', toks := t } := by
  obtain ⟨o, es, ep, e1, e2, e3, e4, _, e6⟩ := dd
  refine d_write I (by rw [e]; exact True.intro) sb ⟨o, e1⟩ (dkO_new ⟨d1, ?_, hput ys k b u, d3.put rv, ⟨o, es, ep, e1, e2, e3, ?_⟩, ?_⟩)
  · have := hput_keys (ys := xs) (k := k) (b := b) (u := v)
    omega
  · rw [← storedH_eq nd]; exact e4
  · rw [← storedH_eq nd]; exact e6
theorem Post.putD {K : Kw} {EX : EX1} {α : Type} {l : Nat} {a : Addr} {c : α} {kvs : List (P × P)} {xs : DX} {Φ : α → List Addr → Hea → Hp → Prop} (R : Rep K ρ h H) (ha : ρ[l]? = some a) (hm : ∃ xs, H a = some (dkO K.P K.w a xs)) (hv : DKs K ρ H kvs xs)
    (p : Post K EX (.ok c (h.set l (.dic kvs))) ρ H Φ) : ∃ e : Ext ρ ρ H (upd H a (dkO K.P K.w a xs)), Φ c ρ (h.set l (.dic kvs)) (upd H a (dkO K.P K.w a xs)) := by
  obtain ⟨ws, hw⟩ := hm
  have ex : Ext ρ ρ H (upd H a (dkO K.P K.w a xs)) := ⟨fun _ _ e => e, fun b xs e => by
    rw [upd_ne (fun z => by subst z; rw [hw] at e; cases e)]; exact e, fun b o u e => by
    rw [upd_ne (fun z => by subst z; rw [hw] at e; cases e)]; exact e⟩
  obtain ⟨st, R'⟩ := R.set (u := dkO K.P K.w a xs) (o := .dic kvs) ha (fun _ _ z => by rw [hw] at z; cases z) ⟨xs, upd_same, hv.ext ex⟩
  exact ⟨ex, p ρ _ st R'⟩
theorem dset_ok (hu : X.A.units + 200 < cLine) {EX : EX1} {Q : Hp → Prop} {l : Nat} {a : Addr} {kvs : List (P × P)} {p q : P} {x y : V} {v u : Value} (I : Inv X pins σ H s) (R : Rep X.kw ρ h H) (ha : ρ[l]? = some a) (e0 : h[l]? = some (.dic kvs)) (hk : keyT p = true) (hz : kvs.length < SZ) (hp : Rv X.kw ρ H p x) (rx : RelV x v) (hq : Rv X.kw ρ H q y) (ry : RelV y u)
    (post : Post X.kw EX (.ok () (h.set l (.dic (kvPut kvs p q)))) ρ H fun _ ρ' h' H' => Ext ρ ρ' H H' → Q H') : wpAny (model X.prog X.w) X.A (setItem (.ref a) v u) (fun _ s' => ∃ H', Inv X pins σ H' s' ∧ Q H') X.xe s := by
  obtain ⟨a', ha', ro⟩ := R.dic e0
  rw [ha] at ha'; cases ha'
  obtain ⟨xs, ys, e, dk, d3, d1, d2, dd⟩ := dic_open I ro
  obtain ⟨b, rfl⟩ := key_ref hk hp
  cases rx
  have hx : xs.length < sizeLine := by rw [dk.length, ← sz_eq]; exact hz
  have nd := dd.nodup
  obtain ⟨ex, post⟩ := Post.putD R ha ⟨xs, e⟩ (dk.put hk hp hq) post
  exact wpAny_setItem_heap (hsz := by rw [← d3.length]; omega) (room8' hu) (key_is I hk hp) dd fun h' dd' sb => ⟨_, dkO_put I e d3 d1 hx nd ry dd' sb, post ex⟩
theorem dkO_empty (H : Hp) (hh : Heap) (hb : sysModules < hh.objs.size) : ObjOk X.prog X.w H (hh.push { cls := .type "dict", data := .dict #[] }) hh.objs.size (dkO X.prog X.w hh.objs.size []) :=
  dkO_new ⟨beq_eq_false_iff_ne.mpr (Ne.symm (Nat.ne_of_lt hb)), Nat.zero_le _, [], .nil, ⟨_, #[], 0, Heap.get?_push_size _ rfl, ⟨rfl, rfl, rfl⟩, rfl, rfl⟩, List.nodup_nil⟩
theorem Post.dic0 {K : Kw} {EX : EX1} {Q : VK} {kvs : List (P × P)} {xs : DX} (R : Rep K ρ h H) (hv : DKs K ρ H kvs xs) (p : Post K EX (mkObj (.dic kvs) h) ρ H fun a ρ' h' H' => ∀ v, Rv K ρ' H' a v → Q v H') :
    ∀ q, H q = none → Q (.ref q) (upd H q (dkO K.P K.w q xs)) := by
  intro q hq
  have new : RO K (ρ ++ [q]) (upd H q (dkO K.P K.w q xs)) q (.dic kvs) := by
    refine ⟨xs, upd_same, hv.ext ⟨fun i a e => ?_, fun b xs e => ?_, fun b o u e => ?_⟩⟩
    · rw [List.getElem?_append_left (List.getElem?_eq_some_iff.mp e).1]; exact e
    · rw [upd_ne (ne_of_none e hq)]; exact e
    · rw [upd_ne (ne_of_none e hq)]; exact e
  obtain ⟨st, R'⟩ := R.push hq new
  exact p _ _ st R' (.ref q) ⟨q, by rw [R.len, List.getElem?_append_right (Nat.le_refl _)]; simp, rfl⟩
def tDic0 (P : Program) (w : World) : TE := fun _ H Q => ∀ p, H p = none → Q (.ref p) (upd H p (dkO P w p []))
theorem pe_dic0 {pos : Pos} : PE X (.Dict [] [] pos) (tDic0 X.prog X.w) := ⟨fun pins s σ H Q I h =>
  wpAny_Dict_empty ⟨.ref s.heap.objs.size, _, I.laid (a := s.heap.objs.size) (o := dkO X.prog X.w s.heap.objs.size []) (t' := s.toks) (fun _ _ q => Heap.get?_push_of_some _ q) (Nat.le_refl _) (dkO_empty _ s.heap I.big), rfl, h _ (I.hok.fresh (Nat.le_refl _))⟩⟩
theorem call_list_dic (hc : X.calm = true) : CallR X (.type "list") (fun xs H Q => ∃ (d : Addr) (ρ : List Addr) (kvs : List (P × P)), xs = [V.ref d] ∧ RO X.kw ρ H d (.dic kvs) ∧ ∀ p vs, H p = none → Rvs X.kw ρ H (kvs.map (·.1)) vs → Q (.ref p) (upd H p (.lst vs))) := by
  intro pins s σ H xs us Q I r h
  obtain ⟨d, ρ, kvs, rfl, ro, q⟩ := h
  obtain ⟨u, rfl, rx⟩ := r.one
  cases rx
  obtain ⟨xs, ys, e, dk, d3, hs, z, o, es, ep, ho, hx, hdt, he, _, hn⟩ := dic_open I ro
  have l1 : es.size = ys.length := size_of_entries he
  have l2 := d3.length
  refine PySem.W.kdl_call (kdl_raw hs hx hdt) (I.ok.hd hc) ho (by omega) fun h' tk acc' c' kp e it => ?_
  have ea : acc'.toList = ys.map fun x => Value.ref x.2.1 := by
    have hl : acc'.toList.length = ys.length := by rw [Array.length_toList, it.1]; exact l1
    apply List.ext_getElem?
    intro j
    rw [List.getElem?_map]
    cases hj : acc'.toList[j]? with
    | none =>
      have h1 := List.getElem?_eq_none_iff.mp hj
      rw [List.getElem?_eq_none (by omega)]
      all_goals rfl
    | some v =>
      obtain ⟨en, hen, hv⟩ := it.2 j v (by rw [← Array.getElem?_toList]; exact hj)
      have qe := entry_at he j
      rw [hen] at qe
      cases hb : ys[j]? with
      | none =>
        rw [hb] at qe
        exact nomatch (show some en = none from qe)
      | some b =>
        rw [hb] at qe
        have e2 : en = entryOfKey (nestedKind X.prog X.w) b := Option.some.inj qe
        rw [hv, e2]
        all_goals rfl
  have rv : Vals (xs.map fun x => V.ref x.2.1) acc'.toList := by
    rw [ea]
    exact dxy_refs d3
  have hz : (xs.map fun x => V.ref x.2.1).length ≤ sizeLine := by rw [List.length_map]; omega
  refine ⟨.ref s.heap.objs.size, _, I.laid (t' := tk) (o := .lst (xs.map fun x => V.ref x.2.1)) kp (Nat.le_refl _) ?_, rfl, q _ _ (I.hok.fresh (Nat.le_refl _)) dk.keysV⟩
  exact ⟨hz, acc'.toList, c', rv, by rw [Array.toArray_toList]; exact e⟩
theorem call_sort_dic (hc : X.calm = true) (hu : X.A.units + 200 < cLine) : CallR X (.builtin "sorted") (fun xs H Q => ∃ (d : Addr) (ρ : List Addr) (kvs : List (P × P)), xs = [V.ref d] ∧ RO X.kw ρ H d (.dic kvs) ∧ ∀ vs, Rvs X.kw ρ H (kvs.map (·.1)) vs →
    ∃ bs : List (V × PyData), bs.map (·.1) = vs ∧ (∀ b ∈ bs, Dp X.K H b.1 b.2) ∧ PySem.W.AllAlike (bs.map (·.2)) ∧ SortE (bs.map (·.2)) ∧ (∀ b ∈ bs, b.2.depth ≤ 150) ∧ ∀ l, H l = none → Q (.ref l) (upd H l (.lst ((bs.mergeSort (PySem.W.dataLe false (·.2))).map (·.1))))) := by
  intro pins s σ H xs us Q I r h
  obtain ⟨d, ρ, kvs, rfl, ro, q⟩ := h
  obtain ⟨u, rfl, rx⟩ := r.one
  cases rx
  obtain ⟨xs, ys, e, dk, d3, hs, z, o, es, ep, ho, hx, hdt, he, _, hn⟩ := dic_open I ro
  have l1 : es.size = ys.length := size_of_entries he
  have l2 := d3.length
  refine Calls.call_function_entry PyProof.Rows.kind_sorted PyProof.Rows.plain_sorted PyProof.Rows.entry_sorted (PyProof.Rows.args_sorted1 _) ?_
  unfold Builtin.«sorted»
  refine wpAny_bind (m := checkCount "sorted" 1 1 _) (wpAny_pure ?_)
  refine wpAny_bind (PySem.W.kdu_collect (A := X.A.in1) (kdl_raw hs hx hdt) (I.ok.hd hc) ho (by omega) fun h' tk acc kp it => ?_)
  have ea : acc.toList = ys.map fun x => Value.ref x.2.1 := by
    have hl : acc.toList.length = ys.length := by rw [Array.length_toList, it.1]; exact l1
    apply List.ext_getElem?
    intro j
    rw [List.getElem?_map]
    cases hj : acc.toList[j]? with
    | none =>
      have h1 := List.getElem?_eq_none_iff.mp hj
      rw [List.getElem?_eq_none (by omega)]
      all_goals rfl
    | some v =>
      obtain ⟨en, hen, hv⟩ := it.2 j v (by rw [← Array.getElem?_toList]; exact hj)
      have qe := entry_at he j
      rw [hen] at qe
      cases hb : ys[j]? with
      | none =>
        rw [hb] at qe
        exact nomatch (show some en = none from qe)
      | some b =>
        rw [hb] at qe
        have e2 : en = entryOfKey (nestedKind X.prog X.w) b := Option.some.inj qe
        rw [hv, e2]
        all_goals rfl
  have rv : Vals (xs.map fun x => V.ref x.2.1) acc.toList := by
    rw [ea]
    exact dxy_refs d3
  obtain ⟨bs, eb, dp, hal, hk, hdp, q⟩ := q _ dk.keysV
  have I1 : Inv X pins σ H { s with heap := h', toks := tk } := I.kept kp
  have hlen : acc.toList.length = bs.length := by
    rw [Array.length_toList, it.1, l1, ← l2]
    have := congrArg List.length eb
    simp only [List.length_map] at this
    exact this.symm
  have rb : Vals (bs.map (·.1)) acc.toList := by rw [eb]; exact rv
  have hbl : bs.length ≤ sizeLine := by
    have := congrArg List.length eb
    simp only [List.length_map] at this
    omega
  refine wpAny_bind (wpAny_newList ?_ (by rw [hlen]; exact hbl))
  have hoL : (h'.push (seqObj "list" acc.toList.toArray 0)).get? h'.objs.size = some (seqObj "list" acc.toList.toArray 0) := Heap.get?_push_size _ rfl
  show wpAny _ _ _ _ _ { s with heap := h'.push (seqObj "list" acc.toList.toArray 0), toks := tk }
  have old : ∀ b o, h'.get? b = some o → (PySem.W.sortingHeap (h'.push (seqObj "list" acc.toList.toArray 0)) h'.objs.size acc.toList).get? b = some o := fun b o e => by
    have hb : b < h'.objs.size := Heap.lt_size e
    exact PySem.W.sortingHeap_old (Nat.ne_of_lt hb) (Heap.get?_push_of_some _ e)
  have er : PySem.W.EachIs (fun v (b : V × PyData) => ∃ as, Reads (PySem.W.sortingHeap (h'.push (seqObj "list" acc.toList.toArray 0)) h'.objs.size acc.toList) v b.2 as) acc.toList bs := each_of rb fun b hb v h => by
    obtain ⟨as, rd⟩ := Dp.reads I1 b.2 b.1 v (dp b hb) h
    exact ⟨as, PyProof.Rows.Reads.keeps old rd⟩
  have e1 : PySem.W.EachIs (fun v (b : V × PyData) => RelV b.1 v) acc.toList bs := each_of rb fun b _ v h => h
  refine wpAny_bind (wpAny_holding (wpAny_call_entry PyProof.Rows.slot_list_sort ⟨_, hoL, rfl⟩ PyProof.Rows.entry_list_sort
    (PySem.W.list_sort_vals (s := { s with heap := h'.push (seqObj "list" acc.toList.toArray 0), toks := tk }) (κ := PySem.W.dataKind (PySem.W.sortingHeap (h'.push (seqObj "list" acc.toList.toArray 0)) h'.objs.size acc.toList) (bs.map (·.2))) hoL
      (sortsAt_e (s := { s with heap := PySem.W.sortingHeap (h'.push (seqObj "list" acc.toList.toArray 0)) h'.objs.size acc.toList, toks := tk }) (PySem.W.each_map (R := fun v d => ∃ as, Reads (PySem.W.sortingHeap (h'.push (seqObj "list" acc.toList.toArray 0)) h'.objs.size acc.toList) v d as) (fun b : V × PyData => b.2) er) hal hk (PySem.W.bound_map fun b hb => by have := hdp b hb; have : X.A.in1.in1.units = X.A.units + 2 := rfl; omega)) (by rw [hlen]; exact hbl) ⟨_, rfl, ?_⟩)
    (PyProof.Rows.args_list_sort _)))
  have eo := PySem.W.sortVals_data false e1 er hal
  generalize PySem.W.sortVals (PySem.W.dataKind (PySem.W.sortingHeap (h'.push (seqObj "list" acc.toList.toArray 0)) h'.objs.size acc.toList) (bs.map (·.2))) false acc.toList acc.toList = out at eo ⊢
  obtain ⟨c, hcc⟩ := PyProof.Rows.sortedHeap_at (vs := acc.toList) (out := out.toArray) hoL
  have hl : ((bs.mergeSort (PySem.W.dataLe false (·.2))).map (·.1)).length ≤ sizeLine := by rw [List.length_map, List.length_mergeSort]; exact hbl
  refine wpAny_pure ⟨_, rfl, .ref h'.objs.size, _, I1.laid (t' := tk) (fun b u e => ?_) (Nat.le_refl _) (show ObjOk X.prog X.w _ _ _ (.lst _) from ⟨hl, out, c, vals_of eo, hcc⟩), rfl, q _ (I1.hok.fresh (Nat.le_refl _))⟩
  have hb : b < h'.objs.size := Heap.lt_size e
  exact (PyProof.Rows.sortedHeap_old (Nat.ne_of_lt hb) (by rw [size_push']; exact Nat.lt_succ_of_lt hb)).trans (Heap.get?_push_of_some _ e)
theorem call_dict_nil (hc : X.calm = true) : CallR X (.type "dict") (fun xs H Q => ∃ (a : Addr), xs = [V.ref a] ∧ H a = some (.lst []) ∧ ∀ p, H p = none → Q (.ref p) (upd H p (dkO X.prog X.w p []))) := by
  intro pins s σ H xs us Q I r h
  obtain ⟨a, rfl, ha, q⟩ := h
  obtain ⟨u, rfl, rx⟩ := r.one
  cases rx
  obtain ⟨z, its, n, hv, ho⟩ := (show ObjOk X.prog X.w H s.heap a (.lst []) from I.hok a _ ha)
  cases hv
  have hh : X.A.handled = none := I.ok.hd hc
  refine L2.call_dict_pairs (prs := []) hh ho rfl rfl rfl rfl (Nat.zero_le _) (fun j q e => by simp at e) fun h' tk hd kp => ?_
  obtain ⟨o, es, ep, e1, e2, e3, _, e4, _⟩ := hd
  have e5 : es.toList = [] := by
    generalize es.toList = zs at e4
    cases e4
    rfl
  have new : ObjOk X.prog X.w H h' s.heap.objs.size (dkO X.prog X.w s.heap.objs.size []) := dkO_new ⟨beq_eq_false_iff_ne.mpr (Ne.symm (Nat.ne_of_lt I.big)), Nat.zero_le _, [], .nil, ⟨o, es, ep, e1, e2, e3, e5⟩, List.nodup_nil⟩
  exact ⟨.ref s.heap.objs.size, _, I.laid (t' := tk) (o := dkO X.prog X.w s.heap.objs.size []) kp (Nat.le_refl _) new, rfl, q _ (I.hok.fresh (Nat.le_refl _))⟩
theorem call_len_dic : CallR X (.builtin "len") (fun xs H Q => ∃ (d : Addr) (ρ : List Addr) (kvs : List (P × P)), xs = [V.ref d] ∧ RO X.kw ρ H d (.dic kvs) ∧ Q (.int kvs.length) H) := by
  intro pins s σ H xs us Q I r h
  obtain ⟨d, ρ, kvs, rfl, ro, q⟩ := h
  obtain ⟨u, rfl, rx⟩ := r.one
  cases rx
  obtain ⟨xs, ys, e, dk, d3, hs, z, dd⟩ := dic_open I ro
  refine call_len_dictH hs dd (by rw [← d3.length]; rw [sizeLine_eq] at z; omega) ?_
  rw [← d3.length, dk.length]
  exact ⟨.int ((kvs.length : Nat) : Int), H, I.tok _, ⟨_, rfl⟩, q⟩
end
end Ev

namespace Ev
open PySem L2

theorem tuple_mul1 (l : Addr) (items : Array Value) (n : Nat) (dd : Option Addr) (sl : Array (Option Value)) (u : Tok) (c1 : items.isEmpty = false) :
    Meets (Builtin.«tuple.__mul__» ⟨[.ref l, .int 1 u], []⟩) (fun _ R s => s.heap.get? l = some { cls := .type "tuple", dict := dd, data := .seq items n, slots := sl } ∧
      R (.ok (.ret (Value.ref l))) s) :=
  .of_wp fun prog w A R s h => by
    obtain ⟨hp, g, d, tk, os⟩ := s
    obtain ⟨hl, h⟩ := h
    have f1 := AutoSeq1.idx_int
    wp_walk using wpAny_loadPart' hl
    exact ⟨_, rfl, h⟩
section
variable {X : Cx}
theorem op_repT1 : OpR X (binaryOp .Mult) (fun x y H Q => ∃ l xs, x = .ref l ∧ y = .int 1 ∧ SqT X.K H l xs ∧ xs ≠ [] ∧ Q (.ref l) H) := by
  intro pins s σ H x y v u Q I rx ry h
  obtain ⟨l, xs, rfl, rfl, hT, hne, q⟩ := h
  cases rx
  obtain ⟨t, rfl⟩ := ry
  obtain ⟨its, r, ⟨⟨cls, dd, data, sl⟩, ho, hc, n, hd⟩, hs⟩ := I.tuple hT
  simp only at hc hd
  subst hc hd
  have hi : its.toArray.isEmpty = false := by
    cases its with
    | nil => cases r; exact absurd rfl hne
    | cons a b => rfl
  refine wpAny_binaryOp_repeat_ref (T := "tuple") (U := "int") (by decide) ⟨_, ho, rfl⟩ (fun s' => typeIs_int s' 1 t) noFill_tuple_mul F.fills_int_mul F.slot_int_rmul repeat_tuple F.slot_int_index.lookup
    (call_meets F.slot_int_rmul (typeIs_int s 1 t) F.entry_int_rmul (F.args_int_rmul_2 _ _) (int_rmul_tuple 1 t l its.toArray n dd sl)
      ⟨ho, rfl, ⟨_, ho, rfl⟩, call_meets F.slot_tuple_mul ⟨_, ho, rfl⟩ F.entry_tuple_mul (F.args_tuple_mul_2 _ _) (tuple_mul1 l its.toArray n dd sl t hi) ⟨ho, ?_⟩⟩)
  exact ⟨.ref l, H, I, rfl, q⟩
end
section
variable {α : Type} {K : Kw} {EX : EX1} {ρ : List Addr} {H : Hp} {h : Hea}
theorem Post.ite {c : Prop} [Decidable c] {r : R α} {Φ : α → List Addr → Hea → Hp → Prop} (p : Post K EX (if c then r else .stk) ρ H Φ) : c ∧ Post K EX r ρ H Φ := by
  by_cases hc : c
  · rw [if_pos hc] at p; exact ⟨hc, p⟩
  · rw [if_neg hc] at p; exact p.elim
theorem Post.tup {ps : List P} {vs : List V} {Q : VK} (R : Rep K ρ h H) (hv : Rvs K ρ H ps vs) (p : Post K EX (.ok (.tup ps) h) ρ H fun a ρ' h' H' => ∀ v, Rv K ρ' H' a v → Q v H') :
    (∀ q, H q = none → Q (.ref q) (upd H q (.tup vs))) ∧ ∀ a, SqT K H a vs → Q (.ref a) H := by
  refine ⟨fun q hq => ?_, fun a ha => p ρ H .refl R (.ref a) ⟨a, vs, rfl, ha, hv⟩⟩
  obtain ⟨st, R'⟩ := R.laid (u := .tup vs) hq
  exact p ρ _ st R' (.ref q) ⟨q, vs, rfl, SqT.of upd_same, hv.ext (R.ext st)⟩
theorem Post.lst {ps : List P} {vs : List V} {Q : VK} (R : Rep K ρ h H) (hv : Rvs K ρ H ps vs) (p : Post K EX (mkObj (.lst ps) h) ρ H fun a ρ' h' H' => ∀ v, Rv K ρ' H' a v → Q v H') :
    ∀ q, H q = none → Q (.ref q) (upd H q (.lst vs)) := by
  intro q hq
  have new : RO K (ρ ++ [q]) (upd H q (.lst vs)) q (.lst ps) := by
    refine ⟨vs, upd_same, hv.ext ⟨fun i a e => ?_, fun b xs e => ?_, fun b o u e => ?_⟩⟩
    · rw [List.getElem?_append_left (List.getElem?_eq_some_iff.mp e).1]; exact e
    · rw [upd_ne (ne_of_none e hq)]; exact e
    · rw [upd_ne (ne_of_none e hq)]; exact e
  obtain ⟨st, R'⟩ := R.push hq new
  exact p _ _ st R' (.ref q) ⟨q, by rw [R.len, List.getElem?_append_right (Nat.le_refl _)]; simp, rfl⟩
theorem Post.put {α : Type} {l : Nat} {a : Addr} {b : α} {ps : List P} {vs : List V} {Φ : α → List Addr → Hea → Hp → Prop} (R : Rep K ρ h H) (ha : ρ[l]? = some a) (hm : H a ≠ none) (hn : (∀ xs, H a ≠ some (.tup xs)) ∧ (∀ o u, H a ≠ some (.frz o u))) (hv : Rvs K ρ H ps vs)
    (p : Post K EX (.ok b (h.set l (.lst ps))) ρ H Φ) : ∃ e : Ext ρ ρ H (upd H a (.lst vs)), Φ b ρ (h.set l (.lst ps)) (upd H a (.lst vs)) := by
  have ex : Ext ρ ρ H (upd H a (.lst vs)) := ⟨fun _ _ e => e, fun b xs e => by
    rw [upd_ne (fun z => by subst z; exact hn.1 _ e)]; exact e, fun b o u e => by
    rw [upd_ne (fun z => by subst z; exact hn.2 _ _ e)]; exact e⟩
  obtain ⟨st, R'⟩ := R.set (u := .lst vs) (o := .lst ps) ha hn.2 ⟨vs, upd_same, hv.ext ex⟩
  exact ⟨ex, p ρ _ st R'⟩
theorem Rep.lst (R : Rep K ρ h H) {l : Nat} {xs : List P} (e : h[l]? = some (.lst xs)) : ∃ a vs, ρ[l]? = some a ∧ H a = some (.lst vs) ∧ Rvs K ρ H xs vs := by
  obtain ⟨a, ha, vs, h1, h2⟩ := R.idx e
  exact ⟨a, vs, ha, h1, h2⟩
end

section
variable {K : Kw} {ρ : List Addr} {H : Hp} {h : Hea}
mutual
theorem dp_of (f : Nat → Option PyData) (hf : ∀ l d a, f l = some d → ρ[l]? = some a → Dp K H (.ref a) d) : ∀ (p : P) (d : PyData) (v : V), dataW f p = some d → Rv K ρ H p v → Dp K H v d
  | .non, d, v, e, r => by cases e; cases r; exact .non
  | .bl b, d, v, e, r => by cases e; cases r; exact .bl b
  | .int i, d, v, e, r => by cases e; cases r; exact .int i
  | .str s, d, v, e, r => by cases e; cases r; exact .str s
  | .ty _, _, _, e, _ => by simp [dataW] at e
  | .gl _, _, _, e, _ => by simp [dataW] at e
  | .ref l, d, v, e, r => by
    obtain ⟨a, h1, rfl⟩ := r
    exact hf l d a (by simpa [dataW] using e) h1
  | .tup ps, d, v, e, r => by
    obtain ⟨a, vs, rfl, h1, h2⟩ := r
    simp only [dataW, Option.map_eq_some_iff] at e
    obtain ⟨ds, e1, rfl⟩ := e
    exact .tup h1 (dps_of f hf ps ds vs e1 h2)
  | .kls ps, d, v, e, r => by
    obtain ⟨a, vs, rfl, h1, h2⟩ := r
    simp only [dataW, Option.map_eq_some_iff] at e
    obtain ⟨ds, e1, rfl⟩ := e
    exact .lst h1.sq (dps_of f hf ps ds vs e1 h2)
theorem dps_of (f : Nat → Option PyData) (hf : ∀ l d a, f l = some d → ρ[l]? = some a → Dp K H (.ref a) d) : ∀ (ps : List P) (ds : List PyData) (vs : List V), dataWs f ps = some ds → Rvs K ρ H ps vs → DpAll K H vs ds
  | [], ds, vs, e, r => by cases r; simp [dataWs] at e; subst e; exact .nil
  | p :: ps, ds, vs, e, r => by
    obtain ⟨v, vr, rfl, r1, r2⟩ := r
    simp only [dataWs, Option.bind_eq_some_iff, Option.map_eq_some_iff] at e
    obtain ⟨d, e1, es, e2, rfl⟩ := e
    exact .cons (dp_of f hf p d v e1 r1) (dps_of f hf ps es vr e2 r2)
end
theorem dp_loc (R : Rep K ρ h H) : ∀ (n l : Nat) (d : PyData) (a : Addr), locData h n l = some d → ρ[l]? = some a → Dp K H (.ref a) d
  | 0, _, _, _, e, _ => by simp [locData] at e
  | n + 1, l, d, a, e, ha => by
    unfold locData at e
    split at e
    · rename_i xs hx
      obtain ⟨b, vs, hb, h1, h2⟩ := R.lst hx
      rw [ha] at hb; cases hb
      simp only [Option.map_eq_some_iff] at e
      obtain ⟨ds, e1, rfl⟩ := e
      exact .lst (SqL.of h1) (dps_of _ (fun l d a => dp_loc R n l d a) _ _ _ e1 h2)
    · cases e
theorem dp_data (R : Rep K ρ h H) {p : P} {d : PyData} {v : V} (e : dataOf h p = some d) (r : Rv K ρ H p v) : Dp K H v d := dp_of _ (fun l d a => dp_loc R 6 l d a) p d v e r
theorem dps_data (R : Rep K ρ h H) {ps : List P} {ds : List PyData} {vs : List V} (e : dataOfs h ps = some ds) (r : Rvs K ρ H ps vs) : DpAll K H vs ds := dps_of _ (fun l d a => dp_loc R 6 l d a) ps ds vs e r
end

def opOf : Bop → Operator
  | .add => .Add
  | .sub => .Sub
  | .mul => .Mult
  | .fdiv => .FloorDiv
  | .mod => .Mod
  | .pow => .Pow
def cmpOf : Cop → CmpOp
  | .eq => .Eq
  | .ne => .NotEq
  | .lt => .Lt
  | .le => .LtE
  | .gt => .Gt
  | .ge => .GtE
  | .isN => .Is
  | .notN => .IsNot
  | .inn => .In
  | .nin => .NotIn
abbrev Val (K : Kw) (EX : EX1) (r : R P) (ρ : List Addr) (H : Hp) (Q : VK) : Prop := Post K EX r ρ H fun a ρ' h' H' => ∀ v, Rv K ρ' H' a v → Q v H'
def rBin (K : Kw) (f : P → P → Hea → R P) : R2 := fun x y H Q => ∃ (EX : EX1) (ρ : List Addr) (h : Hea) (p q : P), Rep K ρ h H ∧ Rv K ρ H p x ∧ Rv K ρ H q y ∧ Val K EX (f p q h) ρ H Q
section
variable {X : Cx}
theorem bits_ok {i j : Int} (h : bits i + bits j < 100000000) : CMulX i j := by
  have b : ∀ x : Int, (Builtin.Int.intBits x : Int) ≤ (x.natAbs.log2 : Int) + 1 := fun x => by
    unfold Builtin.Int.intBits
    split <;> omega
  have h1 := b i
  have h2 := b j
  have h3 : i.natAbs.log2 + j.natAbs.log2 < 100000000 := h
  unfold CMulX
  omega
theorem op_isB : OpR X (compareOp .Is) (fun x y H Q => ∃ (b r : Bool), y = .bl b ∧ (x = .bl r ∨ (x = .non ∧ r = !b)) ∧ Q (.bl (r == b)) H) := by
  intro pins s σ H x y v u Q I rx ry h
  obtain ⟨b, r, rfl, hx, q⟩ := h
  obtain rfl : u = Value.bool b := ry
  rcases hx with rfl | ⟨rfl, rfl⟩
  · obtain rfl : v = Value.bool r := rx
    by_cases e : r = b
    · subst e
      exact wpAny_is_self rfl ⟨.bl true, H, I, rfl, by simpa using q⟩
    · exact wpAny_is_other rfl (fun z => e (Value.bool.inj z)) ⟨.bl false, H, I, rfl, by rw [beq_eq_false_iff_ne.mpr e] at q; exact q⟩
  · obtain rfl : v = Value.none := rx
    cases b <;> exact wpAny_is_other rfl (fun z => nomatch z) ⟨.bl false, H, I, rfl, q⟩
theorem op_notB : OpR X (compareOp .IsNot) (fun x y H Q => ∃ (b r : Bool), y = .bl b ∧ (x = .bl r ∨ (x = .non ∧ r = !b)) ∧ Q (.bl (!(r == b))) H) := by
  intro pins s σ H x y v u Q I rx ry h
  obtain ⟨b, r, rfl, hx, q⟩ := h
  obtain rfl : u = Value.bool b := ry
  rcases hx with rfl | ⟨rfl, rfl⟩
  · obtain rfl : v = Value.bool r := rx
    by_cases e : r = b
    · subst e
      exact wpAny_isNot_self rfl ⟨.bl false, H, I, rfl, by simpa using q⟩
    · exact wpAny_isNot_other rfl (fun z => e (Value.bool.inj z)) ⟨.bl true, H, I, rfl, by rw [beq_eq_false_iff_ne.mpr e] at q; exact q⟩
  · obtain rfl : v = Value.none := rx
    cases b <;> exact wpAny_isNot_other rfl (fun z => nomatch z) ⟨.bl true, H, I, rfl, q⟩
theorem op_bin (o : Bop) : OpR X (binaryOp (opOf o)) (rBin X.kw (binV o)) := by
  intro pins s σ H x y v u Q I rx ry ⟨EX, ρ, h, p, q, R, hp, hq, post⟩
  unfold binV at post
  split at post
  · rw [hp] at rx; rw [hq] at ry
    exact op_add pins s σ H _ _ v u Q I rx ry ⟨_, _, rfl, rfl, post.of_ok R _ rfl⟩
  · obtain ⟨hl, post⟩ := post.ite
    rw [hp] at rx; rw [hq] at ry
    exact op_add_str pins s σ H _ _ v u Q I rx ry ⟨_, _, rfl, rfl, by rw [← sz_eq]; exact hl, post.of_ok R _ rfl⟩
  · rename_i as bs
    obtain ⟨a, vs, rfl, ha, hva⟩ := hp
    obtain ⟨b, ws, rfl, hb, hwb⟩ := hq
    obtain ⟨hl, post⟩ := post.ite
    obtain ⟨f1, f2⟩ := Post.tup R (hva.append hwb) post
    refine op_catA pins s σ H _ _ v u Q I rx ry ⟨a, b, vs, ws, rfl, rfl, ha, hb, ?_, fun e => ?_, fun e1 e2 => ?_, fun _ _ => f1⟩
    · rw [← sz_eq, hva.length, hwb.length]; simpa using hl
    · subst e; exact f2 b hb
    · subst e2; rw [List.append_nil] at f2; exact f2 a ha
  · obtain ⟨a, ha, rfl⟩ := hp
    obtain ⟨b, hb, rfl⟩ := hq
    split at post
    · rename_i xs ys hx hy
      obtain ⟨a', vs, ha', h1, h2⟩ := R.lst hx
      obtain ⟨b', ws, hb', h3, h4⟩ := R.lst hy
      rw [ha] at ha'; cases ha'
      rw [hb] at hb'; cases hb'
      obtain ⟨hl, post⟩ := post.ite
      refine op_cat pins s σ H _ _ v u Q I rx ry ⟨a, b, vs, ws, rfl, rfl, h1, h3, ?_, Post.lst R (h2.append h4) post⟩
      rw [← sz_eq, h2.length, h4.length]; simpa using hl
    · exact post.elim
  · rw [hp] at rx; rw [hq] at ry
    exact op_sub pins s σ H _ _ v u Q I rx ry ⟨_, _, rfl, rfl, post.of_ok R _ rfl⟩
  · obtain ⟨hl, post⟩ := post.ite
    rw [hp] at rx; rw [hq] at ry
    exact op_mulX pins s σ H _ _ v u Q I rx ry ⟨_, _, rfl, rfl, bits_ok hl, post.of_ok R _ rfl⟩
  · obtain ⟨a, ha, rfl⟩ := hp
    rw [hq] at ry
    split at post
    · rename_i xs hx
      obtain ⟨a', vs, ha', h1, h2⟩ := R.lst hx
      rw [ha] at ha'; cases ha'
      obtain ⟨⟨c1, c2, c3⟩, post⟩ := post.ite
      refine op_rep pins s σ H _ _ v u Q I rx ry ⟨a, _, vs, rfl, rfl, h1, by simpa using c1, by simpa using c2, ?_, Post.lst R (h2.rep _) post⟩
      rw [← sz_eq, h2.length]; exact c3
    · exact post.elim
  · rename_i as k
    obtain ⟨a, vs, rfl, ha, hva⟩ := hp
    rw [hq] at ry
    obtain ⟨⟨c1, c2, c3, c4⟩, post⟩ := post.ite
    obtain ⟨_, post⟩ := post.ite
    have hn : vs ≠ [] := fun z => by
      have := hva.length
      rw [z] at this
      simp at this; omega
    by_cases k1 : k = 1
    · subst k1
      have post2 := (Post.tup R (hva.rep 1) post).2
      have e1 : (List.replicate 1 vs).flatten = vs := by simp
      rw [e1] at post2
      exact op_repT1 pins s σ H _ _ v u Q I rx ry ⟨a, vs, rfl, rfl, ha, hn, post2 a ha⟩
    exact op_repT pins s σ H _ _ v u Q I rx ry ⟨a, k, vs, rfl, rfl, ha, hn, by omega, c3, by rw [hva.length]; exact c4, (Post.tup R (hva.rep _) post).1⟩
  · obtain ⟨⟨c1, c2⟩, post⟩ := post.ite
    rw [hp] at rx; rw [hq] at ry
    exact op_fdivW pins s σ H _ _ v u Q I rx ry ⟨_, _, rfl, rfl, ⟨c1, c2⟩, post.of_ok R _ rfl⟩
  · obtain ⟨c1, post⟩ := post.ite
    rw [hp] at rx; rw [hq] at ry
    exact op_mod pins s σ H _ _ v u Q I rx ry ⟨_, _, rfl, rfl, c1, post.of_ok R _ rfl⟩
  · obtain ⟨⟨c1, c2, c3⟩, post⟩ := post.ite
    rw [hp] at rx; rw [hq] at ry
    exact op_pow pins s σ H _ _ v u Q I rx ry ⟨_, _, rfl, rfl, ⟨c1, c2, by simpa using c3⟩, post.of_ok R _ rfl⟩
  · exact post.elim
theorem op_aug (o : Bop) : PIp X (opOf o) (rBin X.kw (augV o)) := by
  intro pins s σ H x y v u Q I rx ry ⟨EX, ρ, h, p, q, R, hp, hq, post⟩
  unfold augV at post
  split at post
  · obtain ⟨a, ha, rfl⟩ := hp
    obtain ⟨b, hb, rfl⟩ := hq
    split at post
    · rename_i xs ys hx hy
      obtain ⟨a', vs, ha', h1, h2⟩ := R.lst hx
      obtain ⟨b', ws, hb', h3, h4⟩ := R.lst hy
      rw [ha] at ha'; cases ha'
      rw [hb] at hb'; cases hb'
      obtain ⟨hl, post⟩ := post.ite
      obtain ⟨ex, post⟩ := Post.put R ha (by rw [h1]; simp) ⟨by rw [h1]; simp, by rw [h1]; simp⟩ (h2.append h4) post
      refine iop_ext pins s σ H _ _ v u Q I rx ry ⟨a, b, vs, ws, rfl, rfl, h1, h3, ?_, post (.ref a) ⟨a, ha, rfl⟩⟩
      rw [← sz_eq, h2.length, h4.length]; simpa using hl
    · exact post.elim
  · rw [hp] at rx; rw [hq] at ry
    exact iop_add pins s σ H _ _ v u Q I rx ry ⟨_, _, rfl, rfl, post.of_ok R _ rfl⟩
  · obtain ⟨hl, post⟩ := post.ite
    rw [hp] at rx; rw [hq] at ry
    exact iop_add_str pins s σ H _ _ v u Q I rx ry ⟨_, _, rfl, rfl, by rw [← sz_eq]; exact hl, post.of_ok R _ rfl⟩
  · rw [hp] at rx; rw [hq] at ry
    exact iop_sub pins s σ H _ _ v u Q I rx ry ⟨_, _, rfl, rfl, post.of_ok R _ rfl⟩
  · exact post.elim

def rCmp (K : Kw) (o : Cop) : R2 := fun x y H Q => ∃ (ρ : List Addr) (h : Hea) (p q : P) (b : Bool), Rep K ρ h H ∧ Rv K ρ H p x ∧ Rv K ρ H q y ∧ cmpV o p q h = some b ∧ Q (.bl b) H
theorem canAll_plain {ds : List PyData} (h : SeqAt.shaped (.list ds) = true) : PyData.plainAll ds = true := by
  have h1 := SeqAt.canLay_of_shaped h
  have := PyData.plain_of_canLay0 _ h1
  simpa [PyData.plain] using this
theorem inD_ok (hu : X.A.units + 200 < cLine) {pins : List (Addr × Obj)} {s : Shared} {σ : L2.St} {H : Hp} {Q : VK} {ρ : List Addr} {h : Hea} {p : P} {ys : List P} {ws : List V} {x : V} {a : Addr} {v : Value} {b : Bool} (neg : Bool) (I : Inv X pins σ H s) (rx : RelV x v) (R : Rep X.kw ρ h H)
    (hp : Rv X.kw ρ H p x) (hs : SqL X.kw H a ws ∨ SqT X.kw H a ws) (hw : Rvs X.kw ρ H ys ws) (e : inD h p ys = some b) (q : Q (.bl (if neg then !b else b)) H) :
    wpAny (model X.prog X.w) X.A (compareOp (if neg then .NotIn else .In) v (.ref a)) (EP X pins σ Q) X.xe s := by
  unfold inD at e
  simp only [Option.bind_eq_some_iff] at e
  obtain ⟨d, e1, es, e2, e3⟩ := e
  split at e3
  · rename_i hc
    rw [Bool.and_eq_true] at hc
    cases e3
    have hd := dp_data R e1 hp
    have hes := dps_data R e2 hw
    obtain ⟨as, r1⟩ := Dp.reads I d x v hd rx
    have d64 := SeqAt.depth_of_shaped hc.1
    have pl := canAll_plain hc.2
    have pd := PyData.plain_of_canLay0 _ (SeqAt.canLay_of_shaped hc.1)
    have room : X.A.units + 1 + min (PyData.depthAll es) d.depth < cLine := by
      have : min (PyData.depthAll es) d.depth ≤ d.depth := Nat.min_le_right _ _
      omega
    rcases hs with hs | hs
    · obtain ⟨bs, r2⟩ := Dp.reads I (.list es) (.ref a) (.ref a) (.lst hs hes) rfl
      cases neg with
      | true => exact SeqAt.notIn_list_data r2 r1 pl pd room ⟨.bl _, H, I, rfl, q⟩
      | false => exact SeqAt.in_list_data r2 r1 pl pd room ⟨.bl _, H, I, rfl, q⟩
    · obtain ⟨bs, r2⟩ := Dp.reads I (.tuple es) (.ref a) (.ref a) (.tup hs hes) rfl
      cases neg with
      | true => exact SeqAt.notIn_tuple_data r2 r1 pl pd room ⟨.bl _, H, I, rfl, q⟩
      | false => exact SeqAt.in_tuple_data r2 r1 pl pd room ⟨.bl _, H, I, rfl, q⟩
  · cases e3
theorem inV_ok (hu : X.A.units + 200 < cLine) {pins : List (Addr × Obj)} {s : Shared} {σ : L2.St} {H : Hp} {Q : VK} {ρ : List Addr} {h : Hea} {p q : P} {x y : V} {v u : Value} {b : Bool} (neg : Bool) (I : Inv X pins σ H s) (rx : RelV x v) (ry : RelV y u) (R : Rep X.kw ρ h H)
    (hp : Rv X.kw ρ H p x) (hq : Rv X.kw ρ H q y) (e : inV p q h = some b) (k : Q (.bl (if neg then !b else b)) H) :
    wpAny (model X.prog X.w) X.A (compareOp (if neg then .NotIn else .In) v u) (EP X pins σ Q) X.xe s := by
  unfold inV at e
  split at e
  · obtain ⟨a, ws, rfl, h1, h2⟩ := hq
    cases ry
    exact inD_ok hu neg I rx R hp (.inr h1) h2 e k
  · obtain ⟨a, ws, rfl, h1, h2⟩ := hq
    cases ry
    exact inD_ok hu neg I rx R hp (.inl h1.sq) h2 e k
  · obtain ⟨a, ha, rfl⟩ := hq
    cases ry
    split at e
    · rename_i ys hy
      obtain ⟨a', ws, ha', h1, h2⟩ := R.lst hy
      rw [ha] at ha'; cases ha'
      exact inD_ok hu neg I rx R hp (.inl (SqL.of h1)) h2 e k
    · rename_i kvs hk
      obtain ⟨a', ha', ro⟩ := R.dic hk
      rw [ha] at ha'; cases ha'
      split at e
      · rename_i hkt
        cases e
        exact din_ok hu neg I ro hkt hp rx k
      · cases e
    · cases e
  · cases e
theorem op_cmp (hu : X.A.units + 200 < cLine) (o : Cop) : OpR X (compareOp (cmpOf o)) (rCmp X.kw o) := by
  intro pins s σ H x y v u Q I rx ry ⟨ρ, h, p, q, b, R, hp, hq, e, k⟩
  cases o with
  | eq =>
    unfold cmpV at e
    simp only at e
    unfold eqV at e
    split at e
    · rename_i a b ea eb
      rw [strP_ok ea] at hp; rw [strP_ok eb] at hq
      cases e; cases hp; cases hq
      refine L2.op_eq pins s σ H _ _ v u Q I rx ry ⟨rfl, ?_⟩
      have : decide (V.str a = V.str b) = decide (a = b) := by simp
      rw [this]; exact k
    · unfold eqD at e
      simp only [Option.bind_eq_some_iff] at e
      obtain ⟨d, e1, d', e2, e3⟩ := e
      split at e3
      · rename_i hc
        rw [Bool.and_eq_true] at hc
        cases e3
        exact op_eqD (by omega) pins s σ H x y v u Q I rx ry ⟨d, d', dp_data R e1 hp, dp_data R e2 hq, hc.1, hc.2, k⟩
      · cases e3
  | ne =>
    unfold cmpV at e
    simp only [Option.map_eq_some_iff] at e
    obtain ⟨c, e, rfl⟩ := e
    unfold eqV at e
    split at e
    · rename_i a b ea eb
      rw [strP_ok ea] at hp; rw [strP_ok eb] at hq
      cases e; cases hp; cases hq
      refine L2.op_ne pins s σ H _ _ v u Q I rx ry ⟨rfl, ?_⟩
      have : decide (V.str a = V.str b) = decide (a = b) := by simp
      rw [this]; exact k
    · unfold eqD at e
      simp only [Option.bind_eq_some_iff] at e
      obtain ⟨d, e1, d', e2, e3⟩ := e
      split at e3
      · rename_i hc
        rw [Bool.and_eq_true] at hc
        cases e3
        exact op_neD (by omega) pins s σ H x y v u Q I rx ry ⟨d, d', dp_data R e1 hp, dp_data R e2 hq, hc.1, hc.2, k⟩
      · cases e3
  | lt =>
    unfold cmpV at e
    simp only at e
    split at e
    · cases e; cases hp; cases hq
      exact op_lt pins s σ H _ _ v u Q I rx ry ⟨_, _, rfl, rfl, k⟩
    · cases e
  | le =>
    unfold cmpV at e
    simp only at e
    split at e
    · cases e; cases hp; cases hq
      exact op_le pins s σ H _ _ v u Q I rx ry ⟨_, _, rfl, rfl, k⟩
    · cases e
  | gt =>
    unfold cmpV at e
    simp only at e
    split at e
    · cases e; cases hp; cases hq
      exact op_gt pins s σ H _ _ v u Q I rx ry ⟨_, _, rfl, rfl, k⟩
    · cases e
  | ge =>
    unfold cmpV at e
    simp only at e
    split at e
    · cases e; cases hp; cases hq
      exact op_ge pins s σ H _ _ v u Q I rx ry ⟨_, _, rfl, rfl, k⟩
    · cases e
  | isN =>
    unfold cmpV at e
    simp only at e
    unfold isV at e
    split at e
    · cases e; cases hq
      refine op_isN pins s σ H x _ v u Q I rx ry ⟨rfl, ?_⟩
      cases p <;> first
        | (cases hp; exact k)
        | (obtain ⟨a, _, rfl⟩ := hp; exact k)
        | (obtain ⟨a, _, rfl, _⟩ := hp; exact k)
        | exact hp.elim
    · cases hq
      cases p with
      | bl a => cases e; cases hp; exact op_isB pins s σ H _ _ v u Q I rx ry ⟨_, _, rfl, .inl rfl, k⟩
      | non => cases e; cases hp; exact op_isB pins s σ H _ _ v u Q I rx ry ⟨_, _, rfl, .inr ⟨rfl, rfl⟩, by rw [Bool.not_beq_self]; exact k⟩
      | _ => cases e
    · cases e
  | notN =>
    unfold cmpV at e
    simp only at e
    unfold isV at e
    split at e
    · cases e; cases hq
      refine op_notN pins s σ H x _ v u Q I rx ry ⟨rfl, ?_⟩
      cases p <;> first
        | (cases hp; exact k)
        | (obtain ⟨a, _, rfl⟩ := hp; exact k)
        | (obtain ⟨a, _, rfl, _⟩ := hp; exact k)
        | exact hp.elim
    · cases hq
      cases p with
      | bl a => cases e; cases hp; exact op_notB pins s σ H _ _ v u Q I rx ry ⟨_, _, rfl, .inl rfl, k⟩
      | non => cases e; cases hp; exact op_notB pins s σ H _ _ v u Q I rx ry ⟨_, _, rfl, .inr ⟨rfl, rfl⟩, by rw [Bool.not_beq_self]; exact k⟩
      | _ => cases e
    · cases e
  | inn => exact inV_ok hu false I rx ry R hp hq e k
  | nin =>
    unfold cmpV at e
    simp only [Option.map_eq_some_iff] at e
    obtain ⟨c, e, rfl⟩ := e
    exact inV_ok hu true I rx ry R hp hq e k
end
end Ev

namespace Ev
open PySem L2
section
variable {X : Cx}
theorem tru_of {K : Kw} {ρ : List Addr} {h : Hea} {H : Hp} {p : P} {x : V} {b : Bool} (R : Rep K ρ h H) (hp : Rv K ρ H p x) (e : truV p h = some b) : TruV K x H b := by
  have iso : ∀ {ps : List P} {vs : List V}, Rvs K ρ H ps vs → (!vs.isEmpty) = !ps.isEmpty := fun {ps vs} r => by
    cases ps with
    | nil => cases r; rfl
    | cons p ps => obtain ⟨v, r', rfl, _⟩ := r; rfl
  unfold truV at e
  split at e
  · cases e; cases hp; rfl
  · cases e; cases hp; rfl
  · cases e; cases hp; rfl
  · cases e
    obtain ⟨a, vs, rfl, h1, h2⟩ := hp
    exact .inr (.inl ⟨vs, h1, (iso h2).symm⟩)
  · cases e
    obtain ⟨a, vs, rfl, h1, h2⟩ := hp
    exact .inl ⟨vs, h1.sq, (iso h2).symm⟩
  · obtain ⟨a, ha, rfl⟩ := hp
    split at e
    · rename_i xs hx
      cases e
      obtain ⟨a', vs, ha', h1, h2⟩ := R.lst hx
      rw [ha] at ha'; cases ha'
      exact .inl ⟨vs, SqL.of h1, (iso h2).symm⟩
    · cases e
  · cases e
theorem atI_rel {K : Kw} {ρ : List Addr} {H : Hp} {ps : List P} {vs : List V} {i : Int} {p : P} (r : Rvs K ρ H ps vs) (e : L2.atI ps i = some p) : ∃ v, L2.atI vs i = some v ∧ Rv K ρ H p v := by
  unfold L2.atI at e ⊢
  rw [r.length]
  cases q : L2.ixN ps.length i with
  | none => rw [q] at e; cases e
  | some j =>
    rw [q] at e
    exact r.get e
def rIdx (K : Kw) : R2 := fun x y H Q => ∃ (ρ : List Addr) (h : Hea) (p q r : P), Rep K ρ h H ∧ Rv K ρ H p x ∧ Rv K ρ H q y ∧ idxV p q h = some r ∧ ∀ v, Rv K ρ H r v → Q v H
theorem ix_ev (hu : X.A.units + 200 < cLine) : IxR X (rIdx X.kw) := by
  intro value slice pins s σ H x y v u Q I rx ry ⟨ρ, h, p, q, r, R, hp, hq, e, k⟩ hs
  unfold idxV at e
  split at e
  · obtain ⟨a, vs, rfl, h1, h2⟩ := hp
    cases hq
    obtain ⟨w, e1, r1⟩ := atI_rel h2 e
    exact ix_tup value slice pins s σ H _ _ v u Q I rx ry ⟨a, vs, _, w, rfl, rfl, h1, e1, k w r1⟩ hs
  · obtain ⟨a, vs, rfl, h1, h2⟩ := hp
    cases hq
    obtain ⟨w, e1, r1⟩ := atI_rel h2 e
    exact ix_list value slice pins s σ H _ _ v u Q I rx ry ⟨a, vs, _, w, rfl, rfl, h1.sq, e1, k w r1⟩ hs
  · obtain ⟨a, ha, rfl⟩ := hp
    cases hq
    split at e
    · rename_i xs hx
      obtain ⟨a', vs, ha', h1, h2⟩ := R.lst hx
      rw [ha] at ha'; cases ha'
      obtain ⟨w, e1, r1⟩ := atI_rel h2 e
      exact ix_list value slice pins s σ H _ _ v u Q I rx ry ⟨a, vs, _, w, rfl, rfl, SqL.of h1, e1, k w r1⟩ hs
    · cases e
  · obtain ⟨a, ha, rfl⟩ := hp
    cases rx
    split at e
    · rename_i kvs hk
      obtain ⟨a', ha', ro⟩ := R.dic hk
      rw [ha] at ha'; cases ha'
      split at e
      · rename_i hkt
        obtain ⟨xs, ys, e1, dk, d3, d1, d2, dd⟩ := dic_open I ro
        exact subTail_dict dd.typeIs hs (dget_ok hu I ro hkt hq ry e k)
      · cases e
    · cases e
  · cases e
theorem cut_rel {K : Kw} {ρ : List Addr} {H : Hp} {ps : List P} {vs : List V} (r : Rvs K ρ H ps vs) (lo hi : Option Int) : Rvs K ρ H (cut ps lo hi) (cutV vs lo hi) := by
  unfold cut cutV
  rw [r.length]
  exact (r.drop _).take _
def rSlc (K : Kw) : V → Option Int → Option Int → Hp → VK → Prop := fun x lo hi H Q => ∃ (EX : EX1) (ρ : List Addr) (h : Hea) (p : P), Rep K ρ h H ∧ Rv K ρ H p x ∧ Val K EX (slcV p lo hi h) ρ H Q
theorem sl_ev : SlR X (rSlc X.kw) := by
  intro pins s σ H x v vl vu lo hi sl Q I rx hs pl pu h
  obtain ⟨EX, ρ, h, p, R, hp, post⟩ := h
  unfold slcV at post
  split at post
  · obtain ⟨a, vs, rfl, h1, h2⟩ := hp
    have hc := cut_rel h2 lo hi
    obtain ⟨f1, f2⟩ := Post.tup R hc post
    refine sl_tupA pins s σ H _ v vl vu lo hi sl Q I rx hs pl pu ⟨a, vs, rfl, h1, fun e => ?_, fun _ => f1⟩
    refine f2 a ?_
    have : cutV vs lo hi = vs := by
      unfold cutV
      rw [e.1, e.2]; simp
    rw [this]; exact h1
  · obtain ⟨a, vs, rfl, h1, h2⟩ := hp
    exact sl_list pins s σ H _ v vl vu lo hi sl Q I rx hs pl pu ⟨a, vs, rfl, h1.sq, Post.lst R (cut_rel h2 lo hi) post⟩
  · obtain ⟨a, ha, rfl⟩ := hp
    split at post
    · rename_i xs hx
      obtain ⟨a', vs, ha', h1, h2⟩ := R.lst hx
      rw [ha] at ha'; cases ha'
      exact sl_list pins s σ H _ v vl vu lo hi sl Q I rx hs pl pu ⟨a, vs, rfl, SqL.of h1, Post.lst R (cut_rel h2 lo hi) post⟩
    · exact post.elim
  · exact post.elim

def rBlt (K : Kw) (b : Blt) : List V → Hp → VK → Prop := fun xs H Q => ∃ (EX : EX1) (ρ : List Addr) (h : Hea) (ps : List P), Rep K ρ h H ∧ Rvs K ρ H ps xs ∧ Val K EX (bltV b ps h) ρ H Q
theorem rvs_one {K : Kw} {ρ : List Addr} {H : Hp} {p : P} {xs : List V} (h : Rvs K ρ H [p] xs) : ∃ x, xs = [x] ∧ Rv K ρ H p x := by
  obtain ⟨v, r, rfl, h1, h2⟩ := h
  cases h2
  exact ⟨v, rfl, h1⟩
theorem rvs_two {K : Kw} {ρ : List Addr} {H : Hp} {p q : P} {xs : List V} (h : Rvs K ρ H [p, q] xs) : ∃ x y, xs = [x, y] ∧ Rv K ρ H p x ∧ Rv K ρ H q y := by
  obtain ⟨v, r, rfl, h1, h2⟩ := h
  obtain ⟨y, rfl, h3⟩ := rvs_one h2
  exact ⟨v, y, rfl, h1, h3⟩
theorem cr_len : CallR X (.builtin "len") (rBlt X.kw .len) := by
  intro pins s σ H xs us Q I r ⟨EX, ρ, h, ps, R, hps, post⟩
  unfold bltV at post
  split at post
  · rename_i x _
    obtain ⟨v, rfl, hv⟩ := rvs_one hps
    split at post
    · obtain ⟨a, vs, rfl, h1, h2⟩ := hv
      have q := post.of_ok R _ rfl
      rw [← h2.length] at q
      exact call_len_seq pins s σ H _ us Q I r ⟨a, vs, rfl, .inr h1, q⟩
    · obtain ⟨a, vs, rfl, h1, h2⟩ := hv
      have q := post.of_ok R _ rfl
      rw [← h2.length] at q
      exact call_len_seq pins s σ H _ us Q I r ⟨a, vs, rfl, .inl h1.sq, q⟩
    · obtain ⟨a, ha, rfl⟩ := hv
      split at post
      · rename_i xs hx
        obtain ⟨a', vs, ha', h1, h2⟩ := R.lst hx
        rw [ha] at ha'; cases ha'
        have q := post.of_ok R _ rfl
        rw [← h2.length] at q
        exact call_len_seq pins s σ H _ us Q I r ⟨a, vs, rfl, .inl (SqL.of h1), q⟩
      · rename_i kvs hk
        obtain ⟨a', ha', ro⟩ := R.dic hk
        rw [ha] at ha'; cases ha'
        exact call_len_dic pins s σ H _ us Q I r ⟨a, ρ, kvs, rfl, ro, post.of_ok R _ rfl⟩
      · exact post.elim
    · exact post.elim
  all_goals first
    | (rename_i e; cases e; done)
    | exact post.elim
    | (rename_i e _; cases e; done)
    | (rename_i e _ _; cases e; done)
theorem cr_abs : CallR X (.builtin "abs") (rBlt X.kw .abs) := by
  intro pins s σ H xs us Q I r ⟨EX, ρ, h, ps, R, hps, post⟩
  unfold bltV at post
  split at post
  all_goals first
    | (obtain ⟨v, rfl, hv⟩ := rvs_one hps; cases hv; exact call_abs pins s σ H _ us Q I r ⟨_, rfl, post.of_ok R _ rfl⟩)
    | exact post.elim
    | (simp_all; done)
theorem cr_int : CallR X (.type "int") (rBlt X.kw .int) := by
  intro pins s σ H xs us Q I r ⟨EX, ρ, h, ps, R, hps, post⟩
  unfold bltV at post
  split at post
  all_goals first
    | (obtain ⟨v, rfl, hv⟩ := rvs_one hps; cases hv; exact call_int1 pins s σ H _ us Q I r (.inl ⟨_, rfl, post.of_ok R _ rfl⟩))
    | (obtain ⟨v, rfl, hv⟩ := rvs_one hps; cases hv; exact call_int1 pins s σ H _ us Q I r (.inr ⟨_, rfl, post.of_ok R _ rfl⟩))
    | exact post.elim
    | (simp_all; done)
theorem cr_max2 (hc : X.calm = true) : CallR X (.builtin "max") (rBlt X.kw .max2) := by
  intro pins s σ H xs us Q I r ⟨EX, ρ, h, ps, R, hps, post⟩
  unfold bltV at post
  split at post
  all_goals first
    | (obtain ⟨v, w, rfl, hv, hw⟩ := rvs_two hps; cases hv; cases hw; exact call_max2 hc pins s σ H _ us Q I r ⟨_, _, rfl, post.of_ok R _ rfl⟩)
    | exact post.elim
    | (simp_all; done)
theorem cr_min2 (hc : X.calm = true) : CallR X (.builtin "min") (rBlt X.kw .min2) := by
  intro pins s σ H xs us Q I r ⟨EX, ρ, h, ps, R, hps, post⟩
  unfold bltV at post
  split at post
  all_goals first
    | (obtain ⟨v, w, rfl, hv, hw⟩ := rvs_two hps; cases hv; cases hw; exact call_min2 hc pins s σ H _ us Q I r ⟨_, _, rfl, post.of_ok R _ rfl⟩)
    | exact post.elim
    | (simp_all; done)
theorem cr_list (hc : X.calm = true) : CallR X (.type "list") (rBlt X.kw .list) := by
  intro pins s σ H xs us Q I r ⟨EX, ρ, h, ps, R, hps, post⟩
  unfold bltV at post
  split at post
  case h_5 =>
    rename_i x _
    obtain ⟨v, rfl, hv⟩ := rvs_one hps
    split at post
    · obtain ⟨a, vs, rfl, h1, h2⟩ := hv
      exact call_list_of pins s σ H _ us Q I r ⟨a, vs, rfl, .inr h1, Post.lst R h2 post⟩
    · obtain ⟨a, vs, rfl, h1, h2⟩ := hv
      exact call_list_of pins s σ H _ us Q I r ⟨a, vs, rfl, .inl h1.sq, Post.lst R h2 post⟩
    · obtain ⟨a, ha, rfl⟩ := hv
      split at post
      · rename_i xs hx
        obtain ⟨a', vs, ha', h1, h2⟩ := R.lst hx
        rw [ha] at ha'; cases ha'
        exact call_list_of pins s σ H _ us Q I r ⟨a, vs, rfl, .inl (SqL.of h1), Post.lst R h2 post⟩
      · rename_i kvs hk
        obtain ⟨a', ha', ro⟩ := R.dic hk
        rw [ha] at ha'; cases ha'
        exact call_list_dic hc pins s σ H _ us Q I r ⟨a, ρ, kvs, rfl, ro, fun p vs hp hv => Post.lst R hv post p hp⟩
      · exact post.elim
    · exact post.elim
  all_goals first
    | exact post.elim
    | (simp_all; done)
theorem ints_rv {K : Kw} {ρ : List Addr} {H : Hp} : ∀ {ps : List P} {vs : List V} {ns : List Int}, intsP ps = some ns → Rvs K ρ H ps vs → vs = ns.map V.int
  | [], vs, ns, e, r => by cases r; cases e; rfl
  | p :: ps, vs, ns, e, r => by
    obtain ⟨v, vr, rfl, r1, r2⟩ := r
    cases p <;> simp only [intsP, reduceCtorEq, Option.map_eq_some_iff] at e
    obtain ⟨ms, e1, rfl⟩ := e
    cases r1
    rw [ints_rv e1 r2]; rfl
theorem cr_sum (hc : X.calm = true) : CallR X (.builtin "sum") (rBlt X.kw .sum) := by
  intro pins s σ H xs us Q I r ⟨EX, ρ, h, ps, R, hps, post⟩
  unfold bltV at post
  split at post
  all_goals first
    | exact post.elim
    | (rename_i e; cases e; done)
    | (rename_i e _; cases e; done)
    | (rename_i e _ _; cases e; done)
    | skip
  obtain ⟨v, rfl, hv⟩ := rvs_one hps
  obtain ⟨a, ha, rfl⟩ := hv
  split at post
  · rename_i xs hx
    obtain ⟨a', vs, ha', h1, h2⟩ := R.lst hx
    rw [ha] at ha'; cases ha'
    split at post
    · rename_i ns hn
      have := ints_rv hn h2
      subst this
      exact L2.cr_sum hc pins s σ H _ us Q I r ⟨a, ns, rfl, SqL.of h1, post.of_ok R _ rfl⟩
    · exact post.elim
  · exact post.elim
theorem maxI_ok : ∀ (ns : List Int) (m : Int), (maxI ns m = m ∨ maxI ns m ∈ ns) ∧ m ≤ maxI ns m ∧ ∀ y ∈ ns, y ≤ maxI ns m
  | [], m => ⟨.inl rfl, Int.le_refl _, fun _ h => nomatch h⟩
  | i :: r, m => by
    obtain ⟨h1, h2, h3⟩ := maxI_ok r (if i > m then i else m)
    have hm : m ≤ (if i > m then i else m) ∧ i ≤ (if i > m then i else m) ∧ ((if i > m then i else m) = m ∨ (if i > m then i else m) = i) := by split <;> omega
    refine ⟨?_, by simp only [maxI]; omega, fun y hy => ?_⟩
    · simp only [maxI]
      rcases h1 with h1 | h1
      · rw [h1]
        rcases hm.2.2 with q | q
        · exact .inl q
        · rw [q]; exact .inr (by simp)
      · exact .inr (List.mem_cons_of_mem _ h1)
    · simp only [maxI]
      rcases List.mem_cons.mp hy with rfl | hy
      · omega
      · exact h3 y hy
theorem minI_ok : ∀ (ns : List Int) (m : Int), (minI ns m = m ∨ minI ns m ∈ ns) ∧ minI ns m ≤ m ∧ ∀ y ∈ ns, minI ns m ≤ y
  | [], m => ⟨.inl rfl, Int.le_refl _, fun _ h => nomatch h⟩
  | i :: r, m => by
    obtain ⟨h1, h2, h3⟩ := minI_ok r (if i < m then i else m)
    have hm : (if i < m then i else m) ≤ m ∧ (if i < m then i else m) ≤ i ∧ ((if i < m then i else m) = m ∨ (if i < m then i else m) = i) := by split <;> omega
    refine ⟨?_, by simp only [minI]; omega, fun y hy => ?_⟩
    · simp only [minI]
      rcases h1 with h1 | h1
      · rw [h1]
        rcases hm.2.2 with q | q
        · exact .inl q
        · rw [q]; exact .inr (by simp)
      · exact .inr (List.mem_cons_of_mem _ h1)
    · simp only [minI]
      rcases List.mem_cons.mp hy with rfl | hy
      · omega
      · exact h3 y hy
theorem cr_max1 (hc : X.calm = true) : CallR X (.builtin "max") (rBlt X.kw .max1) := by
  intro pins s σ H xs us Q I r ⟨EX, ρ, h, ps, R, hps, post⟩
  unfold bltV at post
  split at post
  all_goals first
    | exact post.elim
    | (rename_i e; cases e; done)
    | (rename_i e _; cases e; done)
    | (rename_i e _ _; cases e; done)
    | skip
  obtain ⟨v, rfl, hv⟩ := rvs_one hps
  obtain ⟨a, ha, rfl⟩ := hv
  split at post
  · rename_i xs hx
    obtain ⟨a', vs, ha', h1, h2⟩ := R.lst hx
    rw [ha] at ha'; cases ha'
    split at post
    · rename_i n ns hn
      have := ints_rv hn h2
      subst this
      refine L2.cr_max hc pins s σ H _ us Q I r ⟨a, n :: ns, rfl, SqL.of h1, by simp, fun m hm hle => ?_⟩
      obtain ⟨k1, k2, k3⟩ := maxI_ok ns n
      have : m = maxI ns n := by
          have h1 := hle (maxI ns n) (by rcases k1 with q | q; (rw [q]; simp); exact List.mem_cons_of_mem _ q)
          have h2 : m ≤ maxI ns n := by
            rcases List.mem_cons.mp hm with rfl | hm
            · exact k2
            · exact k3 m hm
          omega
      subst this
      exact post.of_ok R _ rfl
    · exact post.elim
  · exact post.elim
theorem cr_min1 (hc : X.calm = true) : CallR X (.builtin "min") (rBlt X.kw .min1) := by
  intro pins s σ H xs us Q I r ⟨EX, ρ, h, ps, R, hps, post⟩
  unfold bltV at post
  split at post
  all_goals first
    | exact post.elim
    | (rename_i e; cases e; done)
    | (rename_i e _; cases e; done)
    | (rename_i e _ _; cases e; done)
    | skip
  obtain ⟨v, rfl, hv⟩ := rvs_one hps
  obtain ⟨a, ha, rfl⟩ := hv
  split at post
  · rename_i xs hx
    obtain ⟨a', vs, ha', h1, h2⟩ := R.lst hx
    rw [ha] at ha'; cases ha'
    split at post
    · rename_i n ns hn
      have := ints_rv hn h2
      subst this
      refine L2.cr_min hc pins s σ H _ us Q I r ⟨a, n :: ns, rfl, SqL.of h1, by simp, fun m hm hle => ?_⟩
      obtain ⟨k1, k2, k3⟩ := minI_ok ns n
      have : m = minI ns n := by
          have h1 := hle (minI ns n) (by rcases k1 with q | q; (rw [q]; simp); exact List.mem_cons_of_mem _ q)
          have h2 : minI ns n ≤ m := by
            rcases List.mem_cons.mp hm with rfl | hm
            · exact k2
            · exact k3 m hm
          omega
      subst this
      exact post.of_ok R _ rfl
    · exact post.elim
  · exact post.elim
theorem cr_tuple : CallR X (.type "tuple") (rBlt X.kw .tuple) := by
  intro pins s σ H xs us Q I r ⟨EX, ρ, h, ps, R, hps, post⟩
  unfold bltV at post
  split at post
  case h_6 =>
    rename_i x _
    obtain ⟨v, rfl, hv⟩ := rvs_one hps
    split at post
    · obtain ⟨a, vs, rfl, h1, h2⟩ := hv
      exact call_tuple_of pins s σ H _ us Q I r ⟨a, vs, rfl, .inr ⟨h1, (Post.tup R h2 post).2 a h1⟩⟩
    · obtain ⟨a, vs, rfl, h1, h2⟩ := hv
      exact call_tuple_of pins s σ H _ us Q I r ⟨a, vs, rfl, .inl ⟨h1.sq, (Post.tup R h2 post).1⟩⟩
    · obtain ⟨a, ha, rfl⟩ := hv
      split at post
      · rename_i xs hx
        obtain ⟨a', vs, ha', h1, h2⟩ := R.lst hx
        rw [ha] at ha'; cases ha'
        exact call_tuple_of pins s σ H _ us Q I r ⟨a, vs, rfl, .inl ⟨SqL.of h1, (Post.tup R h2 post).1⟩⟩
      · exact post.elim
    · exact post.elim
  all_goals first
    | exact post.elim
    | (simp_all; done)

theorem cr_repr (hg : X.A.guards = some []) (hu : X.A.units + 200 < cLine) : CallR X (.builtin "repr") (rBlt X.kw .repr) := by
  intro pins s σ H xs us Q I r ⟨EX, ρ, h, ps, R, hps, post⟩
  unfold bltV at post
  split at post
  all_goals first
    | exact post.elim
    | (rename_i e; cases e; done)
    | (rename_i e _; cases e; done)
    | skip
  rename_i x _
  obtain ⟨v, rfl, hv⟩ := rvs_one hps
  by_cases hx : seqP x = true
  case neg =>
    rw [if_neg hx] at post
    split at post
    · rename_i t ht
      have q := post.of_ok R _ rfl
      cases x with
      | int i =>
        unfold reprA at ht
        simp only at ht
        split at ht
        · rename_i hi
          cases ht
          obtain rfl : v = .int i := hv
          obtain ⟨u, rfl, tk, rfl⟩ := vals1 r
          exact PySem.P.repr_of_int hi ⟨.str _, H, I.tok _, ⟨_, rfl⟩, q⟩
        · cases ht
      | non =>
        cases ht
        obtain rfl : v = .non := hv
        obtain ⟨u, rfl, rx⟩ := vals1 r
        cases rx
        exact PySem.P.repr_of_none ⟨.str _, H, I.tok _, ⟨_, rfl⟩, q⟩
      | bl b =>
        cases ht
        obtain rfl : v = .bl b := hv
        obtain ⟨u, rfl, rx⟩ := vals1 r
        cases rx
        exact PySem.P.repr_of_bool ⟨.str _, H, I.tok _, ⟨_, rfl⟩, q⟩
      | _ => cases ht
    · exact post.elim
  rw [if_pos hx] at post
  split at post
  · rename_i d hd
    obtain ⟨c, post⟩ := post.ite
    simp only [Bool.and_eq_true, Bool.not_eq_true', decide_eq_true_eq] at c
    obtain ⟨⟨⟨c1, c2⟩, c3⟩, c4⟩ := c
    have dp := dp_data R hd hv
    have q := post.of_ok R _ rfl
    have : ∃ a, v = .ref a := by
      cases x with
      | tup ps => obtain ⟨a, _, e, _⟩ := hv; exact ⟨a, e⟩
      | kls ps => obtain ⟨a, _, e, _⟩ := hv; exact ⟨a, e⟩
      | ref l => obtain ⟨a, _, e⟩ := hv; exact ⟨a, e⟩
      | _ => cases hx
    obtain ⟨a, rfl⟩ := this
    exact call_reprD hg hu pins s σ H _ us Q I r ⟨a, d, rfl, dp, c1, c2, c3, by rw [← sz_eq]; exact c4, q⟩
  · exact post.elim
theorem zip_vals {K : Kw} {ρ : List Addr} {H : Hp} : ∀ {ps : List P} {vs : List V} {ds : List PyData}, Rvs K ρ H ps vs → DpAll K H vs ds → ∃ bs : List (P × V × PyData), bs.map (·.1) = ps ∧ bs.map (·.2.1) = vs ∧ bs.map (·.2.2) = ds ∧ (∀ b ∈ bs, Rv K ρ H b.1 b.2.1 ∧ Dp K H b.2.1 b.2.2)
  | [], vs, ds, r, d => by
    cases r
    cases d
    exact ⟨[], rfl, rfl, rfl, fun _ h => nomatch h⟩
  | p :: ps, vs, ds, r, d => by
    obtain ⟨v, vr, rfl, r1, r2⟩ := r
    cases d with
    | @cons _ _ d0 ds0 d1 d2 =>
      obtain ⟨bs, e1, e2, e3, hb⟩ := zip_vals r2 d2
      refine ⟨(p, v, d0) :: bs, by simp [e1], by simp [e2], by simp [e3], fun b hb' => ?_⟩
      rcases List.mem_cons.mp hb' with rfl | hb'
      · exact ⟨r1, d1⟩
      · exact hb b hb'
theorem rvs_map {K : Kw} {ρ : List Addr} {H : Hp} : ∀ {bs : List (P × V × PyData)}, (∀ b ∈ bs, Rv K ρ H b.1 b.2.1) → Rvs K ρ H (bs.map (·.1)) (bs.map (·.2.1))
  | [], _ => rfl
  | b :: bs, h => ⟨_, _, rfl, h b List.mem_cons_self, rvs_map fun c hc => h c (List.mem_cons_of_mem _ hc)⟩
theorem sort_bs {K : Kw} {EX : EX1} {ρ : List Addr} {h : Hea} {H : Hp} {ys zs : List P} {vs : List V} {Q : VK} (R : Rep K ρ h H) (hz : sortD h ys = some zs) (h2 : Rvs K ρ H ys vs) (post : Post K EX (mkObj (.lst zs) h) ρ H fun a ρ' h' H' => ∀ v, Rv K ρ' H' a v → Q v H') :
    ∃ bs : List (V × PyData), bs.map (·.1) = vs ∧ (∀ b ∈ bs, Dp K.K H b.1 b.2) ∧ PySem.W.AllAlike (bs.map (·.2)) ∧ SortE (bs.map (·.2)) ∧ (∀ b ∈ bs, b.2.depth ≤ 150) ∧ ∀ l, H l = none → Q (.ref l) (upd H l (.lst ((bs.mergeSort (PySem.W.dataLe false (·.2))).map (·.1)))) := by
  unfold sortD at hz
  rw [Option.bind_eq_some_iff] at hz
  obtain ⟨ds, e1, hz⟩ := hz
  split at hz
  · rename_i ok
    cases hz
    obtain ⟨bs, b1, b2, b3, hb⟩ := zip_vals h2 (dps_data R e1 h2)
    unfold sortOk at ok
    simp only [Bool.and_eq_true, Bool.or_eq_true, List.all_eq_true, decide_eq_true_eq] at ok
    obtain ⟨⟨k1, k2⟩, k3⟩ := ok
    have eP : ((isort (PySem.W.dataLe false (·.2)) (ys.zip ds)).map (·.1) : List P) = (bs.mergeSort (PySem.W.dataLe false (·.2.2))).map (·.1) := by
      have hT : PySem.W.TotalLe (PySem.W.dataLe false (fun x : P × PyData => x.2)) := PySem.W.sortLe_total _ _ _
      rw [isort_eq hT]
      have : ys.zip ds = bs.map fun b => (b.1, b.2.2) := by
        rw [← b1, ← b3]
        clear b1 b2 b3 hb
        induction bs with
        | nil => rfl
        | cons b bs ih => simp [ih]
      rw [this, ← PySem.W.sort_maps (r := PySem.W.dataLe false (·.2.2)) (s := PySem.W.dataLe false (·.2)) (fun b : P × V × PyData => (b.1, b.2.2)) fun _ _ _ _ => rfl, List.map_map]
      rfl
    have eV : ((bs.map (·.2)).mergeSort (PySem.W.dataLe false (·.2))).map (·.1) = (bs.mergeSort (PySem.W.dataLe false (·.2.2))).map (·.2.1) := by
      rw [← PySem.W.sort_maps (r := PySem.W.dataLe false (·.2.2)) (s := PySem.W.dataLe false (·.2)) (fun b : P × V × PyData => b.2) fun _ _ _ _ => rfl, List.map_map]
      rfl
    have rv : Rvs K ρ H ((isort (PySem.W.dataLe false (·.2)) (ys.zip ds)).map (·.1)) ((bs.mergeSort (PySem.W.dataLe false (·.2.2))).map (·.2.1)) := by
      rw [eP]
      exact rvs_map fun b hb' => (hb b (List.mem_mergeSort.mp hb')).1
    refine ⟨bs.map (·.2), ?_, ?_, ?_, ?_, ?_, ?_⟩
    · rw [List.map_map]
      exact b2
    · intro b hb'
      obtain ⟨c, hc, rfl⟩ := List.mem_map.mp hb'
      exact (hb c hc).2
    · rw [List.map_map]
      show PySem.W.AllAlike (bs.map (·.2.2))
      rw [b3]
      exact fun d hd d' hd' => k1 d hd d' hd'
    · rw [List.map_map]
      show SortE (bs.map (·.2.2))
      rw [b3]
      rcases k3 with (k3 | k3) | k3
      · refine .inl (.inl fun d hd => ?_)
        have := k3 d hd
        split at this
        · exact ⟨_, _, rfl⟩
        · cases this
      · refine .inl (.inr fun d hd => ?_)
        have := k3 d hd
        constructor
        · intro z; subst z; cases this
        · intro xs z; subst z; cases this
      · exact .inr ⟨k3.1, fun d hd z => by have := k3.2 d hd; subst z; cases this⟩
    · intro b hb'
      refine k2 _ ?_
      rw [← b3]
      obtain ⟨c, hc, rfl⟩ := List.mem_map.mp hb'
      exact List.mem_map.mpr ⟨c, hc, rfl⟩
    · intro q hq
      rw [eV]
      exact Post.lst R rv post q hq
  · cases hz
theorem cr_sorted (hc : X.calm = true) (hu : X.A.units + 200 < cLine) : CallR X (.builtin "sorted") (rBlt X.kw .sorted) := by
  intro pins s σ H xs us Q I r ⟨EX, ρ, h, ps, R, hps, post⟩
  unfold bltV at post
  split at post
  all_goals first
    | exact post.elim
    | (rename_i e; cases e; done)
    | (rename_i e _; cases e; done)
    | skip
  obtain ⟨v, rfl, hv⟩ := rvs_one hps
  obtain ⟨a, ha, rfl⟩ := hv
  split at post
  · rename_i ys hy
    obtain ⟨a', vs, ha', h1, h2⟩ := R.lst hy
    rw [ha] at ha'; cases ha'
    split at post
    · rename_i zs hz
      obtain ⟨bs, eb, q1, q2, q3, q4, q5⟩ := sort_bs R hz h2 post
      exact call_sortD hu pins s σ H _ us Q I r ⟨a, bs, rfl, by rw [eb]; exact SqL.of h1, q1, q2, q3, q4, q5⟩
    · exact post.elim
  · rename_i kvs hy
    obtain ⟨a', ha', ro⟩ := R.dic hy
    rw [ha] at ha'; cases ha'
    split at post
    · rename_i zs hz
      exact call_sort_dic hc hu pins s σ H _ us Q I r ⟨a, ρ, kvs, rfl, ro, fun vs h2 => sort_bs R hz h2 post⟩
    · exact post.elim
  · exact post.elim
theorem bools_rv {K : Kw} {ρ : List Addr} {H : Hp} : ∀ {ps : List P} {vs : List V} {bs : List Bool}, boolsP ps = some bs → Rvs K ρ H ps vs → vs = bs.map V.bl
  | [], vs, bs, e, r => by cases r; cases e; rfl
  | p :: ps, vs, bs, e, r => by
    obtain ⟨v, vr, rfl, r1, r2⟩ := r
    cases p <;> simp only [boolsP, reduceCtorEq, Option.map_eq_some_iff] at e
    obtain ⟨ms, e1, rfl⟩ := e
    cases r1
    rw [bools_rv e1 r2]; rfl
theorem cr_anyB (hc : X.calm = true) : CallR X (.builtin "any") (rBlt X.kw .any) := by
  intro pins s σ H xs us Q I r ⟨EX, ρ, h, ps, R, hps, post⟩
  unfold bltV at post
  split at post
  all_goals first
    | exact post.elim
    | (rename_i e; cases e; done)
    | (rename_i e _; cases e; done)
    | skip
  obtain ⟨v, rfl, hv⟩ := rvs_one hps
  obtain ⟨a, ha, rfl⟩ := hv
  split at post
  · rename_i ys hy
    obtain ⟨a', vs, ha', h1, h2⟩ := R.lst hy
    rw [ha] at ha'; cases ha'
    split at post
    · rename_i bs hb
      have := bools_rv hb h2
      subst this
      exact L2.cr_any hc pins s σ H _ us Q I r ⟨a, bs, rfl, SqL.of h1, post.of_ok R _ rfl⟩
    · exact post.elim
  · exact post.elim
theorem cr_allB (hc : X.calm = true) : CallR X (.builtin "all") (rBlt X.kw .all) := by
  intro pins s σ H xs us Q I r ⟨EX, ρ, h, ps, R, hps, post⟩
  unfold bltV at post
  split at post
  all_goals first
    | exact post.elim
    | (rename_i e; cases e; done)
    | (rename_i e _; cases e; done)
    | skip
  obtain ⟨v, rfl, hv⟩ := rvs_one hps
  obtain ⟨a, ha, rfl⟩ := hv
  split at post
  · rename_i ys hy
    obtain ⟨a', vs, ha', h1, h2⟩ := R.lst hy
    rw [ha] at ha'; cases ha'
    split at post
    · rename_i bs hb
      have := bools_rv hb h2
      subst this
      exact L2.cr_all hc pins s σ H _ us Q I r ⟨a, bs, rfl, SqL.of h1, post.of_ok R _ rfl⟩
    · exact post.elim
  · exact post.elim
theorem cr_dict (hc : X.calm = true) : CallR X (.type "dict") (rBlt X.kw .dict) := by
  intro pins s σ H xs us Q I r ⟨EX, ρ, h, ps, R, hps, post⟩
  unfold bltV at post
  split at post
  all_goals first
    | exact post.elim
    | (rename_i e; cases e; done)
    | (rename_i e _; cases e; done)
    | skip
  obtain ⟨v, rfl, hv⟩ := rvs_one hps
  obtain ⟨a, ha, rfl⟩ := hv
  split at post
  · rename_i hy
    obtain ⟨a', vs, ha', h1, h2⟩ := R.lst hy
    rw [ha] at ha'; cases ha'
    cases h2
    exact call_dict_nil hc pins s σ H _ us Q I r ⟨a, rfl, h1, Post.dic0 (kvs := []) R rfl post⟩
  · exact post.elim
theorem isi_kit {K : PySem.W.Frag} {t n : String} (ht : t = "NoneType" ∨ t = "bool" ∨ t = "int" ∨ t = "str" ∨ t = "tuple" ∨ t = "list") (hn : tyOk n = true) : PySem.W.kitOne K (.type t) (.type n) = some (tyIs t n) := by
  refine kit_ty ?_
  unfold tyOk at hn
  simp only [Bool.or_eq_true, beq_iff_eq] at hn
  rcases ht with rfl | rfl | rfl | rfl | rfl | rfl <;> rcases hn with (((rfl | rfl) | rfl) | rfl) | rfl <;> decide +kernel
theorem cr_isi : CallR X (.builtin "isinstance") (rBlt X.kw .isi) := by
  intro pins s σ H xs us Q I r ⟨EX, ρ, h, ps, R, hps, post⟩
  unfold bltV at post
  split at post
  all_goals first
    | exact post.elim
    | (rename_i e; cases e; done)
    | (rename_i e _; cases e; done)
    | skip
  rename_i x n _
  obtain ⟨v, w, rfl, hv, hw⟩ := rvs_two hps
  obtain rfl : w = .ty n := hw
  split at post
  · rename_i b hb
    unfold isiV at hb
    split at hb
    · rename_i hn
      rw [Option.map_eq_some_iff] at hb
      obtain ⟨t, et, rfl⟩ := hb
      have q := post.of_ok R _ rfl
      have fin : (t = "NoneType" ∨ t = "bool" ∨ t = "int" ∨ t = "str" ∨ t = "tuple" ∨ t = "list") ∧ TyX X.K H v (.type t) := by
        cases x with
        | non =>
          cases et
          obtain rfl : v = .non := hv
          exact ⟨.inl rfl, .base .non⟩
        | bl b =>
          cases et
          obtain rfl : v = .bl b := hv
          exact ⟨.inr (.inl rfl), .base (.bl b)⟩
        | int i =>
          cases et
          obtain rfl : v = .int i := hv
          exact ⟨.inr (.inr (.inl rfl)), .base (.int i)⟩
        | str i =>
          cases et
          obtain rfl : v = .str i := hv
          exact ⟨.inr (.inr (.inr (.inl rfl))), .base (.str i)⟩
        | tup ps =>
          cases et
          obtain ⟨a, vs, rfl, ha, _⟩ := hv
          refine ⟨.inr (.inr (.inr (.inr (.inl rfl)))), ?_⟩
          rcases ha with (ha | ⟨o, ha⟩) | ⟨o, its, n, ha, hc, _⟩
          · exact .base (.tup ha)
          · exact .fTuple ha
          · exact .kTuple ha hc
        | ref l =>
          obtain ⟨a, ha, rfl⟩ := hv
          have et : (match h[l]? with | some (.lst _) => some "list" | _ => none) = some t := et
          split at et
          · rename_i ys e
            cases et
            obtain ⟨a', vs, ha', h1, _⟩ := R.lst e
            rw [ha] at ha'; cases ha'
            exact ⟨.inr (.inr (.inr (.inr (.inr rfl)))), .base (.lst h1)⟩
          · cases et
        | _ => cases et
      exact call_isi pins s σ H _ us Q I r ⟨v, .ty n, .type t, .type n, tyIs t n, rfl, .ty n, fin.2, isi_kit fin.1 hn, q⟩
    · cases hb
  · exact post.elim

def rBmt (K : Kw) (m : Bmt) : V → List V → Hp → VK → Prop := fun x xs H Q => ∃ (EX : EX1) (ρ : List Addr) (h : Hea) (p : P) (ps : List P), Rep K ρ h H ∧ Rv K ρ H p x ∧ Rvs K ρ H ps xs ∧ Val K EX (bmtV m p ps h) ρ H Q
theorem mt_append : MtR X "list.append" (rBmt X.kw .append) := by
  intro pins s σ H x xs v us Q I rx rxs ⟨EX, ρ, h, p, ps, R, hp, hps, post⟩
  unfold bmtV at post
  split at post
  · obtain ⟨a, ha, rfl⟩ := hp
    obtain ⟨y, rfl, hy⟩ := rvs_one hps
    split at post
    · rename_i ys hx
      obtain ⟨a', vs, ha', h1, h2⟩ := R.lst hx
      rw [ha] at ha'; cases ha'
      obtain ⟨hl, post⟩ := post.ite
      obtain ⟨ex, post⟩ := Post.put R ha (by rw [h1]; simp) ⟨by rw [h1]; simp, by rw [h1]; simp⟩ (h2.append (Rvs.cons hy .nil)) post
      exact L2.mt_append pins s σ H _ _ v us Q I rx rxs ⟨a, vs, y, rfl, rfl, h1, by rw [← sz_eq, h2.length]; exact hl, post _ rfl⟩
    · exact post.elim
  all_goals first
    | exact post.elim
    | (simp_all; done)
theorem list_extend_tupW (l : Addr) (items : Array Value) (n : Nat) (b : Addr) (its2 : Array Value) (n2 : Nat) (dd : Option Addr) (sl : Array (Option Value)) (h0 : ¬(!items.isEmpty && Builtin.List.listTooLong (items.size + its2.size)) = true) (h1 : items.size ≤ sizeLine) (h2 : items.size + its2.size ≤ sizeLine + 1) :
    Meets (Builtin.«list.extend» ⟨[.ref l, .ref b], []⟩) (fun _ R s => s.heap.get? l = some { cls := .type "list", dict := none, data := .seq items n, slots := #[] } ∧ s.heap.get? b = some { cls := .type "tuple", dict := dd, data := .seq its2 n2, slots := sl } ∧ R (.ok (.ret Value.none)) { s with heap := s.heap.update l (Obj.mapSeq fun x => x ++ its2), toks := s.toks }) :=
  .of_wp fun prog w A R s h => by
    obtain ⟨hp, g, d, tk, os⟩ := s
    obtain ⟨hl, hb, h⟩ := h
    have f1 := AutoSeq1.idx_int
    have f2 := AutoSeq1.sub_tuple_tuple
    have f3 := AutoSeq1.sub_list_list
    have f4 := AutoSeq1.sub_tuple_list
    have f5 := AutoSeq1.sub_list_tuple
    have hz : (items ++ its2).size ≤ sizeLine + 1 := by rw [Array.size_append]; exact h2
    wp_walk using (wpAny_updateSeq hl rfl (hz := h1) (_hz' := hz)), wpAny_loadPart' hl, wpAny_loadPart' hb
    exact ⟨_, rfl, h⟩
theorem mt_extendT : MtM X "list.extend" (fun x vs H Q => ∃ l b xs zs, x = .ref l ∧ vs = [.ref b] ∧ H l = some (.lst xs) ∧ SqT X.K H b zs ∧ xs.length + zs.length ≤ sizeLine ∧ Q .non (upd H l (.lst (xs ++ zs)))) := by
  intro pins s σ H x vs v us Q I rx rv h
  obtain ⟨l, b, xs, zs, rfl, rfl, hH, hB, hz, q⟩ := h
  cases rx
  obtain ⟨u, rfl, ru⟩ := rv.one
  cases ru
  obtain ⟨z, its, n, r, hl, e⟩ := I.lstM hH
  obtain ⟨its2, r2, ⟨⟨cls, dd, data, sl⟩, ho, hc, n2, hd⟩, hs2⟩ := I.tuple hB
  simp only at hc hd
  subst hc hd
  have l2 : its2.length = zs.length := r2.length.symm
  have hsz : its.toArray.size + its2.toArray.size ≤ sizeLine := by rw [List.size_toArray, List.size_toArray]; omega
  have hlong : ¬ (!its.toArray.isEmpty && Builtin.List.listTooLong (its.toArray.size + its2.toArray.size)) = true := by
    rw [L2.notLongL hsz, Bool.and_false]
    exact Bool.false_ne_true
  refine call_meets F.slot_list_extend ⟨_, e, rfl⟩ F.entry_list_extend (F.args_list_extend_2 _ _)
    (list_extend_tupW l its.toArray n b its2.toArray n2 dd sl hlong (by rw [List.size_toArray]; omega) (by omega)) ⟨e, ho, ?_⟩
  refine ⟨.non, _, I.lset (its' := its ++ its2) hH e (by simp) (r.append r2) ?_, rfl, q⟩
  rw [List.length_append]
  omega
theorem mt_extend : MtR X "list.extend" (rBmt X.kw .extend) := by
  intro pins s σ H x xs v us Q I rx rxs ⟨EX, ρ, h, p, ps, R, hp, hps, post⟩
  unfold bmtV at post
  split at post
  case h_2 =>
    obtain ⟨a, ha, rfl⟩ := hp
    obtain ⟨y, rfl, hy⟩ := rvs_one hps
    obtain ⟨b, hb, rfl⟩ := hy
    split at post
    · rename_i ys zs hx hz
      obtain ⟨a', vs, ha', h1, h2⟩ := R.lst hx
      obtain ⟨b', ws, hb', h3, h4⟩ := R.lst hz
      rw [ha] at ha'; cases ha'
      rw [hb] at hb'; cases hb'
      obtain ⟨hl, post⟩ := post.ite
      obtain ⟨ex, post⟩ := Post.put R ha (by rw [h1]; simp) ⟨by rw [h1]; simp, by rw [h1]; simp⟩ (h2.append h4) post
      exact L2.mt_extend pins s σ H _ _ v us Q I rx rxs ⟨a, b, vs, ws, rfl, rfl, h1, h3, by rw [← sz_eq, h2.length, h4.length]; exact hl, post _ rfl⟩
    · exact post.elim
  case h_3 =>
    obtain ⟨a, ha, rfl⟩ := hp
    obtain ⟨y, rfl, hy⟩ := rvs_one hps
    obtain ⟨b, ws, rfl, h3, h4⟩ := hy
    split at post
    · rename_i ys hx
      obtain ⟨a', vs, ha', h1, h2⟩ := R.lst hx
      rw [ha] at ha'; cases ha'
      obtain ⟨hl, post⟩ := post.ite
      obtain ⟨ex, post⟩ := Post.put R ha (by rw [h1]; simp) ⟨by rw [h1]; simp, by rw [h1]; simp⟩ (h2.append h4) post
      exact mt_extendT pins s σ H _ _ v us Q I rx rxs ⟨a, b, vs, ws, rfl, rfl, h1, h3, by rw [← sz_eq, h2.length, h4.length]; exact hl, post _ rfl⟩
    · exact post.elim
  all_goals first
    | exact post.elim
    | (simp_all; done)
theorem mt_pop : MtR X "list.pop" (rBmt X.kw .pop) := by
  intro pins s σ H x xs v us Q I rx rxs ⟨EX, ρ, h, p, ps, R, hp, hps, post⟩
  unfold bmtV at post
  split at post
  case h_4 =>
    obtain ⟨a, ha, rfl⟩ := hp
    have e0 : xs = [] := hps
    subst e0
    split at post
    · rename_i ys hx
      obtain ⟨a', vs, ha', h1, h2⟩ := R.lst hx
      rw [ha] at ha'; cases ha'
      split at post
      · rename_i y hy
        obtain ⟨w, hw, rw'⟩ := h2.get hy
        obtain ⟨ex, post⟩ := Post.put R ha (by rw [h1]; simp) ⟨by rw [h1]; simp, by rw [h1]; simp⟩ h2.dropLast post
        exact L2.mt_pop pins s σ H _ _ v us Q I rx rxs ⟨a, vs, w, rfl, rfl, h1, by rw [h2.length]; exact hw, post w (rw'.ext ex)⟩
      · exact post.elim
    · exact post.elim
  case h_5 =>
    rename_i l i _
    obtain ⟨a, ha, rfl⟩ := hp
    obtain ⟨y, rfl, hy⟩ := rvs_one hps
    cases hy
    obtain ⟨c, post⟩ := post.ite
    subst c
    cases hx : h[l]? with
    | none => rw [hx] at post; exact post.elim
    | some o =>
    rw [hx] at post
    cases o with
    | lst ys =>
      obtain ⟨a', vs, ha', h1, h2⟩ := R.lst hx
      rw [ha] at ha'; cases ha'
      cases ys with
      | cons y r =>
        obtain ⟨w, vr, rfl, hw, hr⟩ := h2
        obtain ⟨ex, post⟩ := Post.put R ha (by rw [h1]; simp) ⟨by rw [h1]; simp, by rw [h1]; simp⟩ hr post
        exact L2.mt_popAt pins s σ H _ _ v us Q I rx rxs ⟨a, w :: vr, 0, 0, w, rfl, rfl, h1, by omega, by omega, by unfold seqIndex?; simp, rfl, post w (hw.ext ex)⟩
      | nil => exact post.elim
    | _ => exact post.elim
  all_goals first
    | exact post.elim
    | (simp_all; done)

theorem mt_count : MtR X "list.count" (rBmt X.kw .count) := by
  intro pins s σ H x xs v us Q I rx rxs ⟨EX, ρ, h, p, ps, R, hp, hps, post⟩
  unfold bmtV at post
  split at post
  case h_6 =>
    obtain ⟨a, ha, rfl⟩ := hp
    obtain ⟨y, rfl, hy⟩ := rvs_one hps
    cases hy
    split at post
    · rename_i xs hx
      obtain ⟨a', vs, ha', h1, h2⟩ := R.lst hx
      rw [ha] at ha'; cases ha'
      split at post
      · rename_i ns hn
        have := ints_rv hn h2
        subst this
        exact L2.mt_lcount pins s σ H _ _ v us Q I rx rxs ⟨a, ns, _, rfl, rfl, SqL.of h1, post.of_ok R _ rfl⟩
      · exact post.elim
    · exact post.elim
  all_goals first
    | exact post.elim
    | (simp_all; done)

def rSet (K : Kw) : TSet := fun o i v H Q => ∃ (EX : EX1) (ρ : List Addr) (h : Hea) (p q r : P), Rep K ρ h H ∧ Rv K ρ H p o ∧ Rv K ρ H q i ∧ Rv K ρ H r v ∧ Post K EX (setV p q r h) ρ H fun _ ρ' h' H' => Ext ρ ρ' H H' → Q H'
theorem set_ev (hu : X.A.units + 200 < cLine) : PSet X (rSet X.kw) := by
  intro pins s σ H o i v ov iv u Q I ro ri rv ⟨EX, ρ, h, p, q, r, R, hp, hq, hr, post⟩
  unfold setV at post
  split at post
  · obtain ⟨a, ha, rfl⟩ := hp
    cases hq
    split at post
    · rename_i ys hx
      obtain ⟨a', vs, ha', h1, h2⟩ := R.lst hx
      rw [ha] at ha'; cases ha'
      split at post
      · rename_i j hj
        obtain ⟨ex, post⟩ := Post.put R ha (by rw [h1]; simp) ⟨by rw [h1]; simp, by rw [h1]; simp⟩ (h2.set hr j) post
        exact set_list pins s σ H _ _ _ ov iv u Q I ro ri rv ⟨a, vs, _, j, rfl, rfl, h1, by rw [h2.length]; exact hj, post ex⟩
      · exact post.elim
    · exact post.elim
  · obtain ⟨a, ha, rfl⟩ := hp
    cases ro
    split at post
    · rename_i kvs hk
      obtain ⟨c, post⟩ := post.ite
      rw [Bool.and_eq_true, decide_eq_true_eq] at c
      exact dset_ok hu I R ha hk c.1 c.2 hq ri hr rv post
    · exact post.elim
  · exact post.elim
end
end Ev

set_option maxHeartbeats 1000000
namespace Ev.Z
open PySem L2 RZ
open PySem.Sem (wp)
def SL : Bool → Heap → Addr → Array Value → Prop
  | false, h, l, xs => h.IsList l xs
  | true, h, l, xs => h.IsTuple l xs
def SI : Bool → Heap → Addr → Addr → Nat → Prop
  | false, h, it, l, i => h.IsListIter it l i
  | true, h, it, l, i => h.IsTupleIter it l i
abbrev HZ (b : Bool) (h : Heap) (z TI TO : Addr) (f0 : Value) : Prop :=
  h.get? z = some { cls := .type "zip", dict := none, data := .fields #[f0, .bool false, .bool b, .ref TI, .ref TO], slots := #[] }
theorem SL.ext {k : Bool} {h h' : Heap} {l z : Addr} {xs : Array Value} (a : SL k h l xs) (e : Heap.ExtBut z h h') (n : l ≠ z) : SL k h' l xs := by
  cases k
  · exact Heap.IsList.extBut a e n
  · exact Heap.IsTuple.extBut a e n
theorem SI.ext {k : Bool} {h h' : Heap} {it l z : Addr} {i : Nat} (a : SI k h it l i) (e : Heap.ExtBut z h h') (n : it ≠ z) : SI k h' it l i := by
  cases k
  · exact Heap.IsListIter.extBut a e n
  · exact Heap.IsTupleIter.extBut a e n
theorem SI.at {k : Bool} {h h' : Heap} {it l : Addr} {i : Nat} (a : SI k h it l i) (e : ∀ o, h.get? it = some o → h'.get? it = some o) : SI k h' it l i := by
  cases k
  · exact Heap.IsListIter.at a e
  · exact Heap.IsTupleIter.at a e
theorem SI.ob {k : Bool} {h : Heap} {it l : Addr} {i : Nat} (a : SI k h it l i) : ∃ o v, h.get? it = some o ∧ o.data = .fields v := by
  cases k
  · obtain ⟨o, e, _, d⟩ := (show h.IsListIter it l i from a); exact ⟨o, _, e, d⟩
  · obtain ⟨o, e, _, d⟩ := (show h.IsTupleIter it l i from a); exact ⟨o, _, e, d⟩
section
variable {prog : Program} {w : World} {A : Around} {E : Value → Shared → Prop} {s : Shared}
theorem next_item {k : Bool} {it l : Addr} {i : Nat} {xs : Array Value} {x : Value} {Q : Value → Shared → Prop} (a : SI k s.heap it l i) (b : SL k s.heap l xs) (e : xs[i]? = some x)
    (q : ∀ h', SI k h' it l (i + 1) → Heap.SameBut it s.heap h' → Q x { s with heap := h' }) : wpAny (model prog w) A (Builtin.SmallTypes.nextOf (.ref it)) Q E s := by
  cases k
  · exact wpAny_nextOf_list_item a b e q
  · exact nextOf_tuple_item a b e q
theorem next_end {k : Bool} {it l : Addr} {i : Nat} {xs : Array Value} {Q : Value → Shared → Prop} (hh : A.handled = none) (a : SI k s.heap it l i) (b : SL k s.heap l xs) (e : xs[i]? = none)
    (q : ∀ h' x, Heap.ExtBut it s.heap h' → (∃ o, h'.get? x = some o ∧ o.cls = .type "StopIteration") → E (.ref x) { s with heap := h' }) : wpAny (model prog w) A (Builtin.SmallTypes.nextOf (.ref it)) Q E s := by
  cases k
  · exact wpAny_nextOf_list_end hh a b e q
  · exact nextOf_tuple_end hh a b e q
theorem orEnd_item {k : Bool} {it l : Addr} {i : Nat} {xs : Array Value} {x : Value} {Q : Option Value → Shared → Prop} (a : SI k s.heap it l i) (b : SL k s.heap l xs) (e : xs[i]? = some x)
    (q : ∀ h', SI k h' it l (i + 1) → Heap.SameBut it s.heap h' → Q (some x) { s with heap := h' }) : wpAny (model prog w) A (Builtin.SmallTypes.nextOrEnd (.ref it)) Q E s := by
  unfold Builtin.SmallTypes.nextOrEnd
  exact wpAny_bind (wpAny_attempt (next_item a b e fun h' a1 a2 => wpAny_pure (q h' a1 a2)))
theorem orEnd_end {k : Bool} {it l : Addr} {i : Nat} {xs : Array Value} {Q : Option Value → Shared → Prop} (hh : A.handled = none) (a : SI k s.heap it l i) (b : SL k s.heap l xs) (e : xs[i]? = none)
    (q : ∀ h', Heap.ExtBut it s.heap h' → Q none { s with heap := h' }) : wpAny (model prog w) A (Builtin.SmallTypes.nextOrEnd (.ref it)) Q E s := by
  unfold Builtin.SmallTypes.nextOrEnd
  refine wpAny_bind (wpAny_attempt (next_end hh a b e fun h' x k1 ⟨o, ho, hc⟩ => ?_))
  exact wpAny_bind (wpAny_isInstance (T := "StopIteration") (b := true) ⟨o, ho, hc⟩ isSubtype_stop (wpAny_pure (q h' k1)))
theorem draw_item {k b : Bool} {it l : Addr} {i : Nat} {xs : Array Value} {x : Value} {Q : Option Value → Shared → Prop} (a : SI k s.heap it l i) (c : SL k s.heap l xs) (e : xs[i]? = some x)
    (q : ∀ h', SI k h' it l (i + 1) → Heap.SameBut it s.heap h' → Q (some x) { s with heap := h' }) :
    wpAny (model prog w) A (if b = true then Builtin.SmallTypes.nextOrEnd (.ref it) else do return some (← Builtin.SmallTypes.nextOf (.ref it))) Q E s := by
  cases b
  · rw [if_neg (by simp)]
    exact wpAny_bind (next_item a c e fun h' a1 a2 => wpAny_pure (q h' a1 a2))
  · rw [if_pos rfl]
    exact orEnd_item a c e q
theorem stop_out {α : Type} {Q : α → Shared → Prop} (hh : A.handled = none) (q : ∀ h' x, (∀ c o, s.heap.get? c = some o → h'.get? c = some o) → (∃ o, h'.get? x = some o ∧ o.cls = .type "StopIteration") → E (.ref x) { s with heap := h' }) :
    wpAny (model prog w) A (Builtin.SmallTypes.stopIteration : Sem α) Q E s := by
  unfold Builtin.SmallTypes.stopIteration
  refine wpAny_bind ?_
  simp only [newExc, newTuple]
  refine wpAny_bind (wpAny_newObj_type ?_ (by size_fits))
  refine wpAny_bind (m := firstArgMember _ _) (wpAny_of_eq (a := Value.none) (by first | rfl | (simp only [firstArgMember]; rfl)) ?_)
  refine wpAny_newObj_type ?_ (by size_fits)
  simp only [raiseNew]
  refine wpAny_bind (wpAny_handled ?_)
  rw [hh]
  refine wpAny_bind (wpAny_pure (wpAny_throw ?_))
  exact q _ _ (fun c o x => Heap.get?_push_of_some _ (Heap.get?_push_of_some _ x)) ⟨_, Heap.get?_push_size _ rfl, rfl⟩
end

section
variable {prog : Program} {w : World} {A : Around} {E : Value → Shared → Prop} {s : Shared}
theorem zz_item {b k1 k2 : Bool} {z TI TO i1 i2 l1 l2 : Addr} {n1 n2 : Nat} {xs ys : Array Value} {x y u v : Value} {Q : Value → Shared → Prop} (D : ZipApart z TI TO i1 i2 l1 l2)
    (hZ : HZ b s.heap z TI TO .none) (hI : IsPair s.heap TI (.ref i1) (.ref i2)) (hO : IsPair s.heap TO u v)
    (a1 : SI k1 s.heap i1 l1 n1) (a2 : SI k2 s.heap i2 l2 n2) (c1 : SL k1 s.heap l1 xs) (c2 : SL k2 s.heap l2 ys) (ex : xs[n1]? = some x) (ey : ys[n2]? = some y)
    (q : ∀ h', HZ b h' z TI TO (rawInt s.heap.objs.size) → IsPair h' TO x y → SI k1 h' i1 l1 (n1 + 1) → SI k2 h' i2 l2 (n2 + 1) → IsPair h' s.heap.objs.size x y → h'.objs.size = s.heap.objs.size + 1 →
      (∀ c o, c ≠ z → c ≠ TO → c ≠ i1 → c ≠ i2 → s.heap.get? c = some o → h'.get? c = some o) → Q (.ref s.heap.objs.size) { s with heap := h' }) :
    wpAny (model prog w) A (Builtin.«zip.__next__» ⟨[.ref z], []⟩) (fun fin s' => ∃ v, fin = .done (.ret v) ∧ Q v s') E s := by
  show wpAny _ _ (field (.ref z) 2 >>= _) _ _ _
  refine wpAny_bind (wpAny_field hZ rfl (x := .bool b) rfl ?_)
  show wpAny _ _ (field (.ref z) 3 >>= _) _ _ _
  refine wpAny_bind (wpAny_field hZ rfl (x := .ref TI) rfl ?_)
  refine wpAny_bind (wpAny_seqItems hI rfl ?_)
  show wpAny _ _ (Builtin.SmallTypes.ownedTupleIsFree (.ref z) >>= _) _ _ _
  refine wpAny_bind ?_
  unfold Builtin.SmallTypes.ownedTupleIsFree
  refine wpAny_bind (wpAny_field hZ rfl (x := .none) rfl (wpAny_pure ?_))
  simp only [if_true]
  refine wpAny_bind (wpAny_rule ?_)
  refine wpAny_bind (wpAny_field hZ rfl (x := .ref TO) rfl ?_)
  refine wpAny_bind (wpAny_setField_rec hZ (by simp) fun g1 z1 e1 => ?_)
  replace z1 : HZ b g1 z TI TO .ellipsis := z1
  refine wpAny_bind ?_
  simp only [List.zipIdx_cons, List.zipIdx_nil, List.forIn_cons, List.forIn_nil]
  refine wpAny_bind (wpAny_bind (wpAny_onRaise ?_))
  have eb : (Value.bool b == Value.bool true) = b := by cases b <;> rfl
  rw [eb]
  show wpAny _ _ (if b = true then Builtin.SmallTypes.nextOrEnd (.ref i1) else do return some (← Builtin.SmallTypes.nextOf (.ref i1))) _ _ _
  refine draw_item (a1.ext e1.extBut D.i1z) (c1.ext e1.extBut D.l1z) ex fun g2 b1 e2 => ?_
  have o2 : IsPair g2 TO u v := e2.extBut _ _ D.TOi1 (e1.extBut _ _ D.TOz hO)
  refine wpAny_bind (wpAny_seqItems o2 rfl ?_)
  refine wpAny_bind (wpAny_updateSeq_pair o2 fun g3 o3 e3 => ?_)
  replace o3 : IsPair g3 TO x v := o3
  refine wpAny_bind (wpAny_letGo (wpAny_pure ?_))
  refine wpAny_bind (wpAny_bind (wpAny_onRaise ?_))
  show wpAny _ _ (if b = true then Builtin.SmallTypes.nextOrEnd (.ref i2) else do return some (← Builtin.SmallTypes.nextOf (.ref i2))) _ _ _
  refine draw_item (((a2.ext e1.extBut D.i2z).ext e2.extBut D.i12.symm).ext e3.extBut D.TOi2.symm) (((c2.ext e1.extBut D.l2z).ext e2.extBut D.l2i1).ext e3.extBut D.l2TO) ey fun g4 b2 e4 => ?_
  have o4 : IsPair g4 TO x v := e4.extBut _ _ D.TOi2 o3
  refine wpAny_bind (wpAny_seqItems o4 rfl ?_)
  refine wpAny_bind (wpAny_updateSeq_pair o4 fun g5 o5 e5 => ?_)
  replace o5 : IsPair g5 TO x y := o5
  refine wpAny_bind (wpAny_letGo (wpAny_pure (wpAny_pure ?_)))
  refine wpAny_bind (wpAny_seqItems o5 rfl ?_)
  refine wpAny_bind (wpAny_newTuple ?_)
  have sz : g5.objs.size = s.heap.objs.size := by rw [e5.1, e4.1, e3.1, e2.1, e1.1]
  have z5 : HZ b g5 z TI TO .ellipsis := e5.extBut _ _ D.TOz.symm (e4.extBut _ _ D.i2z.symm (e3.extBut _ _ D.TOz.symm (e2.extBut _ _ D.i1z.symm z1)))
  have kp : ∀ c o, c ≠ z → c ≠ TO → c ≠ i1 → c ≠ i2 → s.heap.get? c = some o → g5.get? c = some o := fun c o d1 d2 d3 d4 e =>
    e5.extBut _ _ d2 (e4.extBut _ _ d4 (e3.extBut _ _ d2 (e2.extBut _ _ d3 (e1.extBut _ _ d1 e))))
  have b15 : SI k1 g5 i1 l1 (n1 + 1) := ((b1.ext e3.extBut D.TOi1.symm).ext e4.extBut D.i12).ext e5.extBut D.TOi1.symm
  have b25 : SI k2 g5 i2 l2 (n2 + 1) := b2.ext e5.extBut D.TOi2.symm
  have zlt : z < g5.objs.size := Heap.lt_size z5
  have Olt : TO < g5.objs.size := Heap.lt_size o5
  show wpAny _ _ (Builtin.SmallTypes.ownedTupleHandOut (.ref z) (.ref g5.objs.size) >>= _) _ _ _
  refine wpAny_bind ?_
  unfold Builtin.SmallTypes.ownedTupleHandOut
  have z6 : HZ b (g5.push { cls := .type "tuple", data := .seq #[x, y] }) z TI TO .ellipsis := Heap.get?_push_of_some _ z5
  refine wpAny_bind (wpAny_setField_rec z6 (by simp) fun g7 z7 e7 => ?_)
  replace z7 : HZ b g7 z TI TO (rawInt g5.objs.size) := z7
  refine wpAny_setField_rec z7 (by simp) fun g8 z8 e8 => ?_
  replace z8 : HZ b g8 z TI TO (rawInt g5.objs.size) := z8
  have up : ∀ c o, c ≠ z → g5.get? c = some o → g8.get? c = some o := fun c o d1 e => e8.extBut _ _ d1 (e7.extBut _ _ d1 (Heap.get?_push_of_some _ e))
  have t8 : IsPair g8 g5.objs.size x y := e8.extBut _ _ (Nat.ne_of_gt zlt) (e7.extBut _ _ (Nat.ne_of_gt zlt) (Heap.get?_push_size _ rfl))
  have s8 : g8.objs.size = g5.objs.size + 1 := by rw [e8.1, e7.1, Heap.size_push]
  rw [sz] at z8 t8 s8
  refine wpAny_pure ⟨_, rfl, ?_⟩
  show Q (.ref g5.objs.size) _
  rw [sz]
  exact q g8 z8 (up _ _ D.TOz o5) (b15.at fun o e => up _ o D.i1z e) (b25.at fun o e => up _ o D.i2z e) t8 s8 fun c o d1 d2 d3 d4 e => up c o d1 (kp c o d1 d2 d3 d4 e)
theorem zz_end {b k1 k2 : Bool} {z TI TO i1 i2 l1 l2 : Addr} {n1 n2 : Nat} {xs ys : Array Value} {u v : Value} {Q : Fin → Shared → Prop} (hh : A.handled = none) (D : ZipApart z TI TO i1 i2 l1 l2)
    (hZ : HZ b s.heap z TI TO .none) (hI : IsPair s.heap TI (.ref i1) (.ref i2)) (hO : IsPair s.heap TO u v)
    (a1 : SI k1 s.heap i1 l1 n1) (a2 : SI k2 s.heap i2 l2 n2) (c1 : SL k1 s.heap l1 xs) (c2 : SL k2 s.heap l2 ys) (he : xs[n1]? = none ∨ ys[n2]? = none) (hb : b = true → xs[n1]? = none ∧ ys[n2]? = none)
    (q : ∀ h' x, (∀ c o, c ≠ z → c ≠ TO → c ≠ i1 → c ≠ i2 → s.heap.get? c = some o → h'.get? c = some o) → (∃ o, h'.get? x = some o ∧ o.cls = .type "StopIteration") → E (.ref x) { s with heap := h' }) :
    wpAny (model prog w) A (Builtin.«zip.__next__» ⟨[.ref z], []⟩) Q E s := by
  show wpAny _ _ (field (.ref z) 2 >>= _) _ _ _
  refine wpAny_bind (wpAny_field hZ rfl (x := .bool b) rfl ?_)
  show wpAny _ _ (field (.ref z) 3 >>= _) _ _ _
  refine wpAny_bind (wpAny_field hZ rfl (x := .ref TI) rfl ?_)
  refine wpAny_bind (wpAny_seqItems hI rfl ?_)
  show wpAny _ _ (Builtin.SmallTypes.ownedTupleIsFree (.ref z) >>= _) _ _ _
  refine wpAny_bind ?_
  unfold Builtin.SmallTypes.ownedTupleIsFree
  refine wpAny_bind (wpAny_field hZ rfl (x := .none) rfl (wpAny_pure ?_))
  simp only [if_true]
  refine wpAny_bind (wpAny_rule ?_)
  refine wpAny_bind (wpAny_field hZ rfl (x := .ref TO) rfl ?_)
  refine wpAny_bind (wpAny_setField_rec hZ (by simp) fun g1 z1 e1 => ?_)
  replace z1 : HZ b g1 z TI TO .ellipsis := z1
  refine wpAny_bind ?_
  simp only [List.zipIdx_cons, List.zipIdx_nil, List.forIn_cons, List.forIn_nil]
  refine wpAny_bind (wpAny_bind (wpAny_onRaise ?_))
  have eb : (Value.bool b == Value.bool true) = b := by cases b <;> rfl
  rw [eb]
  show wpAny _ _ (if b = true then Builtin.SmallTypes.nextOrEnd (.ref i1) else do return some (← Builtin.SmallTypes.nextOf (.ref i1))) _ _ _
  have p1 := a1.ext e1.extBut D.i1z
  have r1 := c1.ext e1.extBut D.l1z
  cases b with
  | true =>
    rw [if_pos rfl]
    obtain ⟨h1, h2⟩ := hb rfl
    refine orEnd_end hh p1 r1 h1 fun g2 e2 => ?_
    have z2 : HZ true g2 z TI TO .ellipsis := e2 _ _ D.i1z.symm z1
    refine wpAny_bind (wpAny_setField_rec z2 (by simp) fun g3 z3 e3 => ?_)
    have p2 : SI k2 g3 i2 l2 n2 := ((a2.ext e1.extBut D.i2z).ext e2 D.i12.symm).ext e3.extBut D.i2z
    have r2 : SL k2 g3 l2 ys := ((c2.ext e1.extBut D.l2z).ext e2 D.l2i1).ext e3.extBut D.l2z
    refine wpAny_bind ?_
    show wpAny _ _ (forIn _ _ _ >>= _) _ _ _
    simp only [List.drop_succ_cons, List.drop_zero, List.zipIdx_cons, List.zipIdx_nil, List.forIn_cons, List.forIn_nil]
    refine wpAny_bind (wpAny_bind (wpAny_bind (orEnd_end hh p2 r2 h2 fun g4 e4 => ?_)))
    refine wpAny_pure (wpAny_pure ?_)
    refine wpAny_bind (wpAny_rule (stop_out hh fun g5 x k5 hx => ?_))
    refine q g5 x (fun c o d1 _ d3 d4 t => k5 c o (e4 _ _ d4 (e3.extBut _ _ d1 (e2 _ _ d3 (e1.extBut _ _ d1 t))))) hx
  | false =>
    rw [if_neg (by simp)]
    refine wpAny_bind ?_
    cases h1 : xs[n1]? with
    | none =>
      refine next_end hh p1 r1 h1 fun g2 x e2 ⟨o, ho, hc⟩ => ?_
      have z2 : HZ false g2 z TI TO .ellipsis := e2 _ _ D.i1z.symm z1
      have xz : x ≠ z := fun t => by rw [t, z2] at ho; cases ho; simp at hc
      exact wpAny_setField_rec z2 (by simp) fun g3 _ e3 => q g3 x (fun c o d1 _ d3 _ t => e3.extBut _ _ d1 (e2 _ _ d3 (e1.extBut _ _ d1 t))) ⟨o, e3.extBut _ _ xz ho, hc⟩
    | some x =>
      have h2 : ys[n2]? = none := by rcases he with h | h; rw [h1] at h; cases h; exact h
      refine next_item p1 r1 h1 fun g2 b1 e2 => wpAny_pure ?_
      have o2 : IsPair g2 TO u v := e2.extBut _ _ D.TOi1 (e1.extBut _ _ D.TOz hO)
      refine wpAny_bind (wpAny_seqItems o2 rfl ?_)
      refine wpAny_bind (wpAny_updateSeq_pair o2 fun g3 o3 e3 => ?_)
      refine wpAny_bind (wpAny_letGo (wpAny_pure ?_))
      refine wpAny_bind (wpAny_bind (wpAny_onRaise ?_))
      show wpAny _ _ (Builtin.SmallTypes.nextOf (.ref i2) >>= _) _ _ _
      refine wpAny_bind (next_end hh (((a2.ext e1.extBut D.i2z).ext e2.extBut D.i12.symm).ext e3.extBut D.TOi2.symm) (((c2.ext e1.extBut D.l2z).ext e2.extBut D.l2i1).ext e3.extBut D.l2TO) h2 fun g4 x e4 ⟨o, ho, hc⟩ => ?_)
      have z4 : HZ false g4 z TI TO .ellipsis := e4 _ _ D.i2z.symm (e3.extBut _ _ D.TOz.symm (e2.extBut _ _ D.i1z.symm z1))
      have xz : x ≠ z := fun t => by rw [t, z4] at ho; cases ho; simp at hc
      exact wpAny_setField_rec z4 (by simp) fun g5 _ e5 => q g5 x (fun c o d1 d2 d3 d4 t => e5.extBut _ _ d1 (e4 _ _ d4 (e3.extBut _ _ d2 (e2.extBut _ _ d3 (e1.extBut _ _ d1 t))))) ⟨o, e5.extBut _ _ xz ho, hc⟩
end

section
variable {prog : Program} {w : World} {A : Around} {E : Value → Shared → Prop} {s : Shared}
theorem pn_item {b k1 k2 : Bool} {z TI TO i1 i2 l1 l2 : Addr} {n1 n2 : Nat} {xs ys : Array Value} {x y u v : Value} {Q : Option Value → Shared → Prop} (D : ZipApart z TI TO i1 i2 l1 l2)
    (hZ : HZ b s.heap z TI TO .none) (hI : IsPair s.heap TI (.ref i1) (.ref i2)) (hO : IsPair s.heap TO u v)
    (a1 : SI k1 s.heap i1 l1 n1) (a2 : SI k2 s.heap i2 l2 n2) (c1 : SL k1 s.heap l1 xs) (c2 : SL k2 s.heap l2 ys) (ex : xs[n1]? = some x) (ey : ys[n2]? = some y)
    (q : ∀ h', HZ b h' z TI TO (rawInt s.heap.objs.size) → IsPair h' TO x y → SI k1 h' i1 l1 (n1 + 1) → SI k2 h' i2 l2 (n2 + 1) → IsPair h' s.heap.objs.size x y → h'.objs.size = s.heap.objs.size + 1 →
      (∀ c o, c ≠ z → c ≠ TO → c ≠ i1 → c ≠ i2 → s.heap.get? c = some o → h'.get? c = some o) → Q (some (.ref s.heap.objs.size)) { s with heap := h' }) :
    wpAny (model prog w) A (pyNext (.ref z)) Q E s := by
  have ty : s.TypeIs (.ref z) "zip" := ⟨_, hZ, rfl⟩
  unfold pyNext
  exact wpAny_bind (wpAny_attempt (wpAny_callSpecial?_slot (name := Str.ofString "__next__") ty F.slot_zip_next
    (wpAny_call_entry F.slot_zip_next ty F.entry_zip_next (zz_item D hZ hI hO a1 a2 c1 c2 ex ey fun h' q1 q2 q3 q4 q5 q6 q7 => wpAny_pure (q h' q1 q2 q3 q4 q5 q6 q7)) (F.args_zip_next_1 _))))
theorem pn_end {b k1 k2 : Bool} {z TI TO i1 i2 l1 l2 : Addr} {n1 n2 : Nat} {xs ys : Array Value} {u v : Value} {Q : Option Value → Shared → Prop} (hh : A.handled = none) (D : ZipApart z TI TO i1 i2 l1 l2)
    (hZ : HZ b s.heap z TI TO .none) (hI : IsPair s.heap TI (.ref i1) (.ref i2)) (hO : IsPair s.heap TO u v)
    (a1 : SI k1 s.heap i1 l1 n1) (a2 : SI k2 s.heap i2 l2 n2) (c1 : SL k1 s.heap l1 xs) (c2 : SL k2 s.heap l2 ys) (he : xs[n1]? = none ∨ ys[n2]? = none) (hb : b = true → xs[n1]? = none ∧ ys[n2]? = none)
    (q : ∀ h', (∀ c o, c ≠ z → c ≠ TO → c ≠ i1 → c ≠ i2 → s.heap.get? c = some o → h'.get? c = some o) → Q none { s with heap := h' }) : wpAny (model prog w) A (pyNext (.ref z)) Q E s := by
  have ty : s.TypeIs (.ref z) "zip" := ⟨_, hZ, rfl⟩
  unfold pyNext
  refine wpAny_bind (wpAny_attempt (wpAny_callSpecial?_slot (name := Str.ofString "__next__") ty F.slot_zip_next
    (wpAny_call_entry F.slot_zip_next ty F.entry_zip_next (zz_end hh D hZ hI hO a1 a2 c1 c2 he hb fun h' x kp hx => ?_) (F.args_zip_next_1 _))))
  obtain ⟨o, ho, hc⟩ := hx
  exact wpAny_bind (wpAny_isInstance (T := "StopIteration") (b := true) ⟨o, ho, hc⟩ isSubtype_stop (wpAny_pure (q _ kp)))
theorem let_go {b : Bool} {elts : List Expr} {x1} {pos : Pos} {z TI TO T : Addr} {Q : Unit → Shared → Prop} (hZ : HZ b s.heap z TI TO (rawInt T))
    (q : ∀ h', HZ b h' z TI TO .none → Heap.SameBut z s.heap h' → Q () { s with heap := h' }) :
    wpAny (model prog w) A (letOwnedTupleGo (.Tuple elts x1 pos) (.ref z) (.ref T)) Q E s := by
  unfold letOwnedTupleGo
  refine wpAny_bind (wpAny_load hZ ?_)
  show wpAny _ _ (if (["enumerate", "zip", "dict_itemiterator", "dict_reverseitemiterator", "odict_iterator", "itertools.zip_longest", "itertools.pairwise"].contains "zip" && (#[rawInt T, .bool false, .bool b, .ref TI, .ref TO] : Array Value)[0]? == some (rawInt T)) = true then _ else _) Q E s
  rw [if_pos (by simp)]
  refine wpAny_bind (wpAny_rule ?_)
  show wpAny _ _ (setField (.ref z) 0 .none) Q E s
  exact wpAny_setField_rec hZ (by simp) fun h' q1 q2 => q h' q1 q2
theorem py_iter {b : Bool} {z TI TO : Addr} {f0 : Value} {Q : Value → Shared → Prop} (hZ : HZ b s.heap z TI TO f0) (q : Q (.ref z) s) : wpAny (model prog w) A (pyIter (.ref z)) Q E s := by
  have ty : s.TypeIs (.ref z) "zip" := ⟨_, hZ, rfl⟩
  refine wpAny_pyIter_slot ty F.slot_zip_iter (wpAny_call_entry F.slot_zip_iter ty F.entry_zip_iter ?_ (F.args_zip_iter_1 _))
  show wpAny _ _ (ret (.ref z)) _ _ s
  exact wpAny_pure ⟨_, rfl, "zip", _, ty, F.slot_zip_next.lookup, q⟩
end
def iterO (k : Bool) (l : Addr) : Obj := { cls := .type (if k then "tuple_iterator" else "list_iterator"), data := .fields #[.ref l, .int 0 0] }
theorem py_iterS {prog : Program} {w : World} {A : Around} {E : Value → Shared → Prop} {s : Shared} {k : Bool} {l : Addr} {xs : Array Value} {Q : Value → Shared → Prop} (c : SL k s.heap l xs) (q : Q (.ref s.heap.objs.size) { s with heap := s.heap.push (iterO k l) }) :
    wpAny (model prog w) A (pyIter (.ref l)) Q E s := by
  cases k
  · exact wpAny_pyIter_list c q
  · exact wpAny_pyIter_tuple c q
theorem SL.push {k : Bool} {h : Heap} {l : Addr} {xs : Array Value} (a : SL k h l xs) (o : Obj) : SL k (h.push o) l xs := by
  cases k
  · exact Heap.IsList.push a o
  · exact Heap.IsTuple.push a o
theorem SI.of {k : Bool} {h : Heap} {it l : Addr} (e : h.get? it = some (iterO k l)) : SI k h it l 0 := by
  cases k
  · exact ⟨_, e, rfl, rfl⟩
  · exact ⟨_, e, rfl, rfl⟩
abbrev zh1 (h : Heap) (k1 : Bool) (l1 : Addr) : Heap := h.push (iterO k1 l1)
abbrev zh2 (h : Heap) (k1 k2 : Bool) (l1 l2 : Addr) : Heap := (zh1 h k1 l1).push (iterO k2 l2)
abbrev zh3 (h : Heap) (k1 k2 : Bool) (l1 l2 : Addr) : Heap := (zh2 h k1 k2 l1 l2).push { cls := .type "tuple", data := .seq #[.ref h.objs.size, .ref (zh1 h k1 l1).objs.size] }
abbrev zh4 (h : Heap) (k1 k2 : Bool) (l1 l2 : Addr) : Heap := (zh3 h k1 k2 l1 l2).push { cls := .type "tuple", data := .seq #[.none, .none] }
abbrev zh5 (h : Heap) (b k1 k2 : Bool) (l1 l2 : Addr) : Heap := (zh4 h k1 k2 l1 l2).push { cls := .type "zip", data := .fields #[.none, .bool false, .bool b, .ref (zh2 h k1 k2 l1 l2).objs.size, .ref (zh3 h k1 k2 l1 l2).objs.size] }
def kwOf : Bool → List (Str × Value)
  | false => []
  | true => [(Str.ofString "strict", .bool true)]
theorem meets_new (b k1 k2 : Bool) (l1 l2 : Addr) (xs ys : Array Value) :
    Meets (Builtin.«zip.__new__» ⟨[.type "zip", .ref l1, .ref l2], kwOf b⟩) (fun _ R s => SL k1 s.heap l1 xs ∧ SL k2 s.heap l2 ys ∧
      R (.ok (.ret (.ref (zh4 s.heap k1 k2 l1 l2).objs.size))) { s with heap := zh5 s.heap b k1 k2 l1 l2 }) :=
  .of_wp fun prog w A R s h => by
    obtain ⟨hp, g, d, tk, os⟩ := s; obtain ⟨c1, c2, h⟩ := h
    have hsub := sub_zip
    have r1 : SL k1 (Shared.heap ⟨hp, g, d, tk, os⟩) l1 xs := c1
    have r2 : SL k2 (Shared.heap ⟨hp.push (iterO k1 l1), g, d, tk, os⟩) l2 ys := SL.push c2 _
    cases b with
    | false =>
      unfold kwOf
      wp_walk using py_iterS r1, py_iterS r2
      exact ⟨_, rfl, h⟩
    | true =>
      unfold kwOf
      have e1 : (Str.ofString "strict" != ("strict" : Str)) = false := by decide +kernel
      wp_walk using py_iterS r1, py_iterS r2
      exact ⟨_, rfl, h⟩
end Ev.Z

namespace Ev.Z
open PySem PySem.Spec PyProof.Rows L2 RZ
theorem typeCall_strict (a b v : Value) : checkTypeCall "zip" ⟨[a, b], [(Str.ofString "strict", v)]⟩ = pure () := by kernel_rfl
theorem newCall_strict (a b v : Value) : checkBuiltinCall "zip.__new__" ⟨[.type "zip", a, b], [(Str.ofString "strict", v)]⟩ = pure () := by kernel_rfl
theorem args_strict (o a b v : Value) : argsOk "object.__init__" ⟨[o, a, b], [(Str.ofString "strict", v)]⟩ := by unfold argsOk; kernel_rfl
section
variable {prog : Program} {w : World} {A : Around} {E : Value → Shared → Prop} {s : Shared}
theorem call_zz {b k1 k2 : Bool} {l1 l2 : Addr} {xs ys : Array Value} {Q : Value → Shared → Prop} (c1 : SL k1 s.heap l1 xs) (c2 : SL k2 s.heap l2 ys)
    (h : ∀ h', HZ b h' (s.heap.objs.size + 4) (s.heap.objs.size + 2) (s.heap.objs.size + 3) .none → IsPair h' (s.heap.objs.size + 2) (.ref s.heap.objs.size) (.ref (s.heap.objs.size + 1)) →
      IsPair h' (s.heap.objs.size + 3) .none .none → SI k1 h' s.heap.objs.size l1 0 → SI k2 h' (s.heap.objs.size + 1) l2 0 → h'.objs.size = s.heap.objs.size + 5 →
      (∀ c o, s.heap.get? c = some o → h'.get? c = some o) → Q (.ref (s.heap.objs.size + 4)) { s with heap := h' }) :
    wpAny (model prog w) A (call (.type "zip") [.ref l1, .ref l2] (kwOf b)) Q E s := by
  have fin : (fun (_ : Around) (R : Result → Shared → Prop) (s : Shared) => SL k1 s.heap l1 xs ∧ SL k2 s.heap l2 ys ∧ R (.ok (.ret (.ref (zh4 s.heap k1 k2 l1 l2).objs.size))) { s with heap := zh5 s.heap b k1 k2 l1 l2 }) A.in1 (wants (fun obj s₁ => s₁.TypeIs obj "zip" ∧ Q obj s₁) E) s := by
    refine ⟨c1, c2, ?_⟩
    have t1 : (zh1 s.heap k1 l1).objs.size = s.heap.objs.size + 1 := Heap.size_push ..
    have t2 : (zh2 s.heap k1 k2 l1 l2).objs.size = s.heap.objs.size + 2 := by rw [Heap.size_push, t1]
    have t3 : (zh3 s.heap k1 k2 l1 l2).objs.size = s.heap.objs.size + 3 := by rw [Heap.size_push, t2]
    have t4 : (zh4 s.heap k1 k2 l1 l2).objs.size = s.heap.objs.size + 4 := by rw [Heap.size_push, t3]
    have t5 : (zh5 s.heap b k1 k2 l1 l2).objs.size = s.heap.objs.size + 5 := by rw [Heap.size_push, t4]
    have f5 : (zh5 s.heap b k1 k2 l1 l2).get? (zh4 s.heap k1 k2 l1 l2).objs.size = some _ := Heap.get?_push_size _ rfl
    have f4 : (zh5 s.heap b k1 k2 l1 l2).get? (zh3 s.heap k1 k2 l1 l2).objs.size = some _ := Heap.get?_push_of_some _ (Heap.get?_push_size _ rfl)
    have f3 : (zh5 s.heap b k1 k2 l1 l2).get? (zh2 s.heap k1 k2 l1 l2).objs.size = some _ := Heap.get?_push_of_some _ (Heap.get?_push_of_some _ (Heap.get?_push_size _ rfl))
    have f2 : (zh5 s.heap b k1 k2 l1 l2).get? (zh1 s.heap k1 l1).objs.size = some (iterO k2 l2) := Heap.get?_push_of_some _ (Heap.get?_push_of_some _ (Heap.get?_push_of_some _ (Heap.get?_push_size _ (by cases k2 <;> rfl))))
    have f1 : (zh5 s.heap b k1 k2 l1 l2).get? s.heap.objs.size = some (iterO k1 l1) := Heap.get?_push_of_some _ (Heap.get?_push_of_some _ (Heap.get?_push_of_some _ (Heap.get?_push_of_some _ (Heap.get?_push_size _ (by cases k1 <;> rfl)))))
    show _ ∧ _
    rw [t2, t3, t4] at f5
    rw [t1, t2] at f3
    rw [t3] at f4
    rw [t1] at f2
    rw [t4]
    exact ⟨⟨_, f5, rfl⟩, h _ f5 f3 f4 (.of f1) (.of f2) t5 fun c o x => Heap.get?_push_of_some _ (Heap.get?_push_of_some _ (Heap.get?_push_of_some _ (Heap.get?_push_of_some _ (Heap.get?_push_of_some _ x))))⟩
  cases b with
  | false => exact callType_new F.called_zip (by decide) (F.typeCall_zip_2 _ _) (F.newCall_zip_2 _ _) (fun obj => F.args_object_init_3 obj _ _) F.entry_zip_new (meets_new false k1 k2 l1 l2 xs ys) fin
  | true => exact callType_newKw F.called_zip (by decide) (typeCall_strict _ _ _) (newCall_strict _ _ _) (fun obj => args_strict obj _ _ _) F.entry_zip_new (meets_new true k1 k2 l1 l2 xs ys) fin
end
def SqK (k : Bool) (K : PySem.W.Frag) (H : Hp) (a : Addr) (xs : List V) : Prop := match k with
  | false => SqL K H a xs
  | true => SqT K H a xs
section
variable {X : Cx} {pins : List (Addr × Obj)} {σ : L2.St} {H : Hp} {s : Shared}
theorem SqK.raw {k : Bool} {a : Addr} {xs : List V} (I : Inv X pins σ H s) (h : SqK k X.K H a xs) : ∃ its : List Value, Vals xs its ∧ SL k s.heap a its.toArray ∧ a < s.heap.objs.size := by
  cases k
  · obtain ⟨its, rv, p, _⟩ := I.list h
    exact ⟨its, rv, p.isList, p.lt⟩
  · obtain ⟨its, rv, p, _⟩ := I.tuple h
    obtain ⟨o, ho, _⟩ := id p
    exact ⟨its, rv, p, Heap.lt_size ho⟩
theorem SqK.inj {k : Bool} {a : Addr} {xs ys : List V} (I : Inv X pins σ H s) (h : SqK k X.K H a xs) (h' : SqK k X.K H a ys) : xs = ys := by
  cases k
  · exact I.list_inj h h'
  · exact I.tuple_inj h h'
end
def ItzS (b k1 k2 : Bool) (K : PySem.W.Frag) (a c : Addr) : It :=
  ⟨fun i H => ∃ (xs ys : List V) (x y : V), SqK k1 K H a xs ∧ SqK k2 K H c ys ∧ xs[i]? = some x ∧ ys[i]? = some y,
    fun i H v H' => ∃ T x y, v = .ref T ∧ H T = none ∧ H' = upd H T (.tup [x, y]) ∧ (∀ xs, SqK k1 K H a xs → xs[i]? = some x) ∧ ∀ ys, SqK k2 K H c ys → ys[i]? = some y,
    fun i H => ∃ xs ys : List V, SqK k1 K H a xs ∧ SqK k2 K H c ys ∧ (xs.length ≤ i ∨ ys.length ≤ i) ∧ (b = true → xs.length ≤ i ∧ ys.length ≤ i)⟩
theorem turn_zz {P : Program} {w : World} {K : PySem.W.Frag} {elts : List Expr} {kk : Nat} {tpos : Pos} {b k1 k2 : Bool} {a c z TI TO i1 i2 : Addr} (D : ZipApart z TI TO i1 i2 a c) :
    Turn P w K (.Tuple elts kk tpos) (ItzS b k1 k2 K a c) [z, TI, TO, i1, i2] z (fun i h => HZ b h z TI TO .none ∧ IsPair h TI (.ref i1) (.ref i2) ∧ (∃ x y, IsPair h TO x y) ∧ SI k1 h i1 a i ∧ SI k2 h i2 c i) where
  mem := by simp
  obj := fun i h st d hd => by
    obtain ⟨hZ, hI, ⟨x, y, hO⟩, a1, a2⟩ := st
    obtain ⟨o1, v1, e1, d1⟩ := a1.ob
    obtain ⟨o2, v2, e2, d2⟩ := a2.ob
    have e' : d = z ∨ d = TI ∨ d = TO ∨ d = i1 ∨ d = i2 := by simpa using hd
    rcases e' with t | t | t | t | t
    · rw [t]; exact ⟨_, hZ, fun v q => nomatch q⟩
    · rw [t]; exact ⟨_, hI, fun v q => nomatch q⟩
    · rw [t]; exact ⟨_, hO, fun v q => nomatch q⟩
    · rw [t]; exact ⟨o1, e1, fun v q => by rw [d1] at q; cases q⟩
    · rw [t]; exact ⟨o2, e2, fun v q => by rw [d2] at q; cases q⟩
  keep := fun i h h' st k => by
    obtain ⟨hZ, hI, ⟨x, y, hO⟩, a1, a2⟩ := st
    exact ⟨k z (by simp) _ hZ, k TI (by simp) _ hI, ⟨x, y, k TO (by simp) _ hO⟩, a1.at fun o q => k i1 (by simp) o q, a2.at fun o q => k i2 (by simp) o q⟩
  item := by
    intro X hP hw hK hc i pins s σ H E I hf st hg
    subst hP hw hK
    obtain ⟨hZ, hI, ⟨x0, y0, hO⟩, a1, a2⟩ := st
    obtain ⟨xs, ys, x, y, sx, sy, hx, hy⟩ := hg
    obtain ⟨its, rv, p, _⟩ := sx.raw I
    obtain ⟨its2, rv2, p2, _⟩ := sy.raw I
    obtain ⟨u, hu, ru⟩ := rv.get hx
    obtain ⟨u2, hu2, ru2⟩ := rv2.get hy
    have zl : z < s.heap.objs.size := Heap.lt_size hZ
    refine pn_item D hZ hI hO a1 a2 p p2 (x := u) (y := u2) (by simpa using hu) (by simpa using hu2) fun h' z' TO' a1' a2' hT hsz hk => ?_
    refine ⟨_, rfl, let_go (s := { s with heap := h' }) z' fun h'' z'' sb => ?_⟩
    have hT2 : h''.get? s.heap.objs.size = some { cls := .type "tuple", data := .seq #[u, u2] } := (sb.2 _ (Nat.ne_of_gt zl)).trans hT
    have new : ObjOk X.prog X.w (upd H s.heap.objs.size (.tup [x, y])) h'' s.heap.objs.size (.tup [x, y]) := ⟨by show 2 ≤ sizeLine; decide, [u, u2], .cons ru (.cons ru2 .nil), ⟨_, hT2, rfl, _, rfl⟩⟩
    have J : Inv X pins σ (upd H s.heap.objs.size (.tup [x, y])) { s with heap := h'' } :=
      I.turnedNew (t' := s.toks) (ch := [z, TI, TO, i1, i2]) (fun d o hb q => (sb.2 d (fun q' => hb (by simp [q']))).trans (hk d o (fun q' => hb (by simp [q'])) (fun q' => hb (by simp [q'])) (fun q' => hb (by simp [q'])) (fun q' => hb (by simp [q'])) q)) hf (Nat.le_refl _) new
    refine ⟨.ref s.heap.objs.size, _, J, rfl, ⟨_, x, y, rfl, I.hok.fresh (Nat.le_refl _), rfl, fun l hl => by rw [hl.inj I sx]; exact hx, fun l hl => by rw [hl.inj I sy]; exact hy⟩, ⟨z'', ?_, ⟨u, u2, ?_⟩, ?_, ?_⟩, fun d hd => ?_⟩
    · exact (sb.2 _ D.TIz).trans (hk _ _ D.TIz D.TITO D.TIi1 D.TIi2 hI)
    · exact (sb.2 _ D.TOz).trans TO'
    · exact a1'.at fun o q => (sb.2 _ D.i1z).trans q
    · exact a2'.at fun o q => (sb.2 _ D.i2z).trans q
    · have lt : d < s.heap.objs.size := by
        obtain ⟨o1, v1, e1, _⟩ := a1.ob
        obtain ⟨o2, v2, e2, _⟩ := a2.ob
        have e' : d = z ∨ d = TI ∨ d = TO ∨ d = i1 ∨ d = i2 := by simpa using hd
        rcases e' with t | t | t | t | t
        · rw [t]; exact zl
        · rw [t]; exact Heap.lt_size hI
        · rw [t]; exact Heap.lt_size hO
        · rw [t]; exact Heap.lt_size e1
        · rw [t]; exact Heap.lt_size e2
      rw [upd_ne (Nat.ne_of_lt lt)]
      exact (hf d hd).1
  done := by
    intro X hP hw hK hc i pins s σ H E I hf st hg
    subst hP hw hK
    obtain ⟨hZ, hI, ⟨x0, y0, hO⟩, a1, a2⟩ := st
    obtain ⟨xs, ys, sx, sy, hend, hb⟩ := hg
    obtain ⟨its, rv, p, _⟩ := sx.raw I
    obtain ⟨its2, rv2, p2, _⟩ := sy.raw I
    have l1 := rv.length
    have l2 := rv2.length
    have n1 : xs.length ≤ i → its.toArray[i]? = none := fun q => by simp; omega
    have n2 : ys.length ≤ i → its2.toArray[i]? = none := fun q => by simp; omega
    exact pn_end (I.ok.hd hc) D hZ hI hO a1 a2 p p2 (hend.imp n1 n2) (fun q => ⟨n1 (hb q).1, n2 (hb q).2⟩) fun h' hk => ⟨rfl, I.turnedL (t' := s.toks) (ch := [z, TI, TO, i1, i2]) (fun d o hb q =>
      hk d o (fun q' => hb (by simp [q'])) (fun q' => hb (by simp [q'])) (fun q' => hb (by simp [q'])) (fun q' => hb (by simp [q'])) q) hf⟩
  self := fun A i s Q E st h => py_iter st.1 h
end Ev.Z

namespace Ev.Z
open PySem PySem.Spec PyProof.Rows L2 RZ
def isKws : Bool → List Keyword → Bool
  | false, [] => true
  | true, [⟨some x, .Constant (.bool true) _ _, _⟩] => decide (x = ("strict" : Str))
  | _, _ => false
def iZz (b : Bool) (K : PySem.W.Frag) (ta : TA) : TI := fun σ H R => ta σ H fun vs H1 => ∃ (k1 k2 : Bool) (a c : Addr) (xs ys : List V), vs = [.ref a, .ref c] ∧ SqK k1 K H1 a xs ∧ SqK k2 K H1 c ys ∧ R (ItzS b k1 k2 K a c) H1
theorem pi_zz {X : Cx} {e e2 : Expr} {ta : TA} {p pos tpos : Pos} {elts : List Expr} {kk : Nat} {b : Bool} {kws : List Keyword} (hk : isKws b kws = true) (hg : Gl X "zip") (hm : X.mg "zip" = none) (ha : PA X [e, e2] ta)
    (hs : starEach [e, e2] X.env = (false, eval e X.env) :: starEach [e2] X.env) (hpl : (backTo pos (starEach [e, e2] X.env)).any (·.1) = false) :
    PI X (.Tuple elts kk tpos) (.Call (.Name "zip" p) [e, e2] kws pos) (iZz b X.K ta) := by
  refine ⟨fun pins s σ H R I h => ?_⟩
  refine wpAny_Call_Name_kw (ld_blt I hg hm PyProof.Rows.boot_zip ?_)
  have all1 : (backToKw pos (keywordEach kws X.env)).all (·.1.isSome) = true := by
    unfold isKws at hk
    split at hk
    · rfl
    · rfl
    · cases hk
  have pl : ((backTo pos (starEach [e, e2] X.env)).any (·.1) || (backToKw pos (keywordEach kws X.env)).any (·.1.isNone)) = false := by
    rw [hpl, Bool.false_or]
    unfold isKws at hk
    split at hk
    · rfl
    · rfl
    · cases hk
  have kwv : ∀ {E : Value → Shared → Prop} {Q : List Value → Shared → Prop} (s1 : Shared), (∀ ks, ((backToKw pos (keywordEach kws X.env)).filterMap (·.1)).zip ks = kwOf b → Q ks s1) → wpAny (model X.prog X.w) X.A (evalAll ((backToKw pos (keywordEach kws X.env)).map (·.2))) Q E s1 := by
    intro E Q s1 q
    unfold isKws at hk
    split at hk
    · exact wpAny_evalAll_nil (q [] rfl)
    · rename_i x kt pt pk
      have ex := of_decide_eq_true hk
      subst ex
      show wpAny _ _ (evalAll ((do let v ← eval (.Constant (.bool true) kt pt) X.env; standAt pos; pure v) :: [])) _ _ s1
      refine wpAny_evalAll_cons (wpAny_bind (wpAny_of_eq (a := Value.bool true) (by rfl) (wpAny_bind (wpAny_standAt (wpAny_pure (wpAny_evalAll_nil ?_))))))
      exact q [.bool true] rfl
    · cases hk
  refine PySem.W.callWith_of (P := fun _ => True) pl (fun h _ => ⟨.machine, .inr (.inl rfl), PySem.W.Looks.of_pure rfl⟩) (evalArgs_kw2 all1 (thn (ha.run pos pins s σ H _ I h) fun us s1 ⟨vs, H1, I1, r1, q1⟩ => kwv s1 fun ks ek => ⟨trivial, ?_⟩) hs)
  rw [ek]
  obtain ⟨k1, k2, a, c, xs, ys, ex, sx, sy, q⟩ := q1
  subst ex
  obtain ⟨u1, us, rfl, ra, rr⟩ : ∃ u us', us = u :: us' ∧ RelV (.ref a) u ∧ Vals [.ref c] us' := by
    cases r1 with
    | cons r rr => exact ⟨_, _, rfl, r, rr⟩
  obtain ⟨u2, us2, rfl, rc, rr2⟩ : ∃ u us', us = u :: us' ∧ RelV (.ref c) u ∧ Vals [] us' := by
    cases rr with
    | cons r rr => exact ⟨_, _, rfl, r, rr⟩
  cases rr2
  obtain rfl : u1 = Value.ref a := ra
  obtain rfl : u2 = Value.ref c := rc
  obtain ⟨its, rv, p1, l1⟩ := sx.raw I1
  obtain ⟨its2, rv2, p2, l2⟩ := sy.raw I1
  have fresh5 : ∀ d, d ∈ [s1.heap.objs.size + 4, s1.heap.objs.size + 2, s1.heap.objs.size + 3, s1.heap.objs.size, s1.heap.objs.size + 1] → FpOk X pins H1 d := fun d hd => by
    have e' : d = s1.heap.objs.size + 4 ∨ d = s1.heap.objs.size + 2 ∨ d = s1.heap.objs.size + 3 ∨ d = s1.heap.objs.size ∨ d = s1.heap.objs.size + 1 := by simpa using hd
    have le : s1.heap.objs.size ≤ d := by omega
    exact I1.fpOk le (I1.hok.fresh le)
  refine call_zz p1 p2 fun h' hZ hI hO a1 a2 hsz hk' => py_iter hZ ?_
  have I2 : Inv X pins σ H1 { s1 with heap := h' } := I1.kept (t' := s1.toks) hk'
  exact ⟨s1.heap.objs.size + 4, [s1.heap.objs.size + 4, s1.heap.objs.size + 2, s1.heap.objs.size + 3, s1.heap.objs.size, s1.heap.objs.size + 1], _, _, H1, rfl, I2, turn_zz (PySem.W.ktu_apart s1.heap.objs.size a c l1 l2), ⟨hZ, hI, ⟨_, _, hO⟩, a1, a2⟩, fresh5, q⟩
end Ev.Z

namespace Ev
open PySem L2

structure SC where
  N : List Str
  names : List (Str × NameKind)
  fnl : Option (List (Str × NameKind))
  defs : List (Str × Nat)
  cons : List (Str × Nat)
  blts : List Str
  /-- fields by class -/
  flds : List (Str × Str) := []
  /-- makers by class -/
  mkrs : List (Str × Nat) := []
  /-- methods by class and name -/
  mths : List ((Str × Str) × Nat) := []
def scOf (names : List (Str × NameKind)) : Scope := { kind := .function, names := names, isGenerator := false, isCoroutine := false }
def SC.fnB (S : SC) (x : Str) : Bool := match S.fnl with
  | none => true
  | some l => l.lookup x == some .cell
def okName (x : Str) : Bool := !(x == ("__debug__" : Str)) && !(x == ("__classdict__" : Str)) && !decide (x = ("__name__" : Str))
def SC.vis (S : SC) (x : Str) : Bool := okName x && match S.names.lookup x with
  | some .local => true
  | some .cell => true
  | some .free => true
  | _ => false
def SC.loc (S : SC) (x : Str) : Bool := match S.names.lookup x with
  | some .local => true
  | some .cell => S.fnB x
  | _ => false
def SC.gl (S : SC) (x : Str) : Bool := okName x && match S.names.lookup x with
  | some .globalImplicit => true
  | _ => false
def SC.slot (S : SC) (i : Nat) (x : Str) : Bool := decide (S.N[i]? = some x)
def SC.blk (S : SC) (scope : Scope) : SC := { S with names := (relS scope (scOf S.names)).names, fnl := some scope.names }
def isSlice : Expr → Bool
  | .Slice .. => true
  | _ => false
def isStar : Expr → Bool
  | .Starred .. => true
  | _ => false
def isSetE : Expr → Bool
  | .Set .. => true
  | _ => false
def isComp : Expr → Bool
  | .ListComp .. => true
  | .SetComp .. => true
  | .DictComp .. => true
  | _ => false
def plainT : Expr → Bool
  | .UnaryOp .Not _ _ => false
  | .BoolOp .. => false
  | .IfExp .. => false
  | .Compare .. => false
  | _ => true
def bltName : Blt → Str × Bool × String
  | .len => ("len", false, "len")
  | .abs => ("abs", false, "abs")
  | .int => ("int", true, "int")
  | .list => ("list", true, "list")
  | .tuple => ("tuple", true, "tuple")
  | .sorted => ("sorted", false, "sorted")
  | .max1 => ("max", false, "max")
  | .min1 => ("min", false, "min")
  | .max2 => ("max", false, "max")
  | .min2 => ("min", false, "min")
  | .sum => ("sum", false, "sum")
  | .any => ("any", false, "any")
  | .all => ("all", false, "all")
  | .dict => ("dict", true, "dict")
  | .set => ("set", true, "set")
  | .str => ("str", true, "str")
  | .repr => ("repr", false, "repr")
  | .isi => ("isinstance", false, "isinstance")
def bltOk : Blt → Bool
  | .len | .abs | .int | .list | .tuple | .max2 | .min2 | .repr | .sorted | .sum | .dict | .isi | .any | .all | .max1 | .min1 => true
  | _ => false
def bmtName : Bmt → Str
  | .append => "append"
  | .extend => "extend"
  | .pop => "pop"
  | .get => "get"
  | .items => "items"
  | .values => "values"
  | .count => "count"
def bmtOk : Bmt → Bool
  | .append | .extend | .pop | .count => true
  | _ => false
@[reducible] def Nd : Kd → Type
  | .e => Expr
  | .t => Expr
  | .a => List Expr
  | .s => List Stmt
  | .g => Expr
  | .gs => List Expr
  | .i => Expr
def gSlots : {k : Kd} → T k → List Nat
  | _, .gnm i => [i]
  | _, .gtup gs => gSlots gs
  | _, .gnil => []
  | _, .gcons g gs => gSlots g ++ gSlots gs
  | _, _ => []
def isNon : T .e → Bool
  | .non => true
  | _ => false
def swapB (S : SC) (tg e : Expr) : Bool := match e, tg with
  | .ListComp _ _ sc p, .Name t q => S.names.lookup t == some .local && q.line == p.line && !(sc.names.any fun (n, k) => n == t && (k == .local || k == .cell))
  | .DictComp _ _ _ sc p, .Name t q => S.names.lookup t == some .local && q.line == p.line && !(sc.names.any fun (n, k) => n == t && (k == .local || k == .cell))
  | _, _ => false
def locName (S : SC) : Expr → Bool
  | .Name x _ => S.names.lookup x == some .local
  | _ => false
def plainAsg (S : SC) (tg e : Expr) : Bool :=
  !swapB S tg e && (match e with | .SetComp .. => false | _ => true) &&
  (match tg, e with
    | .Tuple ts _ _, .Tuple vs _ _ => !(ts.length == 2 || ts.length == 3) || vs.length != ts.length || (ts.any fun t => !locName S t) || vs.all (foldedForSure 8)
    | .List .., _ => false
    | _, _ => true)
def isLc : T .e → Bool
  | .lc .. => true
  | _ => false
def isGnm : T .g → Bool
  | .gnm _ => true
  | _ => false
def isLocal (S : SC) (x : Str) : Bool := match S.names.lookup x with
  | some .local => true
  | _ => false
theorem isLocal_ok {S : SC} {x : Str} (h : isLocal S x = true) : S.names.lookup x = some .local := by
  unfold isLocal at h
  split at h
  · assumption
  · cases h
def tgOk : T .i → Expr → Bool
  | .ienum _, .Tuple .. => true
  | .izip .., .Tuple .. => true
  | .idic 2 _, .Tuple .. => true
  | .idic 2 _, _ => false
  | .ienum _, _ => false
  | .izip .., _ => false
  | _, _ => true
def chk : {k : Kd} → SC → T k → Nd k → Bool
  | _, S, .var i, e => match e with
    | .Name x _ => S.slot i x && S.vis x
    | _ => false
  | _, _, .non, e => match e with
    | .Constant .none _ _ => true
    | _ => false
  | _, _, .bl b, e => match e with
    | .Constant (.bool c) _ _ => b == c
    | _ => false
  | _, _, .int i, e => match e with
    | .Constant (.int j) _ _ => decide (i = j)
    | _ => false
  | _, _, .str x, e => match e with
    | .Constant (.str y) _ _ => decide (x = y)
    | _ => false
  | _, S, .con g, e => match e with
    | .Name x _ => S.gl x && decide (S.cons.lookup x = some g)
    | _ => false
  | _, S, .tyn n, e => match e with
    | .Name x _ => S.gl x && decide (x ∈ S.blts) && tyOk n && decide (x = Str.ofString n)
    | _ => false
  | _, _, .dead, _ => true
  | _, S, .tup as, e => match e with
    | .Tuple es _ _ => chk S as es
    | _ => false
  | _, S, .lst as, e => match e with
    | .List es _ => chk S as es
    | _ => false
  | _, _, .dic0, e => match e with
    | .Dict [] [] _ => true
    | _ => false
  | _, S, .srtL a, e => match e with
    | .Call (.Name x _) [l] [⟨some k, .Name y _, _⟩] _ => S.gl x && decide (x = ("sorted" : Str)) && decide (x ∈ S.blts) && S.gl y && decide (y = ("len" : Str)) && decide (y ∈ S.blts) && decide (k = ("key" : Str)) && chk S a l && !isStar l
    | _ => false
  | _, S, .sset a, e => match e with
    | .Call (.Name x _) [.Call (.Name y _) [l] [] _] [] _ => S.gl x && decide (x = ("sorted" : Str)) && decide (x ∈ S.blts) && S.gl y && decide (y = ("set" : Str)) && decide (y ∈ S.blts) && chk S a l && !isStar l
    | _ => false
  | _, S, .lrng a b, e => match e with
    | .Call (.Name x _) [.Call (.Name y _) [l, r] [] _] [] _ => S.gl x && decide (x = ("list" : Str)) && decide (x ∈ S.blts) && S.gl y && decide (y = ("range" : Str)) && decide (y ∈ S.blts) && chk S a l && chk S b r && !isStar l && !isStar r
    | _ => false
  | _, S, .bin o a b, e => match e with
    | .BinOp l op r _ => decide (op = opOf o) && chk S a l && chk S b r
    | _ => false
  | _, S, .neg a, e => match e with
    | .UnaryOp .USub l _ => chk S a l
    | _ => false
  | _, S, .notv a, e => match e with
    | .UnaryOp .Not l _ => chk S a l
    | _ => false
  | _, S, .cmp o a b, e => match e with
    | .Compare l [op] [r] _ => decide (op = cmpOf o) && chk S a l && chk S b r && !isSetE r
    | _ => false
  | _, S, .chn o o' a b c, e => match e with
    | .Compare l [op, op'] [r, t] _ => decide (op = cmpOf o) && decide (op' = cmpOf o') && chk S a l && chk S b r && chk S c t && !isSetE t
    | _ => false
  | _, S, .andv a b, e => match e with
    | .BoolOp .And (x :: y :: []) _ => chk S a x && chk S b y
    | .BoolOp .And (x :: y :: z :: r) p => chk S a x && chk S b (.BoolOp .And (y :: z :: r) p)
    | _ => false
  | _, S, .orv a b, e => match e with
    | .BoolOp .Or (x :: y :: []) _ => chk S a x && chk S b y
    | .BoolOp .Or (x :: y :: z :: r) p => chk S a x && chk S b (.BoolOp .Or (y :: z :: r) p)
    | _ => false
  | _, S, .ife c a b, e => match e with
    | .IfExp t x y _ => chk S c t && chk S a x && chk S b y
    | _ => false
  | _, S, .idx a i, e => match e with
    | .Subscript x y _ => chk S a x && chk S i y && !isSlice y
    | _ => false
  | _, S, .slc fl fh a lo hi, e => match e with
    | .Subscript x (.Slice l u none _) _ => chk S a x && (match l, fl with | some l, true => chk S lo l | none, false => isNon lo | _, _ => false) && (match u, fh with | some u, true => chk S hi u | none, false => isNon hi | _, _ => false)
    | _ => false
  | _, S, .rev a, e => match e with
    | .Subscript x (.Slice none none (some (.UnaryOp .USub (.Constant (.int 1) _ _) _)) _) _ => chk S a x 
    | _ => false
  | _, S, .fld c a f, e => match e with
    | .Attribute x name _ => decide (name = f) && decide ((c, f) ∈ S.flds) && chk S a x && (match x with | .Call (.Name ..) [] [] _ => false | _ => true)
    | _ => false
  | _, S, .meth c m g o as, e => match e with
    | .Call (.Attribute x name ap) es [] cp => decide (name = m) && decide (S.mths.lookup (c, m) = some g) && chk S o x && chk S as es && decide (es.length < 20) && (ap.endLine == cp.line) && (match x with | .Call (.Name ..) [] [] _ => false | _ => true)
    | _ => false
  | _, _, .new _, _ => false
  | _, S, .call g as, e => match e with
    | .Call (.Name x _) es [] _ => S.gl x && (decide (S.defs.lookup x = some g) || (decide (S.mkrs.lookup x = some g) && !es.isEmpty)) && chk S as es
    | _ => false
  | _, S, .blt b as, e => match e with
    | .Call (.Name x _) (a :: es) [] _ => bltOk b && S.gl x && decide (x = (bltName b).1) && decide (x ∈ S.blts) && chk S as (a :: es)
    | _ => false
  | _, S, .bmt m o as, e => match e with
    | .Call (.Attribute x name ap) es [] cp => bmtOk m && decide (name = bmtName m) && chk S o x && chk S as es && decide (es.length ≤ 2) && (ap.endLine == cp.line) && (match x with | .Call (.Name ..) [] [] _ => false | _ => true)
    | _ => false
  | _, S, .dget o as, e => match e with
    | .Call (.Attribute x name ap) es [] cp => decide (name = ("get" : Str)) && chk S o x && chk S as es && decide (es.length ≤ 2) && decide (1 ≤ es.length) && (ap.endLine == cp.line) && (match x with | .Call (.Name ..) [] [] _ => false | _ => true)
    | _ => false
  | _, S, .lc own elt g i c, e => match e with
    | .ListComp el [⟨tg, it, ifs, 0⟩] scope _ =>
      blkC S.N (scOf S.names) scope (own.map fun j => (S.N.getD j ⟨#[]⟩, j)) && decide (∀ j ∈ gSlots g, j ∈ own) && (chk S i it && tgOk i tg) && !isSetE it && chk (S.blk scope) g tg && chk (S.blk scope) elt el &&
        (match ifs with
          | [] => (match c with | .ttrue => true | _ => false)
          | [t] => chk (S.blk scope) c t
          | _ => false)
    | _ => false
  | _, S, .dc own k v g i c, e => match e with
    | .DictComp kx vx [⟨tg, it, ifs, 0⟩] scope _ =>
      blkC S.N (scOf S.names) scope (own.map fun j => (S.N.getD j ⟨#[]⟩, j)) && decide (∀ j ∈ gSlots g, j ∈ own) && (chk S i it && tgOk i tg) && !isSetE it && chk (S.blk scope) g tg && (chk (S.blk scope) k kx && chk (S.blk scope) v vx) &&
        (match ifs with
          | [] => (match c with | .ttrue => true | _ => false)
          | [t] => chk (S.blk scope) c t
          | _ => false)
    | _ => false
  -- tests
  | _, S, .tcmp o a b, e => match e with
    | .Compare l [op] [r] _ => decide (op = cmpOf o) && chk S a l && chk S b r && !isSetE r
    | _ => false
  | _, S, .tchn o o' a b c, e => match e with
    | .Compare l [op, op'] [r, t] _ => decide (op = cmpOf o) && decide (op' = cmpOf o') && chk S a l && chk S b r && chk S c t && !isSetE t
    | _ => false
  | _, S, .tand a b, e => match e with
    | .BoolOp .And (x :: y :: []) _ => chk S a x && chk S b y
    | .BoolOp .And (x :: y :: z :: r) p => chk S a x && chk S b (.BoolOp .And (y :: z :: r) p)
    | _ => false
  | _, S, .tor a b, e => match e with
    | .BoolOp .Or (x :: y :: []) _ => chk S a x && chk S b y
    | .BoolOp .Or (x :: y :: z :: r) p => chk S a x && chk S b (.BoolOp .Or (y :: z :: r) p)
    | _ => false
  | _, S, .tnot a, e => match e with
    | .UnaryOp .Not l _ => chk S a l
    | _ => false
  | _, S, .tval a, e => plainT e && chk S a e
  | _, _, .ttrue, _ => false
  -- arguments
  | _, _, .nil, es => match es with
    | [] => true
    | _ => false
  | _, S, .cons a as, es => match es with
    | x :: r => chk S a x && chk S as r && !isStar x
    | _ => false
  -- targets
  | _, S, .gnm i, e => match e with
    | .Name x _ => S.slot i x && S.loc x
    | _ => false
  | _, S, .gtup gs, e => match e with
    | .Tuple es _ _ => chk S gs es
    | _ => false
  | _, _, .gnil, es => match es with
    | [] => true
    | _ => false
  | _, S, .gcons g gs, es => match es with
    | x :: r => chk S g x && chk S gs r && !isStar x
    | _ => false
  | _, S, .gsub o i, e => match e with
    | .Subscript x y _ => chk S o x && chk S i y && !isSlice y
    | _ => false
  | _, _, .gfld .., _ => false
  -- what is walked
  | _, S, .isq a, e => chk S a e && !isSetE e
  | _, S, .irng a, e => match e with
    | .Call (.Name x _) [l] [] _ => S.gl x && decide (x = ("range" : Str)) && decide (x ∈ S.blts) && chk S a l && !isStar l
    | _ => false
  | _, S, .irng2 a b, e => match e with
    | .Call (.Name x _) [l, r] [] _ => S.gl x && decide (x = ("range" : Str)) && decide (x ∈ S.blts) && chk S a l && chk S b r && !isStar l && !isStar r
    | _ => false
  | _, S, .ienum a, e => match e with
    | .Call (.Name x _) [l] [] _ => S.gl x && decide (x = ("enumerate" : Str)) && decide (x ∈ S.blts) && chk S a l && !isStar l
    | _ => false
  | _, S, .izip st a b, e => match e with
    | .Call (.Name x _) [l, r] kws _ => S.gl x && decide (x = ("zip" : Str)) && decide (x ∈ S.blts) && chk S a l && chk S b r && !isStar l && !isStar r && Z.isKws st kws
    | _ => false
  | _, S, .idic k a, e => match k with
    | 0 => chk S a e && !isSetE e
    | 1 => (match e with
      | .Call (.Attribute x name ap) [] [] cp => decide (name = ("values" : Str)) && chk S a x && (ap.endLine == cp.line) && (match x with | .Call (.Name ..) [] [] _ => false | _ => true)
      | _ => false)
    | 2 => (match e with
      | .Call (.Attribute x name ap) [] [] cp => decide (name = ("items" : Str)) && chk S a x && (ap.endLine == cp.line) && (match x with | .Call (.Name ..) [] [] _ => false | _ => true)
      | _ => false)
    | _ => false
  -- statements
  | _, _, .skip, ss => match ss with
    | [] => true
    | _ => false
  | _, S, .asg g a k, ss => match ss with
    | .Assign [tg] e p :: r => chk S g tg && chk S a e && chk S k r && (plainAsg S tg e || (swapB S tg e && isLc a && isGnm g))
    | _ => false
  | _, S, .par is as k, ss => match ss with
    | .Assign [.Tuple [.Name x px, .Name y py] _ _] (.Tuple [a, b] _ _) _ :: r => (match is with
      | [i, j] => S.slot i x && S.slot j y && decide (i ≠ j) && !decide (x = y) && (match S.names.lookup x with | some .local => true | _ => false) && (match S.names.lookup y with | some .local => true | _ => false) && (px.line == py.line) &&
          !(foldedForSure 8 a && foldedForSure 8 b) && !(constantsAlone 8 a && constantsAlone 8 b) && !isStar a && !isStar b && chk S as [a, b] && chk S k r
      | _ => false)
    | .Assign [.Tuple [.Name x px, .Name y py, .Name z pz] _ _] (.Tuple [a, b, c] _ _) _ :: r => (match is with
      | [i, j, l] => (S.slot i x && S.slot j y && S.slot l z) && (decide (i ≠ j) && decide (i ≠ l) && decide (j ≠ l)) && (decide (x ≠ y) && decide (x ≠ z) && decide (y ≠ z)) && (isLocal S x && isLocal S y && isLocal S z) && ((px.line == py.line) && (px.line == pz.line)) &&
          (!(foldedForSure 8 a && foldedForSure 8 b && foldedForSure 8 c) && !(constantsAlone 8 a && constantsAlone 8 b && constantsAlone 8 c)) && (!isStar a && !isStar b && !isStar c) && chk S as [a, b, c] && chk S k r
      | _ => false)
    | _ => false
  | _, S, .aug i o a k, ss => match ss with
    | .AugAssign (.Name x _) op e _ :: r => S.slot i x && S.loc x && decide (op = opOf o) && chk S a e && chk S k r
    | _ => false
  | _, S, .exp a k, ss => match ss with
    | .Expr e _ :: r => !isComp e && chk S a e && chk S k r
    | _ => false
  | _, S, .ret a, ss => match ss with
    | [.Return (some e) _] => chk S a e
    | _ => false
  | _, _, .retN, ss => match ss with
    | [.Return none _] => true
    | _ => false
  | _, S, .ifs c a b k, ss => match ss with
    | .If t x y _ :: r => chk S c t && chk S a x && chk S b y && chk S k r
    | _ => false
  | _, S, .for_ g i b k, ss => match ss with
    | .For tg it x [] _ :: r => chk S g tg && (chk S i it && tgOk i tg) && !isSetE it && chk S b x && chk S k r
    | _ => false
  | _, S, .whl c b k, ss => match ss with
    | .While t x [] _ :: r => chk S c t && chk S b x && chk S k r
    | _ => false
  | _, _, .brk, ss => match ss with
    | [.Break _] => true
    | _ => false
  | _, _, .cnt, ss => match ss with
    | [.Continue _] => true
    | _ => false
  | _, S, .pas k, ss => match ss with
    | .Pass _ :: r => chk S k r
    | _ => false
  | _, _, .deadS, _ => true
  | _, S, .setf c o f a k, ss => match ss with
    | .Assign [.Attribute x name _] e _ :: r => decide (name = f) && decide ((c, f) ∈ S.flds) && chk S o x && chk S a e && chk S k r && (match e with | .SetComp .. => false | _ => true)
    | _ => false
end Ev

namespace Ev
open PySem L2 PyProof.Rows
theorem eval_meth {o : Expr} {m : Str} {ap cp : Pos} {args : List Expr} {env : Env} (hbase : attributeBase o m env (eval o env) = eval o env)
    (hform : methodCallForm (args.length + 0) (backTo cp (starEach args env)) (backToKw cp (keywordEach [] env)) = true) (hline : (ap.endLine == cp.line) = true) :
    eval (.Call (.Attribute o m ap) args [] cp) env = (do
      let ov ← eval o env
      standAt ap.atName
      let fx ← holding [ov] (getMethod ov m (do return (← importBound o env).getD true))
      callWith cp fx.1 fx.2 (backTo cp (starEach args env)) (backToKw cp (keywordEach [] env))) := by
  rw [arm_eval_Call, hbase]
  have hpos : methodCallPos true o env ap cp = pure cp := by unfold methodCallPos; simp [hline]
  unfold methodCall
  rw [show args.length + ([] : List Keyword).length = args.length + 0 from rfl, hform, hpos]
  unfold calleeOf
  simp only [pure_bind, if_true]
section
variable {X : Cx} {CX : CXT} {k : Nat} {f C : Addr} {fd : FuncData} {ps : List Str} {sp : Sp} {E : XK} {x m : Str} {p ap cp : Pos} {o e : Expr} {es : List Expr} {ta : TE} {t : TA}
theorem pe_methG (ho : PE X o ta) (hC : Cls X.K C) (hM : Meth X.K C m f) (F : FnG X.prog X.w X.K X.mg X.base CX k f fd ps sp) (gd : X.A.guards = some []) (hr : Room k X.A) (hb : Binds X.K fd ps []) (hx : Passes CX X E) (ha : PA X (e :: es) t)
    (hstar : starEach (e :: es) X.env = (false, eval e X.env) :: starEach es X.env) (hplain : (backTo cp (starEach es X.env)).any (·.1) = false)
    (hbase : attributeBase o m X.env (eval o X.env) = eval o X.env) (hform : methodCallForm ((e :: es).length + 0) (backTo cp (starEach (e :: es) X.env)) (backToKw cp (keywordEach [] X.env)) = true) (hline : (ap.endLine == cp.line) = true) :
    PE X (.Call (.Attribute o m ap) (e :: es) [] cp) fun σ H Q => ta σ H fun y H1 => ∃ a dx fs, y = .ref a ∧ H1 a = some (.ins C dx fs) ∧ fs.lookup m = none ∧ t σ H1 fun vs H2 => sp (y :: vs) H2 Q E := by
  refine ⟨fun pins s σ H Q I h => ?_⟩
  refine PySem.W.methodCall_KW (pl := do return (← importBound o X.env).getD true) (thn (ho.run pins s σ H _ I h) fun u s1 ⟨y, H1, I1, ry, a, dx, fs, ey, ea, nl, q⟩ => ?_) (eval_meth hbase hform hline)
  subst ey
  obtain rfl : u = Value.ref a := ry
  refine getmeth_ok I1 ea hC hM nl ?_
  exact PySem.W.callWith_K (first := [.ref a]) (h₀ := X.base) I.ok.mod.kin hM.kp (thn (ha.run cp pins s1 σ H1 _ I1 q) fun us s2 ⟨vs, H2, I2, r, q2⟩ => ⟨I2.kIn, run_fnG (us := .ref a :: us) (vs := .ref a :: vs) F gd hr hb hx I2 (.cons rfl r) q2⟩) hstar hplain
theorem pe_methG0 (ho : PE X o ta) (hC : Cls X.K C) (hM : Meth X.K C m f) (F : FnG X.prog X.w X.K X.mg X.base CX k f fd ps sp) (gd : X.A.guards = some []) (hr : Room k X.A) (hb : Binds X.K fd ps []) (hx : Passes CX X E)
    (hbase : attributeBase o m X.env (eval o X.env) = eval o X.env) (hform : methodCallForm (([] : List Expr).length + 0) (backTo cp (starEach [] X.env)) (backToKw cp (keywordEach [] X.env)) = true) (hline : (ap.endLine == cp.line) = true) :
    PE X (.Call (.Attribute o m ap) [] [] cp) fun σ H Q => ta σ H fun y H1 => ∃ a dx fs, y = .ref a ∧ H1 a = some (.ins C dx fs) ∧ fs.lookup m = none ∧ sp [y] H1 Q E := by
  refine ⟨fun pins s σ H Q I h => ?_⟩
  refine PySem.W.methodCall_KW (pl := do return (← importBound o X.env).getD true) (thn (ho.run pins s σ H _ I h) fun u s1 ⟨y, H1, I1, ry, a, dx, fs, ey, ea, nl, q⟩ => ?_) (eval_meth hbase hform hline)
  subst ey
  obtain rfl : u = Value.ref a := ry
  refine getmeth_ok I1 ea hC hM nl ?_
  exact PySem.W.callWith_K0 (first := [.ref a]) I1.kIn hM.kp (run_fnG (us := [.ref a]) (vs := [.ref a]) F gd hr hb hx I1 (.cons rfl .nil) q)
theorem run_makeG {pins : List (Addr × Obj)} {σ : L2.St} {H : Hp} {s : Shared} {Q : VK} {us : List Value} {vs : List V} (M : Mk X.K C f) (F : FnG X.prog X.w X.K X.mg X.base CX k f fd ps sp) (gd : X.A.guards = some []) (hr : Room (k + 1) X.A) (hb : Binds X.K fd ps []) (hx : Passes CX X E)
    (I : Inv X pins σ H s) (r : Vals vs us) (h : ∀ y dx, H y = none → H dx = none → dx ≠ y → sp (.ref y :: vs) (upd (upd H dx (.own y)) y (.ins C dx [])) (fun v H2 => v = .non ∧ Q (.ref y) H2) E) :
    wpAny (model X.prog X.w) X.A (PySem.call (.ref C) us) (EP X pins σ Q) X.xe s := by
  have hq := h (s.heap.objs.size + 1) s.heap.objs.size (I.hok.fresh (Nat.le_succ _)) (I.hok.fresh (Nat.le_refl _)) (Nat.ne_of_lt (Nat.lt_succ_self _))
  have I2 := Inv.made (C := C) I
  have r2 : Vals (V.ref (s.heap.objs.size + 1) :: vs) (Value.ref (s.heap.objs.size + 1) :: us) := .cons rfl r
  have hl : (Value.ref (s.heap.objs.size + 1) :: us).length = ps.length := by
    rw [← r2.length]; exact F.len _ _ _ _ hq
  have b := hb _ (Value.ref (s.heap.objs.size + 1) :: us) I2.kIn (by rw [List.append_nil]; exact hl)
  rw [List.append_nil] at b
  refine wpAny_call (make_map (f := f) I.kIn M.makes M.init (beq_iff_eq.mp M.fn) (codeAny_mono (F.run _ X.stack _ _ ⟨Value.ref (s.heap.objs.size + 1) :: us, []⟩ _ _ _ E gd (hr.make C us []) (I2.env0.make C us []) b r2 hq) fun r s' hq' => ?_))
  match r, hq' with
  | .error e, hq' => exact hx pins σ _ _ e s' I2 hq'
  | .ok (.ret u), hq' =>
    obtain ⟨v, H', I3, rv, ev, q3⟩ := I2.after hq'
    subst ev
    exact ⟨rv, ⟨V.ref (s.heap.objs.size + 1), H', I3, rfl, q3⟩⟩
  | .ok .next, hq' => exact False.elim hq'
  | .ok .brk, hq' => exact False.elim hq'
  | .ok .cont, hq' => exact False.elim hq'
theorem pe_makeG (M : Mk X.K C f) (F : FnG X.prog X.w X.K X.mg X.base CX k f fd ps sp) (gd : X.A.guards = some []) (hr : Room (k + 1) X.A) (hg : Gl X x) (hm : X.mg x = some (.ref C)) (hb : Binds X.K fd ps []) (hx : Passes CX X E) (ha : PA X (e :: es) t)
    (hdb : (x == ("__debug__" : Str)) = false) (hstar : starEach (e :: es) X.env = (false, eval e X.env) :: starEach es X.env) (hplain : (backTo cp (starEach es X.env)).any (·.1) = false) :
    PE X (.Call (.Name x p) (e :: es) [] cp) fun σ H Q => t σ H fun vs H1 => ∀ y dx, H1 y = none → H1 dx = none → dx ≠ y → sp (.ref y :: vs) (upd (upd H1 dx (.own y)) y (.ins C dx [])) (fun v H2 => v = .non ∧ Q (.ref y) H2) E := by
  refine ⟨fun pins s σ H Q I h => ?_⟩
  refine wpAny_Call_Name_kw (ld_glob I hg hm ?_ hdb)
  exact PySem.W.callWith_K (h₀ := X.base) I.ok.mod.kin M.kp (thn (ha.run cp pins s σ H _ I h) fun us s1 ⟨vs, H1, I1, r, q⟩ => ⟨I1.kIn, run_makeG M F gd hr hb hx I1 r q⟩) hstar hplain
theorem pe_makeF (M : Mk X.K C f) (hg : Gl X x) (hm : X.mg x = some (.ref C)) (ha : PA X (e :: es) t)
    (hdb : (x == ("__debug__" : Str)) = false) (hstar : starEach (e :: es) X.env = (false, eval e X.env) :: starEach es X.env) (hplain : (backTo cp (starEach es X.env)).any (·.1) = false) :
    PE X (.Call (.Name x p) (e :: es) [] cp) fun σ H Q => t σ H fun vs H1 => False := by
  refine ⟨fun pins s σ H Q I h => ?_⟩
  refine wpAny_Call_Name_kw (ld_glob I hg hm ?_ hdb)
  exact PySem.W.callWith_K (h₀ := X.base) I.ok.mod.kin M.kp (thn (ha.run cp pins s σ H _ I h) fun us s1 ⟨vs, H1, I1, r, q⟩ => q.elim) hstar hplain
end
end Ev

namespace Ev
open PySem L2

def spC (K : Kw) (EX : EX1) (C : Cfg) (g n : Nat) : Sp := fun vs H Q E => vs.length = n ∧ ∃ (ρ : List Addr) (h : Hea) (as : List P), Rep K ρ h H ∧ Rvs K ρ H as vs ∧ Val K EX (C.call g as h) ρ H Q
def EX0 : EX1 := fun _ _ _ _ => False
structure Fit (C : Cfg) (X : Cx) (S : SC) : Prop where
  N : X.N = S.N
  nd : X.N.Nodup
  names : X.env.scope.names = S.names
  kind : X.env.scope.kind = .function
  fn : ∀ x, S.fnB x = true → X.fn x = true
  calm : X.calm = true
  hu : X.A.units + 200 < cLine
  gd : X.A.guards = some []
  po : PassesOwn (model X.prog X.w) X.A X.env X.xe
  defs : ∀ x g, S.defs.lookup x = some g → ∃ (f : Addr) (fd : FuncData) (ps : List Str) (k : Nat), X.mg x = some (.ref f) ∧ PySem.W.keepIn X.kw (.ref f) = true ∧ Binds X.kw fd ps [] ∧
    FnG X.prog X.w X.kw X.mg X.base CX0 k f fd ps (spC X.kw EX0 C g ps.length) ∧ Room k X.A ∧ ∀ as h, as.length ≠ ps.length → C.call g as h = .stk
  cons : ∀ x g, S.cons.lookup x = some g → ∃ (u : Value) (v : V), X.mg x = some u ∧ RelV v u ∧ ∀ p, C.con g = some p → ∀ ρ H, Rv X.kw ρ H p v
  blts : ∀ x, x ∈ S.blts → X.mg x = none
  flds : ∀ c f, (c, f) ∈ S.flds → Cls X.K (He.ga X.K c) ∧ NoAttr X.K (He.ga X.K c) f
  mkrs : ∀ c g, S.mkrs.lookup c = some g → ∃ f : Addr, X.mg c = some (.ref (He.ga X.K c)) ∧ Mk X.K (He.ga X.K c) f ∧ ((∀ xs h, C.call g xs h = .stk) ∨ ∃ (C1 : Cfg) (g1 : Nat) (fd : FuncData) (ps : List Str) (k : Nat),
    (∀ xs h, C.call g xs h = (C1.call g1 (.ref h.length :: xs) (h ++ [.ins c []])).bind fun v h' => if v = .non then .ok (.ref h.length) h' else .stk) ∧ Binds X.kw fd ps [] ∧
    FnG X.prog X.w X.kw X.mg X.base CX0 k f fd ps (spC X.kw EX0 C1 g1 ps.length) ∧ Room (k + 1) X.A ∧ ∀ as h, as.length ≠ ps.length → C1.call g1 as h = .stk)
  mths : ∀ c m g, S.mths.lookup (c, m) = some g → ∃ (f : Addr) (fd : FuncData) (ps : List Str) (k : Nat), Cls X.K (He.ga X.K c) ∧ Meth X.K (He.ga X.K c) m f ∧ Binds X.kw fd ps [] ∧
    FnG X.prog X.w X.kw X.mg X.base CX0 k f fd ps (spC X.kw EX0 C g ps.length) ∧ Room k X.A ∧ ∀ as h, as.length ≠ ps.length → C.call g as h = .stk

section
variable (C : Cfg)
def tE (K : Kw) (EX : EX1) (t : T .e) : TE := fun σ H Q => ∃ (ρ : List Addr) (sp : Slots) (h : Hea), Rep K ρ h H ∧ RS K ρ H sp σ ∧ Val K EX (ev C t () sp h) ρ H Q
def tT (K : Kw) (EX : EX1) (t : T .t) : TT := fun σ H Q => ∃ (ρ : List Addr) (sp : Slots) (h : Hea), Rep K ρ h H ∧ RS K ρ H sp σ ∧ Post K EX (ev C t () sp h) ρ H fun b _ _ H' => Q b H'
def tA (K : Kw) (EX : EX1) (t : T .a) : TA := fun σ H Q => ∃ (ρ : List Addr) (sp : Slots) (h : Hea), Rep K ρ h H ∧ RS K ρ H sp σ ∧ Post K EX (ev C t () sp h) ρ H fun ps ρ' _ H' => ∀ vs, Rvs K ρ' H' ps vs → Q vs H'
def tG (K : Kw) (EX : EX1) (t : T .g) : TG := fun v σ H Q => ∃ (ρ : List Addr) (sp : Slots) (h : Hea) (p : P), Rep K ρ h H ∧ RS K ρ H sp σ ∧ Rv K ρ H p v ∧
  Post K EX (ev C t p sp h) ρ H fun s' ρ' _ H' => ∀ σ', RS K ρ' H' s' σ' → σ'.length = σ.length → (∀ j : Nat, j ∉ gSlots t → σ'[j]? = σ[j]?) → Q σ' H'
def tGs (K : Kw) (EX : EX1) (t : T .gs) : TGs := fun vs σ H Q => ∃ (ρ : List Addr) (sp : Slots) (h : Hea) (ps : List P), Rep K ρ h H ∧ RS K ρ H sp σ ∧ Rvs K ρ H ps vs ∧
  Post K EX (ev C t ps sp h) ρ H fun s' ρ' _ H' => ∀ σ', RS K ρ' H' s' σ' → σ'.length = σ.length → (∀ j : Nat, j ∉ gSlots t → σ'[j]? = σ[j]?) → Q σ' H'
def WkOk (K : Kw) (ρ : List Addr) (H : Hp) (w : Wk) (J : It) : Prop := ∀ ρ' h' H', Ext ρ ρ' H H' → Rep K ρ' h' H' → Wk.holds w.stay h' = true →
  (∀ i : Nat, i < w.its.length → J.go i H' ∧ ∀ x H'', J.yld i H' x H'' → Step ρ' ρ' H' H'' ∧ Rep K ρ' h' H'' ∧ ∃ p, w.its[i]? = some p ∧ Rv K ρ' H'' p x) ∧ ∀ i : Nat, w.its.length ≤ i → J.stop i H'
def tI (K : Kw) (EX : EX1) (t : T .i) : TI := fun σ H R => ∃ (ρ : List Addr) (sp : Slots) (h : Hea), Rep K ρ h H ∧ RS K ρ H sp σ ∧ Post K EX (ev C t () sp h) ρ H fun w ρ' _ H' => ∀ J, WkOk K ρ' H' w J → R J H'
def fOut (K : Kw) (ρ' : List Addr) (H' : Hp) (D : Ends) (r : Flow × Slots) : Prop := ∀ σ', RS K ρ' H' r.2 σ' → match r.1 with
  | .nx => D.nx σ' H'
  | .bk => D.bk σ' H'
  | .ct => D.ct σ' H'
  | .rt p => ∀ v, Rv K ρ' H' p v → D.rt v H'
def tS (K : Kw) (EX : EX1) (t : T .s) : TS := fun D σ H => ∃ (ρ : List Addr) (sp : Slots) (h : Hea), Rep K ρ h H ∧ RS K ρ H sp σ ∧ Post K EX (ev C t () sp h) ρ H fun r ρ' _ H' => fOut K ρ' H' D r

def SndE (t : T .e) : Prop := ∀ (X : Cx) (S : SC) (e : Expr), Fit C X S → chk S t e = true → PE X e (tE C X.kw EX0 t)
def SndT (t : T .t) : Prop := ∀ (X : Cx) (S : SC) (e : Expr), Fit C X S → chk S t e = true → PT X e (tT C X.kw EX0 t) ∧ (∀ op vs p, e = .BoolOp op vs p → PW X e (tT C X.kw EX0 t))
def SndA (t : T .a) : Prop := ∀ (X : Cx) (S : SC) (es : List Expr), Fit C X S → chk S t es = true → PA X es (tA C X.kw EX0 t) ∧ es.any isStar = false
def SndG (t : T .g) : Prop := ∀ (X : Cx) (S : SC) (e : Expr), Fit C X S → chk S t e = true → PG X e (tG C X.kw EX0 t)
def SndGs (t : T .gs) : Prop := ∀ (X : Cx) (S : SC) (es : List Expr), Fit C X S → chk S t es = true → PGs X es (tGs C X.kw EX0 t) ∧ es.any isStar = false
def SndI (t : T .i) : Prop := ∀ (X : Cx) (S : SC) (tg e : Expr), Fit C X S → chk S t e = true → tgOk t tg = true → PI X tg e (tI C X.kw EX0 t)
def SndS (t : T .s) : Prop := ∀ (X : Cx) (S : SC) (ss : List Stmt), Fit C X S → chk S t ss = true → PSs X ss (tS C X.kw EX0 t)
end

theorem _root_.L2.PE.weak {X : Cx} {e : Expr} {t t' : TE} (h : PE X e t') (w : ∀ σ H Q, t σ H Q → t' σ H Q) : PE X e t := ⟨fun pins s σ H Q I q => h.run pins s σ H Q I (w σ H Q q)⟩
theorem _root_.L2.PT.weak {X : Cx} {e : Expr} {t t' : TT} (h : PT X e t') (w : ∀ σ H Q, t σ H Q → t' σ H Q) : PT X e t := ⟨fun pins s σ H Q I q => h.run pins s σ H Q I (w σ H Q q)⟩
theorem _root_.L2.PW.weak {X : Cx} {e : Expr} {t t' : TT} (h : PW X e t') (w : ∀ σ H Q, t σ H Q → t' σ H Q) : PW X e t := ⟨fun wh pins s σ H Q I q => h.run wh pins s σ H Q I (w σ H Q q)⟩
theorem _root_.L2.PA.weak {X : Cx} {e : List Expr} {t t' : TA} (h : PA X e t') (w : ∀ σ H Q, t σ H Q → t' σ H Q) : PA X e t := ⟨fun pos pins s σ H Q I q => h.run pos pins s σ H Q I (w σ H Q q)⟩
theorem _root_.L2.PG.weak {X : Cx} {e : Expr} {t t' : TG} (h : PG X e t') (w : ∀ v σ H Q, t v σ H Q → t' v σ H Q) : PG X e t := ⟨fun pins s σ H v u Q I r q => h.run pins s σ H v u Q I r (w v σ H Q q)⟩
theorem _root_.L2.PGs.weak {X : Cx} {e : List Expr} {t t' : TGs} (h : PGs X e t') (w : ∀ v σ H Q, t v σ H Q → t' v σ H Q) : PGs X e t := ⟨fun pins s σ H v u Q I r q => h.run pins s σ H v u Q I r (w v σ H Q q)⟩
theorem _root_.L2.PI.weak {X : Cx} {tg e : Expr} {t t' : TI} (h : PI X tg e t') (w : ∀ σ H R, t σ H R → t' σ H R) : PI X tg e t := ⟨fun pins s σ H R I q => h.run pins s σ H R I (w σ H R q)⟩
theorem _root_.L2.PSs.weak {X : Cx} {e : List Stmt} {t t' : TS} (h : PSs X e t') (w : ∀ D σ H, t D σ H → t' D σ H) : PSs X e t := ⟨fun pins s σ H D I q => h.run pins s σ H D I (w D σ H q)⟩

theorem starEach_cons {e : Expr} {es : List Expr} {env : Env} (h : isStar e = false) : starEach (e :: es) env = (false, eval e env) :: starEach es env := by
  cases e <;> first | rfl | cases h
theorem starEach_any {env : Env} {pos : Pos} : ∀ {es : List Expr}, es.any isStar = false → (backTo pos (starEach es env)).any (·.1) = false
  | [], _ => rfl
  | e :: es, h => by
    simp only [List.any_cons, Bool.or_eq_false_iff] at h
    rw [starEach_cons h.1]
    show (false || (backTo pos (starEach es env)).any (·.1)) = false
    rw [starEach_any h.2]
    rfl
theorem starEach_all {env : Env} {pos : Pos} {es : List Expr} (h : es.any isStar = false) : (backTo pos (starEach es env)).all (fun x => !x.1) = true := by
  have := starEach_any (env := env) (pos := pos) h
  rw [List.all_eq_true]
  rw [List.any_eq_false] at this
  intro x hx
  simpa using this x hx
theorem plainIx {b : Expr} (h : isSlice b = false) : PlainIx b := by
  intro o i
  cases b <;> first | rfl | cases h
theorem nomarkB {op : CmpOp} {b : Expr} (h : isSetE b = false) : behindInMarks op b = false := by
  cases b <;> first | rfl | cases h
theorem lastM {op op' : CmpOp} {b c : Expr} (h : isSetE c = false) : lastMarks [op, op'] [b, c] = false := by
  show behindInMarks op' c = false
  exact nomarkB h
theorem isTrue_plainT {e : Expr} {env : Env} (h : plainT e = true) (whole : Sem Value) : isTrue e env whole = (do let v ← whole; standAt e.pos; holding [v] (truthy v)) := by
  cases e <;> first
    | rfl
    | (cases h; done)
    | (rename_i op _ _; cases op <;> first | rfl | cases h)
theorem okName_d {x : Str} (h : okName x = true) : (x == ("__debug__" : Str)) = false ∧ (x == ("__classdict__" : Str)) = false ∧ x ≠ ("__name__" : Str) := by
  unfold okName at h
  simp only [Bool.and_eq_true, Bool.not_eq_true', decide_eq_false_iff_not] at h
  exact ⟨h.1.1, h.1.2, h.2⟩
section
variable {C : Cfg} {X : Cx} {S : SC}
theorem Fit.vis (F : Fit C X S) {x : Str} (h : S.vis x = true) : Vis X.env.scope x ∧ okName x = true := by
  unfold SC.vis at h
  rw [Bool.and_eq_true] at h
  refine ⟨?_, h.1⟩
  unfold Vis
  rw [F.names]
  have h2 := h.2
  split at h2
  · exact .inl ‹_›
  · exact .inr (.inl ‹_›)
  · exact .inr (.inr ‹_›)
  · cases h2
theorem Fit.loc (F : Fit C X S) {x : Str} (h : S.loc x = true) : L2.Loc X.env.scope x ∧ (X.fn x = true ∨ X.env.scope.names.lookup x = some .local) := by
  unfold SC.loc at h
  unfold L2.Loc
  rw [F.names]
  split at h
  · exact ⟨.inl ‹_›, .inr ‹_›⟩
  · exact ⟨.inr ‹_›, .inl (F.fn x h)⟩
  · cases h
theorem Fit.gl (F : Fit C X S) {x : Str} (h : S.gl x = true) : Gl X x ∧ okName x = true := by
  unfold SC.gl at h
  rw [Bool.and_eq_true] at h
  refine ⟨?_, h.1⟩
  unfold Gl Env.kindOf
  rw [F.names]
  have h2 := h.2
  split at h2
  · assumption
  · cases h2
theorem Fit.slot (F : Fit C X S) {i : Nat} {x : Str} (h : S.slot i x = true) : X.N[i]? = some x := by
  rw [F.N]
  exact of_decide_eq_true h
end

section
variable {C : Cfg} {K : Kw} {EX : EX1}
theorem tE.bind {t : T .e} {σ : L2.St} {ρ : List Addr} {sp : Slots} {h : Hea} {H : Hp} {β : Type} {f : P → Hea → R β} {Φ : β → List Addr → Hea → Hp → Prop} {Q : VK} (R : Rep K ρ h H) (r : RS K ρ H sp σ) (p : Post K EX ((ev C t () sp h).bind f) ρ H Φ)
    (k : ∀ a ρ1 h1 H1 x, Step ρ ρ1 H H1 → Rep K ρ1 h1 H1 → RS K ρ1 H1 sp σ → Rv K ρ1 H1 a x → Post K EX (f a h1) ρ1 H1 Φ → Q x H1) : tE C K EX t σ H Q :=
  ⟨ρ, sp, h, R, r, p.bind.imp fun a ρ1 h1 H1 _ _ ⟨st, R1, p1⟩ x hx => k a ρ1 h1 H1 x st R1 (r.ext (R.ext st)) hx p1⟩
theorem tT.bind {t : T .t} {σ : L2.St} {ρ : List Addr} {sp : Slots} {h : Hea} {H : Hp} {β : Type} {f : Bool → Hea → R β} {Φ : β → List Addr → Hea → Hp → Prop} {Q : Bool → Hp → Prop} (R : Rep K ρ h H) (r : RS K ρ H sp σ) (p : Post K EX ((ev C t () sp h).bind f) ρ H Φ)
    (k : ∀ b ρ1 h1 H1, Step ρ ρ1 H H1 → Rep K ρ1 h1 H1 → RS K ρ1 H1 sp σ → Post K EX (f b h1) ρ1 H1 Φ → Q b H1) : tT C K EX t σ H Q :=
  ⟨ρ, sp, h, R, r, p.bind.imp fun b ρ1 h1 H1 _ _ ⟨st, R1, p1⟩ => k b ρ1 h1 H1 st R1 (r.ext (R.ext st)) p1⟩
theorem tA.bind {t : T .a} {σ : L2.St} {ρ : List Addr} {sp : Slots} {h : Hea} {H : Hp} {β : Type} {f : List P → Hea → R β} {Φ : β → List Addr → Hea → Hp → Prop} {Q : List V → Hp → Prop} (R : Rep K ρ h H) (r : RS K ρ H sp σ) (p : Post K EX ((ev C t () sp h).bind f) ρ H Φ)
    (k : ∀ ps ρ1 h1 H1 vs, Step ρ ρ1 H H1 → Rep K ρ1 h1 H1 → RS K ρ1 H1 sp σ → Rvs K ρ1 H1 ps vs → Post K EX (f ps h1) ρ1 H1 Φ → Q vs H1) : tA C K EX t σ H Q :=
  ⟨ρ, sp, h, R, r, p.bind.imp fun a ρ1 h1 H1 _ _ ⟨st, R1, p1⟩ x hx => k a ρ1 h1 H1 x st R1 (r.ext (R.ext st)) hx p1⟩
theorem Val.after {r : R P} {ρ ρ1 : List Addr} {H H1 : Hp} {Q : VK} (p : Val K EX r ρ H Q) (st : Step ρ ρ1 H H1) : Val K EX r ρ1 H1 Q := Post.step st p
end

section
variable {C : Cfg}
theorem snd_var (i : Nat) : SndE C (.var i) := by
  intro X S e F h
  unfold chk at h
  split at h
  · rw [Bool.and_eq_true] at h
    obtain ⟨hv, hn⟩ := F.vis h.2
    refine (pe_var (F.slot h.1) hv (okName_d hn).1 (okName_d hn).2.1).weak fun σ H Q ⟨ρ, sp, hh, R, r, p⟩ => ?_
    unfold ev at p
    obtain ⟨a, e1, q⟩ := p.of_R R
    rw [Option.join_eq_some_iff] at e1
    obtain ⟨v, hv, rv⟩ := r.at_ i a e1
    exact ⟨v, hv, q v rv⟩
  · cases h
theorem snd_non : SndE C .non := by
  intro X S e F h
  unfold chk at h
  split at h
  · refine pe_non.weak fun σ H Q ⟨ρ, sp, hh, R, r, p⟩ => ?_
    unfold ev at p
    exact p.of_ok R _ rfl
  · cases h
theorem snd_bl (b : Bool) : SndE C (.bl b) := by
  intro X S e F h
  unfold chk at h
  split at h
  · have e := eq_of_beq h
    subst e
    refine pe_bl.weak fun σ H Q ⟨ρ, sp, hh, R, r, p⟩ => ?_
    unfold ev at p
    exact p.of_ok R _ rfl
  · cases h
theorem snd_int (i : Int) : SndE C (.int i) := by
  intro X S e F h
  unfold chk at h
  split at h
  · have e := of_decide_eq_true h
    subst e
    refine pe_int.weak fun σ H Q ⟨ρ, sp, hh, R, r, p⟩ => ?_
    unfold ev at p
    exact p.of_ok R _ rfl
  · cases h
theorem snd_str (x : Str) : SndE C (.str x) := by
  intro X S e F h
  unfold chk at h
  split at h
  · have e := of_decide_eq_true h
    subst e
    refine pe_str.weak fun σ H Q ⟨ρ, sp, hh, R, r, p⟩ => ?_
    unfold ev at p
    exact p.of_ok R _ rfl
  · cases h
theorem snd_con (g : Nat) : SndE C (.con g) := by
  intro X S e F h
  unfold chk at h
  split at h
  · simp only [Bool.and_eq_true, decide_eq_true_eq] at h
    obtain ⟨hg, hn⟩ := F.gl h.1
    obtain ⟨u, v, hm, rv, hc⟩ := F.cons _ _ h.2
    refine (pe_glob hg hm rv (okName_d hn).1).weak fun σ H Q ⟨ρ, sp, hh, R, r, p⟩ => ?_
    unfold ev at p
    obtain ⟨a, e1, q⟩ := p.of_R R
    exact q v (hc a e1 ρ H)
  · cases h
theorem ty_boot {n : String} (h : tyOk n = true) : bootBuiltins (Str.ofString n) = some (.type n) := by
  unfold tyOk at h
  simp only [Bool.or_eq_true, beq_iff_eq] at h
  rcases h with (((rfl | rfl) | rfl) | rfl) | rfl <;> decide +kernel
theorem snd_tyn (n : String) : SndE C (.tyn n) := by
  intro X S e F h
  unfold chk at h
  split at h
  · simp only [Bool.and_eq_true, decide_eq_true_eq] at h
    obtain ⟨⟨⟨h1, h2⟩, h3⟩, h4⟩ := h
    obtain ⟨hg, hn⟩ := F.gl h1
    obtain ⟨d1, d2, d3⟩ := okName_d hn
    subst h4
    refine (pe_bltn (v := .ty n) hg (F.blts _ h2) (ty_boot h3) rfl d3 d1).weak fun σ H Q ⟨ρ, sp, hh, R, r, p⟩ => ?_
    unfold ev at p
    exact p.of_ok R _ rfl
  · cases h
theorem snd_dead : SndE C .dead := fun X S e F _ => ⟨fun pins s σ H Q I q => by
  obtain ⟨ρ, sp, hh, R, r, p⟩ := q
  unfold ev at p
  exact p.elim⟩
theorem snd_tup {as : T .a} (ha : SndA C as) : SndE C (.tup as) := by
  intro X S e F h
  unfold chk at h
  split at h
  · refine (pe_tup (ha X S _ F h).1).weak fun σ H Q ⟨ρ, sp, hh, R, r, p⟩ => ?_
    unfold ev at p
    refine tA.bind R r p fun ps ρ1 h1 H1 vs st R1 r1 hv p1 => ?_
    obtain ⟨hl, p1⟩ := p1.ite
    exact ⟨by rw [← sz_eq, hv.length]; exact hl, (Post.tup R1 hv p1).1⟩
  · cases h
theorem snd_lst {as : T .a} (ha : SndA C as) : SndE C (.lst as) := by
  intro X S e F h
  unfold chk at h
  split at h
  · refine (pe_lst (ha X S _ F h).1).weak fun σ H Q ⟨ρ, sp, hh, R, r, p⟩ => ?_
    unfold ev at p
    refine tA.bind R r p fun ps ρ1 h1 H1 vs st R1 r1 hv p1 => ?_
    obtain ⟨hl, p1⟩ := p1.ite
    exact ⟨by rw [← sz_eq, hv.length]; exact hl, Post.lst R1 hv p1⟩
  · cases h
theorem snd_bin {o : Bop} {a b : T .e} (ha : SndE C a) (hb : SndE C b) : SndE C (.bin o a b) := by
  intro X S e F h
  unfold chk at h
  split at h
  · simp only [Bool.and_eq_true, decide_eq_true_eq] at h
    obtain ⟨⟨rfl, h1⟩, h2⟩ := h
    refine (pe_op (op_bin o) (ha X S _ F h1) (hb X S _ F h2)).weak fun σ H Q ⟨ρ, sp, hh, R, r, p⟩ => ?_
    unfold ev at p
    refine tE.bind R r p fun x ρ1 h1 H1 v st R1 r1 hv p1 => ?_
    refine tE.bind R1 r1 p1 fun y ρ2 h2 H2 w st2 R2 r2 hw p2 => ?_
    exact ⟨EX0, ρ2, h2, x, y, R2, hv.ext (R1.ext st2), hw, p2⟩
  · cases h
theorem snd_neg {a : T .e} (ha : SndE C a) : SndE C (.neg a) := by
  intro X S e F h
  unfold chk at h
  split at h
  · refine (pe_un un_neg (ha X S _ F h)).weak fun σ H Q ⟨ρ, sp, hh, R, r, p⟩ => ?_
    unfold ev at p
    refine tE.bind R r p fun x ρ1 h1 H1 v st R1 r1 hv p1 => ?_
    split at p1
    · cases hv
      exact ⟨_, rfl, p1.of_ok R1 _ rfl⟩
    · exact p1.elim
  · cases h
theorem snd_notv {a : T .e} (ha : SndE C a) : SndE C (.notv a) := by
  intro X S e F h
  unfold chk at h
  split at h
  · refine (pe_notT (ha X S _ F h)).weak fun σ H Q ⟨ρ, sp, hh, R, r, p⟩ => ?_
    unfold ev at p
    refine tE.bind R r p fun x ρ1 h1 H1 v st R1 r1 hv p1 => ?_
    obtain ⟨b, e1, _, _, p2⟩ := p1.bind.of_R R1
    exact ⟨b, tru_of R1 hv e1, p2.of_ok R1 _ rfl⟩
  · cases h
theorem snd_cmp {o : Cop} {a b : T .e} (ha : SndE C a) (hb : SndE C b) : SndE C (.cmp o a b) := by
  intro X S e F h
  unfold chk at h
  split at h
  · simp only [Bool.and_eq_true, decide_eq_true_eq, Bool.not_eq_true'] at h
    obtain ⟨⟨⟨rfl, h1⟩, h2⟩, h3⟩ := h
    refine (pe_cmpR (op_cmp F.hu o) (ha X S _ F h1) (hb X S _ F h2) (nomarkB h3)).weak fun σ H Q ⟨ρ, sp, hh, R, r, p⟩ => ?_
    unfold ev at p
    refine tE.bind R r p fun x ρ1 h1 H1 v st R1 r1 hv p1 => ?_
    refine tE.bind R1 r1 p1 fun y ρ2 h2 H2 w st2 R2 r2 hw p2 => ?_
    obtain ⟨b, e1, _, _, p3⟩ := p2.bind.of_R R2
    exact ⟨ρ2, h2, x, y, b, R2, hv.ext (R1.ext st2), hw, e1, p3.of_ok R2 _ rfl⟩
  · cases h
theorem snd_chn {o o' : Cop} {a b c : T .e} (ha : SndE C a) (hb : SndE C b) (hc : SndE C c) : SndE C (.chn o o' a b c) := by
  intro X S e F h
  unfold chk at h
  split at h
  · simp only [Bool.and_eq_true, decide_eq_true_eq, Bool.not_eq_true'] at h
    obtain ⟨⟨⟨⟨⟨rfl, rfl⟩, h1⟩, h2⟩, h3⟩, h4⟩ := h
    refine (pe_chain (op_cmp F.hu o) (op_cmp F.hu o') (ha X S _ F h1) (hb X S _ F h2) (hc X S _ F h3) (lastM h4)).weak fun σ H Q ⟨ρ, sp, hh, R, r, p⟩ => ?_
    unfold ev at p
    refine tE.bind R r p fun x ρ1 h1 H1 v st R1 r1 hv p1 => ?_
    refine tE.bind R1 r1 p1 fun y ρ2 h2 H2 w st2 R2 r2 hw p2 => ?_
    obtain ⟨k, e1, _, _, p3⟩ := p2.bind.of_R R2
    refine ⟨ρ2, h2, x, y, k, R2, hv.ext (R1.ext st2), hw, e1, k, rfl, ?_⟩
    cases k with
    | false => exact p3.of_ok R2 _ rfl
    | true =>
      refine tE.bind R2 r2 p3 fun z ρ3 h3 H3 u st3 R3 r3 hu p4 => ?_
      obtain ⟨k', e2, _, _, p5⟩ := p4.bind.of_R R3
      exact ⟨ρ3, h3, y, z, k', R3, hw.ext (R2.ext st3), hu, e2, p5.of_ok R3 _ rfl⟩
  · cases h
theorem snd_andv {a b : T .e} (ha : SndE C a) (hb : SndE C b) : SndE C (.andv a b) := by
  intro X S e F h
  have key : ∀ {x : Expr} {t : Expr} {es : List Expr} {p p' : Pos} {tb : TE}, PE X x (tE C X.kw EX0 a) → PE X (.BoolOp .And es p) (tE C X.kw EX0 b) → es ≠ [] → PE X (.BoolOp .And (x :: es) p) (tE C X.kw EX0 (.andv a b)) := by
    intro x t es p p' tb h1 h2 hne
    cases es with
    | nil => exact absurd rfl hne
    | cons y r =>
      refine (pe_andT h1 h2).weak fun σ H Q ⟨ρ, sp, hh, R, r, p⟩ => ?_
      unfold ev at p
      refine tE.bind R r p fun x ρ1 h1 H1 v st R1 r1 hv p1 => ?_
      obtain ⟨k, e1, _, _, p2⟩ := p1.bind.of_R R1
      refine ⟨k, tru_of R1 hv e1, ?_⟩
      cases k with
      | true => exact ⟨ρ1, sp, h1, R1, r1, p2⟩
      | false => exact p2.of_ok R1 v hv
  unfold chk at h
  split at h
  · rw [Bool.and_eq_true] at h
    exact key (t := .Constant .none 0 ⟨0, 0, 0, 0⟩) (p' := ⟨0, 0, 0, 0⟩) (tb := fun _ _ _ => True) (ha X S _ F h.1) (pe_one (hb X S _ F h.2)) (by simp)
  · rw [Bool.and_eq_true] at h
    exact key (t := .Constant .none 0 ⟨0, 0, 0, 0⟩) (p' := ⟨0, 0, 0, 0⟩) (tb := fun _ _ _ => True) (ha X S _ F h.1) (hb X S _ F h.2) (by simp)
  · cases h
theorem snd_orv {a b : T .e} (ha : SndE C a) (hb : SndE C b) : SndE C (.orv a b) := by
  intro X S e F h
  have key : ∀ {x : Expr} {es : List Expr} {p : Pos}, PE X x (tE C X.kw EX0 a) → PE X (.BoolOp .Or es p) (tE C X.kw EX0 b) → es ≠ [] → PE X (.BoolOp .Or (x :: es) p) (tE C X.kw EX0 (.orv a b)) := by
    intro x es p h1 h2 hne
    cases es with
    | nil => exact absurd rfl hne
    | cons y r =>
      refine (pe_orT h1 h2).weak fun σ H Q ⟨ρ, sp, hh, R, r, p⟩ => ?_
      unfold ev at p
      refine tE.bind R r p fun x ρ1 h1 H1 v st R1 r1 hv p1 => ?_
      obtain ⟨k, e1, _, _, p2⟩ := p1.bind.of_R R1
      refine ⟨k, tru_of R1 hv e1, ?_⟩
      cases k with
      | false => exact ⟨ρ1, sp, h1, R1, r1, p2⟩
      | true => exact p2.of_ok R1 v hv
  unfold chk at h
  split at h
  · rw [Bool.and_eq_true] at h
    exact key (ha X S _ F h.1) (pe_one (hb X S _ F h.2)) (by simp)
  · rw [Bool.and_eq_true] at h
    exact key (ha X S _ F h.1) (hb X S _ F h.2) (by simp)
  · cases h
theorem snd_ife {c : T .t} {a b : T .e} (hc : SndT C c) (ha : SndE C a) (hb : SndE C b) : SndE C (.ife c a b) := by
  intro X S e F h
  unfold chk at h
  split at h
  · simp only [Bool.and_eq_true] at h
    refine (pe_ifExp (hc X S _ F h.1.1).1 (ha X S _ F h.1.2) (hb X S _ F h.2)).weak fun σ H Q ⟨ρ, sp, hh, R, r, p⟩ => ?_
    unfold ev at p
    refine tT.bind R r p fun k ρ1 h1 H1 st R1 r1 p1 => ?_
    cases k with
    | true => exact ⟨ρ1, sp, h1, R1, r1, p1⟩
    | false => exact ⟨ρ1, sp, h1, R1, r1, p1⟩
  · cases h
theorem snd_idx {a i : T .e} (ha : SndE C a) (hi : SndE C i) : SndE C (.idx a i) := by
  intro X S e F h
  unfold chk at h
  split at h
  · simp only [Bool.and_eq_true, Bool.not_eq_true'] at h
    refine (pe_ix (ix_ev F.hu) (ha X S _ F h.1.1) (hi X S _ F h.1.2) (plainIx h.2)).weak fun σ H Q ⟨ρ, sp, hh, R, r, p⟩ => ?_
    unfold ev at p
    refine tE.bind R r p fun x ρ1 h1 H1 v st R1 r1 hv p1 => ?_
    refine tE.bind R1 r1 p1 fun y ρ2 h2 H2 w st2 R2 r2 hw p2 => ?_
    obtain ⟨z, e1, q⟩ := p2.of_R R2
    exact ⟨ρ2, h2, x, y, z, R2, hv.ext (R1.ext st2), hw, e1, q⟩
  · cases h
theorem po_ev {X : Cx} {S : SC} {b : T .e} {l : Option Expr} {f : Bool} (hb : SndE C b) (F : Fit C X S) (h : (match l, f with | some l, true => chk S b l | none, false => isNon b | _, _ => false) = true) :
    PO X l (fun σ H Q => ∃ (ρ : List Addr) (sp : Slots) (h : Hea), Rep X.kw ρ h H ∧ RS X.kw ρ H sp σ ∧ Post X.kw EX0 (ev C b () sp h) ρ H fun p ρ' h' H' => ∃ o, bndV f p = some o ∧ Q o H') := by
  cases l with
  | none =>
    cases f with
    | true => cases h
    | false =>
      simp only at h
      cases b <;> first
        | (cases h; done)
        | skip
      refine ⟨fun pins s σ H Q I ⟨ρ, sp, hh, R, r, p⟩ => po_none.run pins s σ H Q I ?_⟩
      unfold ev at p
      obtain ⟨o, e, q⟩ := p.of_ok R
      cases e
      exact q
  | some l =>
    cases f with
    | false => cases h
    | true =>
      simp only at h
      have P1 := hb X S _ F h
      refine ⟨fun pins s σ H Q I ⟨ρ, sp, hh, R, r, p⟩ => (po_some P1).run pins s σ H Q I ⟨ρ, sp, hh, R, r, p.imp fun a ρ1 h1 H1 _ R1 ⟨o, e, q⟩ v hv => ?_⟩⟩
      cases a <;> first
        | (cases e; done)
        | (cases e; cases hv; exact ⟨_, rfl, q⟩)
theorem snd_slc {fl fh : Bool} {a lo hi : T .e} (ha : SndE C a) (hl : SndE C lo) (hh' : SndE C hi) : SndE C (.slc fl fh a lo hi) := by
  intro X S e F h
  unfold chk at h
  split at h
  · simp only [Bool.and_eq_true] at h
    refine (pe_slice sl_ev (ha X S _ F h.1.1) (po_ev hl F h.1.2) (po_ev hh' F h.2)).weak fun σ H Q ⟨ρ, sp, hh, R, r, p⟩ => ?_
    unfold ev at p
    refine tE.bind R r p fun x ρ1 h1 H1 v st R1 r1 hv p1 => ?_
    refine ⟨ρ1, sp, h1, R1, r1, p1.bind.imp fun q ρ2 h2 H2 _ _ ⟨st2, R2, p2⟩ => ?_⟩
    obtain ⟨o, e1, _, _, p3⟩ := p2.bind.of_R R2
    refine ⟨o, e1, ρ2, sp, h2, R2, r1.ext (R1.ext st2), p3.bind.imp fun q' ρ3 h3 H3 _ _ ⟨st3, R3, p4⟩ => ?_⟩
    obtain ⟨o', e2, _, _, p5⟩ := p4.bind.of_R R3
    exact ⟨o', e2, EX0, ρ3, h3, x, R3, (hv.ext (R1.ext st2)).ext (R2.ext st3), p5⟩
  · cases h
end
end Ev

namespace Ev
open PySem L2 PyProof.Rows
section
variable {X : Cx} {pins : List (Addr × Obj)} {σ : L2.St} {H : Hp} {s : Shared} {d : Addr} {od : Obj} {xs : DX}
theorem Inv.frzD (I : Inv X pins σ H s) (h : H d = some (.frz od (dkO X.prog X.w d xs))) : (d == sysModules) = false ∧ ∃ (ys : DY) (es : Array DictEntry) (ep : Nat),
    DXY xs ys ∧ s.heap.get? d = some od ∧ od.ExactDict ∧ od.data = .dict es ep ∧ es.size = xs.length ∧ es.toList = ys.map (entryOfKey (nestedKind X.prog X.w)) := by
  obtain ⟨hd, ⟨d1, d2, ys, d3, ⟨o, es, ep, e1, e2, e3, e4⟩, d5⟩, _⟩ := I.hok d _ h
  rw [hd] at e1
  cases e1
  refine ⟨d1, ys, es, ep, d3, hd, e2, e3, ?_, e4⟩
  rw [size_of_entries e4, ← d3.length]
theorem ent_of {P : Program} {w : World} {ys : DY} {es : Array DictEntry} {i : Nat} {x : NestedKey × Addr × V} (d3 : DXY xs ys) (e4 : es.toList = ys.map (entryOfKey (nestedKind P w))) (hi : i < es.size) (hx : xs[i]? = some x) :
    es[i].key = .ref x.2.1 ∧ RelV x.2.2 es[i].val := by
  obtain ⟨y, hy, _, q2, q3⟩ := paired_get d3 hx
  have q := entry_at e4 i
  rw [hy, Array.getElem?_eq_getElem hi] at q
  have q' := Option.some.inj q
  rw [q', q2]
  exact ⟨rfl, q3⟩
end
def seenD : Nat → NestedKey × Addr × V → V
  | 0, x => .ref x.2.1
  | _, x => x.2.2
def ItD (k : Nat) (P : Program) (w : World) (d : Addr) (od : Obj) (xs : DX) : It :=
  ⟨fun i H => H d = some (.frz od (dkO P w d xs)) ∧ i < xs.length, fun i H v H' => match k with
    | 2 => ∃ T x, xs[i]? = some x ∧ v = .ref T ∧ H T = none ∧ H' = upd H T (.tup [.ref x.2.1, x.2.2])
    | k => H' = H ∧ ∃ x, xs[i]? = some x ∧ v = seenD k x, fun i H => H d = some (.frz od (dkO P w d xs)) ∧ xs.length ≤ i⟩
section
variable {P : Program} {w : World} {K : PySem.W.Frag} {tg : Expr} {d : Addr} {od : Obj} {xs : DX} {es : Array DictEntry} {ep : Nat}
theorem turn_dk0 (it : Addr) (hod : od.data = .dict es ep) : Turn P w K tg (ItD 0 P w d od xs) [it] it (fun i h => h.IsKeyIter it d i es.size ep) where
  mem := by simp
  obj := fun i h st b hb => by
    have e : b = it := by simpa using hb
    subst e
    obtain ⟨oi, e, c, dd⟩ := st
    exact ⟨oi, e, fun v z => by rw [dd] at z; cases z⟩
  keep := fun i h h' st k => st.at fun oi e => k it (by simp) oi e
  item := by
    intro X hP hw hK hc i pins s σ H E I hf st hg
    subst hP hw hK
    obtain ⟨hd, hi⟩ := hg
    obtain ⟨f0, f1, f2, f3, f4, f5⟩ := hf it (by simp)
    obtain ⟨hs, ys, es', ep', d3, hgd, hx, hdt, hsz, e4⟩ := Inv.frzD I hd
    obtain ⟨rfl, rfl⟩ := dict_ep hod hdt
    obtain ⟨x, hxi⟩ : ∃ p, xs[i]? = some p := ⟨xs[i], List.getElem?_eq_getElem hi⟩
    have hie : i < es'.size := by omega
    obtain ⟨q1, q2⟩ := ent_of d3 e4 hie hxi
    refine wpAny_pyNext_keys_item_raw st ⟨_, hgd, hx, hdt⟩ hie fun h' st' sb => ?_
    have I1 : Inv X pins σ H { s with heap := h' } := I.turned (t' := s.toks) (fun b ob hb e => (sb.2 b hb).trans e) f0 f1 f3 f4 f5
    obtain ⟨oi, e, c, dd⟩ := id st'
    exact ⟨_, rfl, go_of (s := { s with heap := h' }) e c dd (by decide) ⟨.ref x.2.1, H, I1, by rw [q1]; rfl, ⟨rfl, x, hxi, rfl⟩, st', fun b hb => (hf b hb).1⟩⟩
  done := by
    intro X hP hw hK hc i pins s σ H E I hf st hg
    subst hP hw hK
    obtain ⟨hd, hi⟩ := hg
    obtain ⟨f0, f1, f2, f3, f4, f5⟩ := hf it (by simp)
    obtain ⟨hs, ys, es', ep', d3, hgd, hx, hdt, hsz, e4⟩ := Inv.frzD I hd
    obtain ⟨rfl, rfl⟩ := dict_ep hod hdt
    exact next_key_end (I.ok.hd hc) st hgd hdt rfl (by omega) fun h' eb => ⟨rfl, I.turned (t' := s.toks) (fun b ob hb e => eb b ob hb e) f0 f1 f3 f4 f5⟩
  self := fun A i s Q E st h => wpAny_pyIter_keyiter st h
theorem turn_dk1 (it : Addr) (hod : od.data = .dict es ep) : Turn P w K tg (ItD 1 P w d od xs) [it] it (fun i h => h.IsValIter it d i es.size ep) where
  mem := by simp
  obj := fun i h st b hb => by
    have e : b = it := by simpa using hb
    subst e
    obtain ⟨oi, e, c, dd⟩ := st
    exact ⟨oi, e, fun v z => by rw [dd] at z; cases z⟩
  keep := fun i h h' st k => st.at fun oi e => k it (by simp) oi e
  item := by
    intro X hP hw hK hc i pins s σ H E I hf st hg
    subst hP hw hK
    obtain ⟨hd, hi⟩ := hg
    obtain ⟨f0, f1, f2, f3, f4, f5⟩ := hf it (by simp)
    obtain ⟨hs, ys, es', ep', d3, hgd, hx, hdt, hsz, e4⟩ := Inv.frzD I hd
    obtain ⟨rfl, rfl⟩ := dict_ep hod hdt
    obtain ⟨x, hxi⟩ : ∃ p, xs[i]? = some p := ⟨xs[i], List.getElem?_eq_getElem hi⟩
    have hie : i < es'.size := by omega
    obtain ⟨q1, q2⟩ := ent_of d3 e4 hie hxi
    refine wpAny_pyNext_values_item_raw st ⟨_, hgd, hx, hdt⟩ hie fun h' st' sb => ?_
    have I1 : Inv X pins σ H { s with heap := h' } := I.turned (t' := s.toks) (fun b ob hb e => (sb.2 b hb).trans e) f0 f1 f3 f4 f5
    obtain ⟨oi, e, c, dd⟩ := id st'
    exact ⟨_, rfl, go_of (s := { s with heap := h' }) e c dd (by decide) ⟨x.2.2, H, I1, q2, ⟨rfl, x, hxi, rfl⟩, st', fun b hb => (hf b hb).1⟩⟩
  done := by
    intro X hP hw hK hc i pins s σ H E I hf st hg
    subst hP hw hK
    obtain ⟨hd, hi⟩ := hg
    obtain ⟨f0, f1, f2, f3, f4, f5⟩ := hf it (by simp)
    obtain ⟨hs, ys, es', ep', d3, hgd, hx, hdt, hsz, e4⟩ := Inv.frzD I hd
    obtain ⟨rfl, rfl⟩ := dict_ep hod hdt
    have hge : es'.size ≤ i := by omega
    refine PySem.wpAny_mono (wpAny_pyNext_values_end_raw (Q := fun r s1 => r = none ∧ Inv X pins σ H s1) (I.ok.hd hc) ?_ ⟨_, hgd, hx, hdt⟩ hge fun h' eb => ⟨rfl, I.turned (t' := s.toks) (fun b ob hb e => eb b ob hb e) f0 f1 f3 f4 f5⟩) (fun _ _ h => h) (fun _ _ h => h)
    exact st
  self := fun A i s Q E st h => wpAny_pyIter_valiter st h
theorem turn_dk2 {elts : List Expr} {kk : Nat} {tpos : Pos} (it : Addr) (hod : od.data = .dict es ep) :
    Turn P w K (.Tuple elts kk tpos) (ItD 2 P w d od xs) [it] it (fun i h => ∃ ok ov, IsItemIter h it d i es.size ep ok ov) where
  mem := by simp
  obj := fun i h st b hb => by
    have e : b = it := by simpa using hb
    subst e
    obtain ⟨ok, ov, e⟩ := st
    exact ⟨_, e, fun v z => nomatch z⟩
  keep := fun i h h' st k => let ⟨ok, ov, e⟩ := st; ⟨ok, ov, k it (by simp) _ e⟩
  item := by
    intro X hP hw hK hc i pins s σ H E I hf st hg
    subst hP hw hK
    obtain ⟨hd, hi⟩ := hg
    obtain ⟨hs, ys, es', ep', d3, hgd, hx, hdt, hsz, e4⟩ := Inv.frzD I hd
    obtain ⟨rfl, rfl⟩ := dict_ep hod hdt
    obtain ⟨x, hxi⟩ : ∃ p, xs[i]? = some p := ⟨xs[i], List.getElem?_eq_getElem hi⟩
    have hie : i < es'.size := by omega
    obtain ⟨q1, q2⟩ := ent_of d3 e4 hie hxi
    obtain ⟨ok, ov, he⟩ := st
    have hlt : it < s.heap.objs.size := Heap.lt_size he
    refine wpAny_pyNext_items_item_raw he ⟨_, hgd, hx, hdt⟩ hie fun h' ho hT hz hk => ?_
    refine ⟨_, rfl, wpAny_letOwnedTupleGo_items (s := { s with heap := h' }) ho fun h'' he' sb => ?_⟩
    have hT2 : h''.get? s.heap.objs.size = some { cls := .type "tuple", data := .seq #[es'[i].key, es'[i].val] } := (sb.2 _ (Nat.ne_of_gt hlt)).trans hT
    have new : ObjOk X.prog X.w (upd H s.heap.objs.size (.tup [.ref x.2.1, x.2.2])) h'' s.heap.objs.size (.tup [.ref x.2.1, x.2.2]) :=
      ⟨by show 2 ≤ sizeLine; decide, [es'[i].key, es'[i].val], .cons (by rw [q1]; rfl) (.cons q2 .nil), ⟨_, hT2, rfl, _, rfl⟩⟩
    have I1 : Inv X pins σ (upd H s.heap.objs.size (.tup [.ref x.2.1, x.2.2])) { s with heap := h'' } :=
      I.turnedNew (t' := s.toks) (ch := [it]) (fun b ob hb e => (sb.2 b (by simpa using hb)).trans (hk b ob (by simpa using hb) e)) hf (Nat.le_refl _) new
    refine ⟨.ref s.heap.objs.size, _, I1, rfl, ⟨_, x, hxi, rfl, I.hok.fresh (Nat.le_refl _), rfl⟩, ⟨_, _, he'⟩, fun b hb => ?_⟩
    have e : b = it := by simpa using hb
    rw [e, upd_ne (Nat.ne_of_lt hlt)]
    exact (hf it (by simp)).1
  done := by
    intro X hP hw hK hc i pins s σ H E I hf st hg
    subst hP hw hK
    obtain ⟨hd, hi⟩ := hg
    obtain ⟨f0, f1, f2, f3, f4, f5⟩ := hf it (by simp)
    obtain ⟨hs, ys, es', ep', d3, hgd, hx, hdt, hsz, e4⟩ := Inv.frzD I hd
    obtain ⟨rfl, rfl⟩ := dict_ep hod hdt
    obtain ⟨ok, ov, he⟩ := st
    have hge : es'.size ≤ i := by omega
    exact wpAny_pyNext_items_end_raw (I.ok.hd hc) he ⟨_, hgd, hx, hdt⟩ hge fun h' eb => ⟨rfl, I.turned (t' := s.toks) (fun b ob hb e => eb b ob hb e) f0 f1 f3 f4 f5⟩
  self := fun A i s Q E st h => let ⟨_, _, e⟩ := st; PySem.W.kcp_self e h
end
def iDk (k : Nat) (P : Program) (w : World) (td : TE) : TI := fun σ H R => td σ H fun v H1 => ∃ d xs, v = .ref d ∧ H1 d = some (dkO P w d xs) ∧ ∀ od, R (ItD k P w d od xs) (upd H1 d (.frz od (dkO P w d xs)))
section
variable {X : Cx} {tg e : Expr} {td : TE} {apos cpos : Pos}
theorem pi_dk0 (he : PE X e td) : PI X tg e (iDk 0 X.prog X.w td) := by
  refine ⟨fun pins s σ H R I h => ?_⟩
  refine thn (he.run pins s σ H _ I h) fun u s1 ⟨x, H1, I0, rx, d, xs, ex, hd0, q⟩ => ?_
  subst ex
  obtain rfl : u = Value.ref d := rx
  obtain ⟨od, I1⟩ := Inv.lock I0 hd0 True.intro
  obtain ⟨hs, ys, es, ep, d3, hgd, hx, hdt, hsz, e4⟩ := Inv.frzD I1 upd_same
  exact iter_keys hs hgd hx hdt (pi_one (tk := s1.toks) I1 _ (turn_dk0 _ hdt) ⟨_, Heap.get?_push_size _ rfl, rfl, rfl⟩ (q od))
theorem pi_dk1 (he : PE X e td) (hbase : attributeBase e "values" X.env (eval e X.env) = eval e X.env) (hline : (apos.endLine == cpos.line) = true) : PI X tg (.Call (.Attribute e "values" apos) [] [] cpos) (iDk 1 X.prog X.w td) := by
  refine ⟨fun pins s σ H R I h => ?_⟩
  refine wpAny_Call_method (T := "dict") (id := "dict.values") hbase rfl hline F.plainAttrs_dict F.slot_dict_values F.type_dict_values (thn (he.run pins s σ H _ I h) fun u s1 ⟨x, H1, I0, rx, d, xs, ex, hd0, q⟩ => ?_)
  subst ex
  obtain rfl : u = Value.ref d := rx
  obtain ⟨od, I1⟩ := Inv.lock I0 hd0 True.intro
  obtain ⟨hs, ys, es, ep, d3, hgd, hx, hdt, hsz, e4⟩ := Inv.frzD I1 upd_same
  have raw : s1.heap.DictRaw d es ep := ⟨_, hgd, hx, hdt⟩
  refine ⟨raw.typeIs, fun a ea => by cases ea; exact ⟨_, hgd, hx.2.1⟩, ?_⟩
  have I2 : Inv X pins σ (upd H1 d (.frz od (dkO X.prog X.w d xs))) { s1 with heap := s1.heap.push { cls := .type "dict_values", data := .fields #[.ref d] } } := I1.kept (t' := s1.toks) fun b ob q => Heap.get?_push_of_some _ q
  have fin : wpAny (model X.prog X.w) X.A (pyIter (.ref s1.heap.objs.size)) (PIE X pins σ tg R) X.xe { s1 with heap := s1.heap.push { cls := .type "dict_values", data := .fields #[.ref d] } } :=
    wpAny_pyIter_values_raw (d := d) ⟨_, Heap.get?_push_size _ rfl, rfl, rfl⟩ (raw.at fun o e => Heap.get?_push_of_some _ e) (pi_one (tk := s1.toks) I2 _ (turn_dk1 _ hdt) ⟨_, Heap.get?_push_size _ rfl, rfl, rfl⟩ (q od))
  show wpAny _ _ (callWith cpos (.builtin "dict.values") [.ref d] [] []) _ X.xe s1
  exact method_meetsIn F.slot_dict_values F.entry_dict_values rfl (PySem.evalArgs_none ⟨rfl, raw.typeIs, F.args_dict_values_1 _, _, meets_dict_values_raw d hs, ⟨_, _, raw⟩, fin⟩)
theorem pi_dk2 {elts : List Expr} {kk : Nat} {tpos : Pos} (he : PE X e td) (hbase : attributeBase e "items" X.env (eval e X.env) = eval e X.env) (hline : (apos.endLine == cpos.line) = true) :
    PI X (.Tuple elts kk tpos) (.Call (.Attribute e "items" apos) [] [] cpos) (iDk 2 X.prog X.w td) := by
  refine ⟨fun pins s σ H R I h => ?_⟩
  refine wpAny_Call_method (T := "dict") (id := "dict.items") hbase rfl hline F.plainAttrs_dict F.slot_dict_items F.type_dict_items (thn (he.run pins s σ H _ I h) fun u s1 ⟨x, H1, I0, rx, d, xs, ex, hd0, q⟩ => ?_)
  subst ex
  obtain rfl : u = Value.ref d := rx
  obtain ⟨od, I1⟩ := Inv.lock I0 hd0 True.intro
  obtain ⟨hs, ys, es, ep, d3, hgd, hx, hdt, hsz, e4⟩ := Inv.frzD I1 upd_same
  have raw : s1.heap.DictRaw d es ep := ⟨_, hgd, hx, hdt⟩
  refine ⟨raw.typeIs, fun a ea => by cases ea; exact ⟨_, hgd, hx.2.1⟩, ?_⟩
  have I2 : Inv X pins σ (upd H1 d (.frz od (dkO X.prog X.w d xs))) { s1 with heap := s1.heap.push { cls := .type "dict_items", data := .fields #[.ref d] } } := I1.kept (t' := s1.toks) fun b ob q => Heap.get?_push_of_some _ q
  have fin : wpAny (model X.prog X.w) X.A (pyIter (.ref s1.heap.objs.size)) (PIE X pins σ (.Tuple elts kk tpos) R) X.xe { s1 with heap := s1.heap.push { cls := .type "dict_items", data := .fields #[.ref d] } } :=
    wpAny_pyIter_items_raw (d := d) ⟨_, Heap.get?_push_size _ rfl, rfl, rfl⟩ (raw.at fun o e => Heap.get?_push_of_some _ e) (pi_one (tk := s1.toks) I2 _ (turn_dk2 _ hdt) ⟨.none, .none, Heap.get?_push_size _ rfl⟩ (q od))
  show wpAny _ _ (callWith cpos (.builtin "dict.items") [.ref d] [] []) _ X.xe s1
  exact method_meetsIn F.slot_dict_items F.entry_dict_items rfl (PySem.evalArgs_none ⟨rfl, raw.typeIs, F.args_dict_items_1 _, _, meets_dict_items_raw d hs, ⟨_, _, raw⟩, fin⟩)
end
end Ev

namespace Ev
open PySem L2
section
variable {C : Cfg}
theorem snd_nil : SndA C .nil := by
  intro X S es F h
  unfold chk at h
  split at h
  · refine ⟨pa_nil.weak fun σ H Q ⟨ρ, sp, hh, R, r, p⟩ => ?_, rfl⟩
    unfold ev at p
    exact p.of_ok R [] rfl
  · cases h
theorem snd_cons {a : T .e} {as : T .a} (ha : SndE C a) (hs : SndA C as) : SndA C (.cons a as) := by
  intro X S es F h
  unfold chk at h
  split at h
  · simp only [Bool.and_eq_true, Bool.not_eq_true'] at h
    obtain ⟨h2, h3⟩ := hs X S _ F h.1.2
    refine ⟨(pa_cons (ha X S _ F h.1.1) h2 (starEach_cons h.2)).weak fun σ H Q ⟨ρ, sp, hh, R, r, p⟩ => ?_, by simp [h.2, h3]⟩
    unfold ev at p
    refine tE.bind R r p fun x ρ1 h1 H1 v st R1 r1 hv p1 => ?_
    refine tA.bind R1 r1 p1 fun y ρ2 h2 H2 w st2 R2 r2 hw p2 => ?_
    exact p2.of_ok R2 _ (Rvs.cons (hv.ext (R1.ext st2)) hw)
  · cases h
theorem chk_nonempty {S : SC} {as : T .a} (h : chk S as [] = true) : as = .nil := by
  cases as with
  | nil => rfl
  | cons a as => simp [chk] at h
theorem attrBase {o : Expr} {name : Str} {env : Env} {v : Sem Value} (h : (match o with | .Call (.Name ..) [] [] _ => false | _ => true) = true) : attributeBase o name env v = v := by
  unfold attributeBase
  split <;> first
    | rfl
    | (cases h; done)
    | (simp_all; done)
theorem make_sp {K : Kw} {C C1 : Cfg} {g g1 : Nat} {c : Str} {ρ : List Addr} {h : Hea} {H : Hp} {xs : List P} {vs : List V} {Q : VK} {n : Nat} (e : ∀ xs h, C.call g xs h = (C1.call g1 (.ref h.length :: xs) (h ++ [.ins c []])).bind fun v h' => if v = .non then .ok (.ref h.length) h' else .stk)
    (R : Rep K ρ h H) (hv : Rvs K ρ H xs vs) (hl : xs.length + 1 = n) (p : Post K EX0 (C.call g xs h) ρ H fun a ρ' h' H' => ∀ v, Rv K ρ' H' a v → Q v H') :
    ∀ y dx, H y = none → H dx = none → dx ≠ y → spC K EX0 C1 g1 n (.ref y :: vs) (upd (upd H dx (.own y)) y (.ins (He.ga K.K c) dx [])) (fun v H2 => v = .non ∧ Q (.ref y) H2) E0 := by
  intro y dx hy hd hne
  obtain ⟨st1, R1⟩ := R.laid (u := .own y) hd
  have hy1 : upd H dx (.own y) y = none := by rw [upd_ne (Ne.symm hne)]; exact hy
  obtain ⟨st2, R2⟩ := R1.push (u := .ins (He.ga K.K c) dx []) (o := .ins c []) hy1 ⟨dx, [], upd_same, rfl⟩
  have st := st1.trans st2
  have hlen : ρ.length = h.length := R.len.symm
  have at_ : (ρ ++ [y])[h.length]? = some y := by rw [List.getElem?_append_right (by omega), hlen, Nat.sub_self]; rfl
  refine ⟨by rw [List.length_cons, hv.length]; exact hl, _, _, .ref h.length :: xs, R2, Rvs.cons ⟨y, at_, rfl⟩ (hv.ext (R.ext st)), ?_⟩
  rw [e] at p
  refine (p.step st).bind.imp fun a ρ' h' H' st' R' ⟨_, _, p2⟩ v hv2 => ?_
  obtain ⟨ea, p3⟩ := p2.ite
  subst ea
  exact ⟨hv2, p3.of_ok R' (.ref y) ⟨y, st'.pre _ _ at_, rfl⟩⟩
theorem snd_call {g : Nat} {as : T .a} (ha : SndA C as) : SndE C (.call g as) := by
  intro X S e F h
  unfold chk at h
  split at h
  · rename_i x px es pos
    simp only [Bool.and_eq_true, Bool.or_eq_true, decide_eq_true_eq] at h
    obtain ⟨⟨h1, h2⟩, h3⟩ := h
    obtain ⟨hg, hn⟩ := F.gl h1
    obtain ⟨hA, hst⟩ := ha X S _ F h3
    rcases h2 with h2 | ⟨h2, hne⟩
    · obtain ⟨f, fd, ps, k, hm, hk, hb, hF, hr, hz⟩ := F.defs x g h2
      have key : ∀ σ H Q, tE C X.kw EX0 (.call g as) σ H Q → tA C X.kw EX0 as σ H (fun vs H1 => spC X.kw EX0 C g ps.length vs H1 Q E0) := by
        intro σ H Q ⟨ρ, sp, hh, R, r, p⟩
        unfold ev at p
        refine tA.bind R r p fun xs ρ1 h1 H1 vs st R1 r1 hv p1 => ?_
        by_cases hl : xs.length = ps.length
        · exact ⟨hv.length.trans hl, ρ1, h1, xs, R1, hv, p1⟩
        · have hz := hz xs h1 hl
          have p1' : Post X.kw EX0 (C.call g xs h1) ρ1 H1 _ := p1
          rw [hz] at p1'
          exact p1'.elim
      cases es with
      | nil =>
        refine (pe_callG0 hF F.gd hr hg hm hk hb pass0 (okName_d hn).1).weak fun σ H Q q => ?_
        have e := chk_nonempty h3
        subst e
        obtain ⟨ρ, sp, hh, R, r, p⟩ := key σ H Q q
        unfold ev at p
        exact p.of_ok R [] rfl
      | cons e es =>
        simp only [List.any_cons, Bool.or_eq_false_iff] at hst
        exact (pe_callG hF F.gd hr hg hm hk hb pass0 hA (okName_d hn).1 (starEach_cons hst.1) (starEach_any hst.2)).weak key
    · cases es with
      | nil => cases hne
      | cons e es =>
        simp only [List.any_cons, Bool.or_eq_false_iff] at hst
        obtain ⟨f, hm, hM, hz | ⟨C1, g1, fd, ps, k, he, hb, hF, hr, hz⟩⟩ := F.mkrs x g h2
        · refine (pe_makeF hM hg hm hA (okName_d hn).1 (starEach_cons hst.1) (starEach_any hst.2)).weak fun σ H Q ⟨ρ, sp, hh, R, r, p⟩ => ?_
          unfold ev at p
          refine tA.bind R r p fun xs ρ1 h1 H1 vs st R1 r1 hv p1 => ?_
          have p1' : Post X.kw EX0 (C.call g xs h1) ρ1 H1 _ := p1
          rw [hz] at p1'
          exact p1'.elim
        · refine (pe_makeG hM hF F.gd hr hg hm hb pass0 hA (okName_d hn).1 (starEach_cons hst.1) (starEach_any hst.2)).weak fun σ H Q ⟨ρ, sp, hh, R, r, p⟩ => ?_
          unfold ev at p
          refine tA.bind R r p fun xs ρ1 h1 H1 vs st R1 r1 hv p1 => ?_
          by_cases hl : xs.length + 1 = ps.length
          · exact make_sp he R1 hv hl p1
          · have hz := hz (.ref h1.length :: xs) (h1 ++ [.ins x []]) (by simpa using hl)
            have p1' : Post X.kw EX0 (C.call g xs h1) ρ1 H1 _ := p1
            rw [he, hz] at p1'
            exact p1'.elim
  · cases h
theorem fld_at {K : Kw} {ρ : List Addr} {h : Hea} {H : Hp} {c f : Str} {x : P} {v : V} {q : P} (R : Rep K ρ h H) (hv : Rv K ρ H x v) (e : fldV c x f h = some q) : ∃ a dx fs w, v = .ref a ∧ H a = some (.ins (He.ga K.K c) dx fs) ∧ fs.lookup f = some w ∧ Rv K ρ H q w := by
  unfold fldV at e
  split at e
  · split at e
    · rename_i c' fs hl
      split at e
      · rename_i ec
        subst ec
        obtain ⟨a, ha, rfl⟩ := hv
        obtain ⟨a', ha', dx, vs, e3, fr⟩ := R.idx hl
        rw [ha] at ha'; cases ha'
        have := fr.lookup (f := f)
        rw [e] at this
        obtain ⟨w, hw, rw_⟩ := this
        exact ⟨a, dx, vs, w, rfl, e3, hw, rw_⟩
      · cases e
    · cases e
  · cases e
theorem ins_at {K : Kw} {ρ : List Addr} {h : Hea} {H : Hp} {c m : Str} {x : P} {v : V} (R : Rep K ρ h H) (hv : Rv K ρ H x v) (e : insOk c m x h = true) : ∃ a dx fs, v = .ref a ∧ H a = some (.ins (He.ga K.K c) dx fs) ∧ fs.lookup m = none := by
  unfold insOk at e
  split at e
  · split at e
    · rename_i c' fs hl
      simp only [Bool.and_eq_true, decide_eq_true_eq, Option.isNone_iff_eq_none] at e
      obtain ⟨rfl, e⟩ := e
      obtain ⟨a, ha, rfl⟩ := hv
      obtain ⟨a', ha', dx, vs, e3, fr⟩ := R.idx hl
      rw [ha] at ha'; cases ha'
      have := fr.lookup (f := m)
      rw [e] at this
      exact ⟨a, dx, vs, rfl, e3, this⟩
    · cases e
  · cases e
theorem snd_fld {c f : Str} {a : T .e} (ha : SndE C a) : SndE C (.fld c a f) := by
  intro X S e F h
  unfold chk at h
  split at h
  · rename_i x name pos
    simp only [Bool.and_eq_true, decide_eq_true_eq] at h
    obtain ⟨⟨⟨h1, h2⟩, h3⟩, h4⟩ := h
    subst h1
    obtain ⟨c1, n1⟩ := F.flds _ _ h2
    refine (pe_fld (ha X S _ F h3) (attrBase h4)).weak fun σ H Q ⟨ρ, sp, hh, R, r, p⟩ => ?_
    unfold ev at p
    refine tE.bind R r p fun x ρ1 h1 H1 v st R1 r1 hv p1 => ?_
    obtain ⟨q, e1, p2⟩ := p1.of_R R1
    obtain ⟨a, dx, fs, w, rfl, e3, hw, rw_⟩ := fld_at R1 hv e1
    exact ⟨a, _, dx, fs, w, rfl, e3, c1, n1, hw, p2 w rw_⟩
  · cases h
theorem snd_meth {c m : Str} {g : Nat} {o : T .e} {as : T .a} (ho : SndE C o) (ha : SndA C as) : SndE C (.meth c m g o as) := by
  intro X S e F h
  unfold chk at h
  split at h
  · rename_i x name ap es cp
    simp only [Bool.and_eq_true, decide_eq_true_eq] at h
    obtain ⟨⟨⟨⟨⟨⟨h1, h2⟩, h3⟩, h4⟩, h5⟩, h6⟩, h7⟩ := h
    subst h1
    obtain ⟨hA, hst⟩ := ha X S _ F h4
    obtain ⟨f, fd, ps, k, hC, hM, hb, hF, hr, hz⟩ := F.mths _ _ _ h2
    have key : ∀ σ H Q, tE C X.kw EX0 (.meth c name g o as) σ H Q → tE C X.kw EX0 o σ H fun y H1 => ∃ a dx fs, y = .ref a ∧ H1 a = some (.ins (He.ga X.K c) dx fs) ∧ fs.lookup name = none ∧ tA C X.kw EX0 as σ H1 fun vs H2 => spC X.kw EX0 C g ps.length (y :: vs) H2 Q E0 := by
      intro σ H Q ⟨ρ, sp, hh, R, r, p⟩
      unfold ev at p
      refine tE.bind R r p fun x ρ1 h1 H1 v st R1 r1 hv p1 => ?_
      obtain ⟨c1, p1⟩ := p1.ite
      obtain ⟨a, dx, fs, rfl, e3, e4⟩ := ins_at R1 hv c1
      refine ⟨a, dx, fs, rfl, e3, e4, tA.bind R1 r1 p1 fun xs ρ2 h2 H2 vs st2 R2 r2 hvs p2 => ?_⟩
      have hv2 : Rvs X.kw ρ2 H2 (x :: xs) (.ref a :: vs) := Rvs.cons (hv.ext (R1.ext st2)) hvs
      by_cases hl : (x :: xs).length = ps.length
      · exact ⟨hv2.length.trans hl, ρ2, h2, x :: xs, R2, hv2, p2⟩
      · have hz := hz (x :: xs) h2 hl
        have p2' : Post X.kw EX0 (C.call g (x :: xs) h2) ρ2 H2 _ := p2
        rw [hz] at p2'
        exact p2'.elim
    have hform : methodCallForm (es.length + 0) (backTo cp (starEach es X.env)) (backToKw cp (keywordEach [] X.env)) = true := by
      unfold methodCallForm
      rw [starEach_all hst]
      simp [keywordEach, backToKw]
      omega
    cases es with
    | nil =>
      have e := chk_nonempty h4
      subst e
      refine (pe_methG0 (ho X S _ F h3) hC hM hF F.gd hr hb pass0 (attrBase h7) hform h6).weak fun σ H Q q => ?_
      obtain ⟨ρ, sp, hh, R, r, p⟩ := key σ H Q q
      refine ⟨ρ, sp, hh, R, r, p.imp fun a ρ' h' H' st R' p' v hv => ?_⟩
      obtain ⟨a, dx, fs, e1, e2, e3, q⟩ := p' v hv
      obtain ⟨ρ3, sp3, h3, R3, r3, p3⟩ := q
      unfold ev at p3
      exact ⟨a, dx, fs, e1, e2, e3, p3.of_ok R3 [] rfl⟩
    | cons e es =>
      simp only [List.any_cons, Bool.or_eq_false_iff] at hst
      exact (pe_methG (ho X S _ F h3) hC hM hF F.gd hr hb pass0 hA (starEach_cons hst.1) (starEach_any hst.2) (attrBase h7) hform h6).weak key
  · cases h
theorem boot_ty (b : Blt) (h : bltOk b = true) : (∃ id, (bltName b).2 = (false, id) ∧ bootBuiltins (bltName b).1 = some (.builtin id)) ∨ ∃ T, (bltName b).2 = (true, T) ∧ bootBuiltins (bltName b).1 = some (.type T) := by
  cases b <;> first
    | (cases h; done)
    | exact .inl ⟨_, rfl, by decide +kernel⟩
    | exact .inr ⟨_, rfl, by decide +kernel⟩
theorem snd_blt {b : Blt} {as : T .a} (ha : SndA C as) : SndE C (.blt b as) := by
  intro X S e F h
  unfold chk at h
  split at h
  · rename_i x px a es pos
    simp only [Bool.and_eq_true, decide_eq_true_eq] at h
    obtain ⟨⟨⟨⟨h0, h1⟩, h2⟩, h4⟩, h3⟩ := h
    obtain ⟨hg, hn⟩ := F.gl h1
    obtain ⟨hA, hst⟩ := ha X S _ F h3
    simp only [List.any_cons, Bool.or_eq_false_iff] at hst
    have hm := F.blts x h4
    obtain ⟨d1, d2, d3⟩ := okName_d hn
    have key : ∀ σ H Q, tE C X.kw EX0 (.blt b as) σ H Q → tCB (rBlt X.kw b) (tA C X.kw EX0 as) σ H Q := by
      intro σ H Q ⟨ρ, sp, hh, R, r, p⟩
      unfold ev at p
      exact tA.bind R r p fun xs ρ1 h1 H1 vs st R1 r1 hv p1 => ⟨EX0, ρ1, h1, xs, R1, hv, p1⟩
    rcases boot_ty b h0 with ⟨id, e1, e2⟩ | ⟨T, e1, e2⟩
    · rw [← h2] at e2
      cases b <;> first
        | (cases h0; done)
        | (cases e1; done)
        | (cases e1; exact (pe_callB cr_len hg hm e2 hA d3 d1 (starEach_cons hst.1) (starEach_any hst.2)).weak key)
        | (cases e1; exact (pe_callB (cr_repr F.gd F.hu) hg hm e2 hA d3 d1 (starEach_cons hst.1) (starEach_any hst.2)).weak key)
        | (cases e1; exact (pe_callB (cr_sorted F.calm F.hu) hg hm e2 hA d3 d1 (starEach_cons hst.1) (starEach_any hst.2)).weak key)
        | (cases e1; exact (pe_callB (cr_anyB F.calm) hg hm e2 hA d3 d1 (starEach_cons hst.1) (starEach_any hst.2)).weak key)
        | (cases e1; exact (pe_callB (cr_allB F.calm) hg hm e2 hA d3 d1 (starEach_cons hst.1) (starEach_any hst.2)).weak key)
        | (cases e1; exact (pe_callB cr_isi hg hm e2 hA d3 d1 (starEach_cons hst.1) (starEach_any hst.2)).weak key)
        | (cases e1; exact (pe_callB (cr_sum F.calm) hg hm e2 hA d3 d1 (starEach_cons hst.1) (starEach_any hst.2)).weak key)
        | (cases e1; exact (pe_callB cr_abs hg hm e2 hA d3 d1 (starEach_cons hst.1) (starEach_any hst.2)).weak key)
        | (cases e1; exact (pe_callB (cr_max1 F.calm) hg hm e2 hA d3 d1 (starEach_cons hst.1) (starEach_any hst.2)).weak key)
        | (cases e1; exact (pe_callB (cr_min1 F.calm) hg hm e2 hA d3 d1 (starEach_cons hst.1) (starEach_any hst.2)).weak key)
        | (cases e1; exact (pe_callB (cr_max2 F.calm) hg hm e2 hA d3 d1 (starEach_cons hst.1) (starEach_any hst.2)).weak key)
        | (cases e1; exact (pe_callB (cr_min2 F.calm) hg hm e2 hA d3 d1 (starEach_cons hst.1) (starEach_any hst.2)).weak key)
    · rw [← h2] at e2
      cases b <;> first
        | (cases h0; done)
        | (cases e1; done)
        | (cases e1; exact (pe_callTy cr_int hg hm e2 hA d3 d1 (starEach_cons hst.1) (starEach_any hst.2)).weak key)
        | (cases e1; exact (pe_callTy (cr_list F.calm) hg hm e2 hA d3 d1 (starEach_cons hst.1) (starEach_any hst.2)).weak key)
        | (cases e1; exact (pe_callTy (cr_dict F.calm) hg hm e2 hA d3 d1 (starEach_cons hst.1) (starEach_any hst.2)).weak key)
        | (cases e1; exact (pe_callTy cr_tuple hg hm e2 hA d3 d1 (starEach_cons hst.1) (starEach_any hst.2)).weak key)
  · cases h
theorem ty_list {K : Kw} {ρ : List Addr} {h : Hea} {H : Hp} {l : Nat} {xs : List P} {x : V} (R : Rep K ρ h H) (e : h[l]? = some (.lst xs)) (hx : Rv K ρ H (.ref l) x) : tyV K "list" x H := by
  obtain ⟨a, ha, rfl⟩ := hx
  obtain ⟨a', vs, ha', h1, _⟩ := R.lst e
  rw [ha] at ha'; cases ha'
  exact .inl ⟨rfl, vs, SqL.of h1⟩
theorem rcv_list {K : Kw} {ρ : List Addr} {h : Hea} {H : Hp} {m : Bmt} {p : P} {x : V} (R : Rep K ρ h H) (hm : bmtOk m = true) (e : rcvOk m p h = true) (hx : Rv K ρ H p x) : tyV K "list" x H := by
  unfold rcvOk at e
  split at e
  all_goals first
    | (cases e; done)
    | (split at e
       · exact ty_list R ‹_› hx
       · cases e)
theorem snd_rev {a : T .e} (ha : SndE C a) : SndE C (.rev a) := by
  intro X S e F h
  unfold chk at h
  split at h
  · refine (pe_revL (ha X S _ F h)).weak fun σ H Q ⟨ρ, sp, hh, R, r, p⟩ => ?_
    unfold ev at p
    refine tE.bind R r p fun x ρ1 h1 H1 v st R1 r1 hv p1 => ?_
    unfold revV at p1
    split at p1
    · obtain ⟨a, vs, rfl, hs, hvs⟩ := hv
      exact ⟨a, vs, rfl, hs.sq, Post.lst R1 hvs.reverse p1⟩
    · obtain ⟨a, ha', rfl⟩ := hv
      split at p1
      · rename_i xs hx
        obtain ⟨a', vs, ha2, hl, hvs⟩ := R1.lst hx
        rw [ha'] at ha2; cases ha2
        exact ⟨a, vs, rfl, SqL.of hl, Post.lst R1 hvs.reverse p1⟩
      · exact p1.elim
    · exact p1.elim
  · cases h
def tBD (T : String) (K : Kw) (r : V → List V → Hp → VK → Prop) (to : TE) (t : TA) : TE := fun σ H Q => to σ H fun x H1 => (∃ d xs, x = .ref d ∧ H1 d = some (dkO K.P K.w d xs)) ∧ t σ H1 fun xs H2 => r x xs H2 Q
theorem pe_bmD {X : Cx} {T id : String} {name : Str} {o e : Expr} {es : List Expr} {to : TE} {t : TA} {apos cpos : Pos} {r : V → List V → Hp → VK → Prop} (eT : T = "dict") (pa : PlainAttrs T) (slot : Slot T name id) (hty : typeOf (.builtin id) = pure (.type "method_descriptor")) (hm : MtR X id r) (ho : PE X o to) (ha : PA X (e :: es) t)
    (hbase : attributeBase o name X.env (eval o X.env) = eval o X.env)
    (hfew : ((backTo cpos (starEach (e :: es) X.env)).all (fun x => !x.1) && (backToKw cpos (keywordEach [] X.env)).all (fun x => x.1.isSome)
      && decide ((e :: es).length + ([] : List Keyword).length + (if ([] : List Keyword).isEmpty then 0 else 1) < 30)) = true)
    (hline : (apos.endLine == cpos.line) = true) (hs : starEach (e :: es) X.env = (false, eval e X.env) :: starEach es X.env) (hplain : (backTo cpos (starEach es X.env)).any (·.1) = false) :
    PE X (.Call (.Attribute o name apos) (e :: es) [] cpos) (tBD T X.kw r to t) := by
  refine ⟨fun pins s σ H Q I h => ?_⟩
  refine wpAny_Call_method_late hbase hfew hline rfl (thn (ho.run pins s σ H _ I h) fun v s1 ⟨x, H1, I1, r1, ty, q1⟩ => ?_)
  obtain ⟨d, dx, rfl, hd⟩ := ty
  cases r1
  obtain ⟨⟨_, _, _, _, ⟨ob, _, _, g1, g2, _, _⟩, _⟩, _⟩ := I1.hok d _ hd
  refine ⟨T, id, pa, slot, hty, ⟨ob, g1, by rw [eT]; exact g2.1⟩, fun a ea => by cases ea; exact ⟨ob, g1, g2.2.1⟩, ?_⟩
  have hA := ha.run cpos pins s1 σ H1 _ I1 q1
  rw [hs] at hA ⊢
  refine Calls.callWith_builtin (by show (false || (backTo cpos (starEach es X.env)).any (·.1)) = false; rw [hplain] <;> rfl) (Calls.evalArgs_plain ?_)
  exact thn hA fun us s2 ⟨vs, H2, I2, r2, q2⟩ => hm pins s2 σ H2 (.ref d) vs (.ref d) us Q I2 rfl r2 q2
def rDget (K : Kw) : V → List V → Hp → VK → Prop := fun x xs H Q => ∃ (EX : EX1) (ρ : List Addr) (h : Hea) (p : P) (ps : List P), Rep K ρ h H ∧ Rv K ρ H p x ∧ Rvs K ρ H ps xs ∧ Val K EX (R.of (dgetV p ps h) h) ρ H Q
theorem mt_dget {X : Cx} (hu : X.A.units + 200 < cLine) : MtR X "dict.get" (rDget X.kw) := by
  intro pins s σ H x xs v us Q I rx rxs ⟨EX, ρ, h, p, ps, R, hp, hps, post⟩
  obtain ⟨z, e1, q⟩ := post.of_R R
  unfold dgetV at e1
  split at e1
  · split at e1
    · rename_i l k _ kvs hl
      split at e1
      · rename_i hk
        cases e1
        obtain ⟨a, ha, ro⟩ := R.dic hl
        obtain ⟨a', ha', rfl⟩ := hp
        rw [ha] at ha'; cases ha'
        cases rx
        obtain ⟨dx, ys, e, dk, d3, d1, d2, dd⟩ := dic_open I ro
        obtain ⟨y, rfl, hy⟩ := rvs_one hps
        obtain ⟨u, rfl, ru⟩ := rxs.one
        obtain ⟨b, rfl⟩ := key_ref hk hy
        cases ru
        refine PySem.call_meetsIn PySem.F.slot_dict_get dd.typeIs PySem.F.entry_dict_get (PySem.F.args_dict_get_2 _ _) (PySem.meetsH_dict_get (nestedKind X.prog X.w) a b d1) ⟨room8' (X := X) (by exact hu), nkey k, ys, key_is I hk hy, dd, ?_⟩
        have hh := dk.has hk d3
        cases hg : kvGet kvs k with
        | none =>
          rw [hg] at q
          have : (atKey ys (nkey k)).isSome = false := by rw [hh]; exact kvHas_none hg
          cases ha2 : atKey ys (nkey k) with
          | some _ => rw [ha2] at this; cases this
          | none => exact ⟨.non, H, I.tok _, rfl, q _ rfl⟩
        | some c =>
          rw [hg] at q
          obtain ⟨b2, u2, w2, f1, f2, f3⟩ := dk.get hk d3 hg
          rw [f1]
          exact ⟨w2, H, I.tok _, f2, q _ f3⟩
      · cases e1
    · cases e1
  · split at e1
    · rename_i l k d _ kvs hl
      split at e1
      · rename_i hk
        cases e1
        obtain ⟨a, ha, ro⟩ := R.dic hl
        obtain ⟨a', ha', rfl⟩ := hp
        rw [ha] at ha'; cases ha'
        cases rx
        obtain ⟨dx, ys, e, dk, d3, d1, d2, dd⟩ := dic_open I ro
        obtain ⟨y, r, rfl, hy, hr⟩ := hps
        obtain ⟨y2, rfl, hy2⟩ := rvs_one hr
        cases rxs with
        | @cons _ u _ us' ru rr =>
        obtain ⟨u2, rfl, ru2⟩ := (show Vals [y2] us' from rr).one
        obtain ⟨b, rfl⟩ := key_ref hk hy
        cases ru
        refine PySem.call_meetsIn PySem.F.slot_dict_get dd.typeIs PySem.F.entry_dict_get (PySem.F.args_dict_get_3 _ _ _) (PySem.meetsH_dict_get_default (nestedKind X.prog X.w) a b d1 u2) ⟨room8' (X := X) (by exact hu), nkey k, ys, key_is I hk hy, dd, ?_⟩
        have hh := dk.has hk d3
        cases hg : kvGet kvs k with
        | none =>
          rw [hg] at q
          have : (atKey ys (nkey k)).isSome = false := by rw [hh]; exact kvHas_none hg
          cases ha2 : atKey ys (nkey k) with
          | some _ => rw [ha2] at this; cases this
          | none => exact ⟨_, H, I.tok _, ru2, q _ hy2⟩
        | some c =>
          rw [hg] at q
          obtain ⟨b2, u3, w2, f1, f2, f3⟩ := dk.get hk d3 hg
          rw [f1]
          exact ⟨w2, H, I.tok _, f2, q _ f3⟩
      · cases e1
    · cases e1
  · cases e1
theorem isDic_ok {K : Kw} {ρ : List Addr} {h : Hea} {H : Hp} {p : P} {x : V} (R : Rep K ρ h H) (e : isDic p h = true) (hx : Rv K ρ H p x) : ∃ d xs, x = .ref d ∧ H d = some (dkO K.P K.w d xs) := by
  unfold isDic at e
  split at e
  · split at e
    · rename_i l kvs hl
      obtain ⟨a, ha, rfl⟩ := hx
      obtain ⟨a', ha', xs, h1, _⟩ := R.dic hl
      rw [ha] at ha'; cases ha'
      exact ⟨a, xs, rfl, h1⟩
    · cases e
  · cases e
theorem snd_dget {o : T .e} {as : T .a} (ho : SndE C o) (ha : SndA C as) : SndE C (.dget o as) := by
  intro X S e F h
  unfold chk at h
  split at h
  · rename_i x name ap es cp
    simp only [Bool.and_eq_true, decide_eq_true_eq] at h
    obtain ⟨⟨⟨⟨⟨⟨h1, h2⟩, h3⟩, h4⟩, h4'⟩, h5⟩, h6⟩ := h
    obtain ⟨hA, hst⟩ := ha X S _ F h3
    subst h1
    have key : ∀ σ H Q, tE C X.kw EX0 (.dget o as) σ H Q → tBD "dict" X.kw (rDget X.kw) (tE C X.kw EX0 o) (tA C X.kw EX0 as) σ H Q := by
      intro σ H Q ⟨ρ, sp, hh, R, r, p⟩
      unfold ev at p
      refine tE.bind R r p fun x ρ1 h1 H1 v st R1 r1 hv p1 => ?_
      obtain ⟨c, p1⟩ := p1.ite
      exact ⟨isDic_ok R1 c hv, tA.bind R1 r1 p1 fun xs ρ2 h2 H2 vs st2 R2 r2 hvs p2 => ⟨EX0, ρ2, h2, x, xs, R2, hv.ext (R1.ext st2), hvs, p2⟩⟩
    cases es with
    | nil => simp at h4'
    | cons e es =>
      have hfew : ((backTo cp (starEach (e :: es) X.env)).all (fun x => !x.1) && (backToKw cp (keywordEach [] X.env)).all (fun x => x.1.isSome) && decide ((e :: es).length + ([] : List Keyword).length + (if ([] : List Keyword).isEmpty then 0 else 1) < 30)) = true := by
        rw [starEach_all hst]
        simp only [List.length_cons] at h4
        simp [keywordEach, backToKw]
        omega
      simp only [List.any_cons, Bool.or_eq_false_iff] at hst
      exact (pe_bmD rfl PySem.F.plainAttrs_dict PySem.F.slot_dict_get PySem.F.type_dict_get (mt_dget F.hu) (ho X S _ F h2) hA (attrBase h6) hfew h5 (starEach_cons hst.1) (starEach_any hst.2)).weak key
  · cases h
theorem snd_bmt {m : Bmt} {o : T .e} {as : T .a} (ho : SndE C o) (ha : SndA C as) : SndE C (.bmt m o as) := by
  intro X S e F h
  unfold chk at h
  split at h
  · rename_i x name ap es cp
    simp only [Bool.and_eq_true, decide_eq_true_eq] at h
    obtain ⟨⟨⟨⟨⟨⟨h0, h1⟩, h2⟩, h3⟩, h4⟩, h5⟩, h6⟩ := h
    obtain ⟨hA, hst⟩ := ha X S _ F h3
    subst h1
    have key : ∀ σ H Q, tE C X.kw EX0 (.bmt m o as) σ H Q → tBM X.kw "list" (rBmt X.kw m) (tE C X.kw EX0 o) (tA C X.kw EX0 as) σ H Q := by
      intro σ H Q ⟨ρ, sp, hh, R, r, p⟩
      unfold ev at p
      refine tE.bind R r p fun x ρ1 h1 H1 v st R1 r1 hv p1 => ?_
      obtain ⟨c, p1⟩ := p1.ite
      refine ⟨rcv_list R1 h0 c hv, tA.bind R1 r1 p1 fun xs ρ2 h2 H2 vs st2 R2 r2 hvs p2 => ⟨EX0, ρ2, h2, x, xs, R2, hv.ext (R1.ext st2), hvs, p2⟩⟩
    cases es with
    | nil =>
      have e := chk_nonempty h3
      subst e
      have key0 : ∀ σ H Q, tE C X.kw EX0 (.bmt m o .nil) σ H Q → tBM0 X.kw "list" (rBmt X.kw m) (tE C X.kw EX0 o) σ H Q := by
        intro σ H Q ⟨ρ, sp, hh, R, r, p⟩
        unfold ev at p
        refine tE.bind R r p fun x ρ1 h1 H1 v st R1 r1 hv p1 => ?_
        obtain ⟨c, p1⟩ := p1.ite
        unfold ev at p1
        have p2 : Post X.kw EX0 (bmtV m x [] h1) ρ1 H1 _ := p1
        exact ⟨rcv_list R1 h0 c hv, EX0, ρ1, h1, _, [], R1, hv, rfl, p2⟩
      cases m <;> first
        | (cases h0; done)
        | exact (pe_bm0 PySem.F.plainAttrs_list PySem.F.slot_list_append PySem.F.type_list_append mt_append (ho X S _ F h2) (attrBase h6) h5).weak key0
        | exact (pe_bm0 PySem.F.plainAttrs_list PySem.F.slot_list_extend PySem.F.type_list_extend mt_extend (ho X S _ F h2) (attrBase h6) h5).weak key0
        | exact (pe_bm0 PySem.F.plainAttrs_list PySem.F.slot_list_pop PySem.F.type_list_pop mt_pop (ho X S _ F h2) (attrBase h6) h5).weak key0
        | exact (pe_bm0 PySem.F.plainAttrs_list PySem.F.slot_list_count PySem.F.type_list_count mt_count (ho X S _ F h2) (attrBase h6) h5).weak key0
    | cons e es =>
      have hfew : ((backTo cp (starEach (e :: es) X.env)).all (fun x => !x.1) && (backToKw cp (keywordEach [] X.env)).all (fun x => x.1.isSome) && decide ((e :: es).length + ([] : List Keyword).length + (if ([] : List Keyword).isEmpty then 0 else 1) < 30)) = true := by
        rw [starEach_all hst]
        simp only [List.length_cons] at h4
        simp [keywordEach, backToKw]
        omega
      simp only [List.any_cons, Bool.or_eq_false_iff] at hst
      cases m <;> first
        | (cases h0; done)
        | exact (pe_bm PySem.F.plainAttrs_list PySem.F.slot_list_append PySem.F.type_list_append mt_append (ho X S _ F h2) hA (attrBase h6) hfew h5 (starEach_cons hst.1) (starEach_any hst.2)).weak key
        | exact (pe_bm PySem.F.plainAttrs_list PySem.F.slot_list_extend PySem.F.type_list_extend mt_extend (ho X S _ F h2) hA (attrBase h6) hfew h5 (starEach_cons hst.1) (starEach_any hst.2)).weak key
        | exact (pe_bm PySem.F.plainAttrs_list PySem.F.slot_list_pop PySem.F.type_list_pop mt_pop (ho X S _ F h2) hA (attrBase h6) hfew h5 (starEach_cons hst.1) (starEach_any hst.2)).weak key
        | exact (pe_bm PySem.F.plainAttrs_list PySem.F.slot_list_count PySem.F.type_list_count mt_count (ho X S _ F h2) hA (attrBase h6) hfew h5 (starEach_cons hst.1) (starEach_any hst.2)).weak key
  · cases h
end
end Ev

namespace Ev
open PySem L2
section
variable {C : Cfg}
theorem snd_tcmp {o : Cop} {a b : T .e} (ha : SndE C a) (hb : SndE C b) : SndT C (.tcmp o a b) := by
  intro X S e F h
  unfold chk at h
  split at h
  · simp only [Bool.and_eq_true, decide_eq_true_eq, Bool.not_eq_true'] at h
    obtain ⟨⟨⟨rfl, h1⟩, h2⟩, h3⟩ := h
    refine ⟨(pt_cmpR (op_cmp F.hu o) (ha X S _ F h1) (hb X S _ F h2) (nomarkB h3)).weak fun σ H Q ⟨ρ, sp, hh, R, r, p⟩ => ?_, fun _ _ _ z => by cases z⟩
    unfold ev at p
    refine tE.bind R r p fun x ρ1 h1 H1 v st R1 r1 hv p1 => ?_
    refine tE.bind R1 r1 p1 fun y ρ2 h2 H2 w st2 R2 r2 hw p2 => ?_
    obtain ⟨b, e1, q⟩ := p2.of_R R2
    exact ⟨ρ2, h2, x, y, b, R2, hv.ext (R1.ext st2), hw, e1, b, rfl, q⟩
  · cases h
theorem snd_tchn {o o' : Cop} {a b c : T .e} (ha : SndE C a) (hb : SndE C b) (hc : SndE C c) : SndT C (.tchn o o' a b c) := by
  intro X S e F h
  unfold chk at h
  split at h
  · simp only [Bool.and_eq_true, decide_eq_true_eq, Bool.not_eq_true'] at h
    obtain ⟨⟨⟨⟨⟨rfl, rfl⟩, h1⟩, h2⟩, h3⟩, h4⟩ := h
    refine ⟨(pt_chain (op_cmp F.hu o) (op_cmp F.hu o') (ha X S _ F h1) (hb X S _ F h2) (hc X S _ F h3) (lastM h4)).weak fun σ H Q ⟨ρ, sp, hh, R, r, p⟩ => ?_, fun _ _ _ z => by cases z⟩
    unfold ev at p
    refine tE.bind R r p fun x ρ1 h1 H1 v st R1 r1 hv p1 => ?_
    refine tE.bind R1 r1 p1 fun y ρ2 h2 H2 w st2 R2 r2 hw p2 => ?_
    obtain ⟨k, e1, _, _, p3⟩ := p2.bind.of_R R2
    refine ⟨ρ2, h2, x, y, k, R2, hv.ext (R1.ext st2), hw, e1, k, rfl, ?_⟩
    cases k with
    | false => exact ⟨false, rfl, p3.of_ok R2⟩
    | true =>
      refine tE.bind R2 r2 p3 fun z ρ3 h3 H3 u st3 R3 r3 hu p4 => ?_
      obtain ⟨k', e2, q⟩ := p4.of_R R3
      exact ⟨ρ3, h3, y, z, k', R3, hw.ext (R2.ext st3), hu, e2, k', rfl, q⟩
  · cases h
theorem tand_key {X : Cx} {a b : T .t} {x y : Expr} {r : List Expr} {p : Pos} (h1 : PT X x (tT C X.kw EX0 a)) (h2 : PW X (.BoolOp .And (y :: r) p) (tT C X.kw EX0 b)) : PW X (.BoolOp .And (x :: y :: r) p) (tT C X.kw EX0 (.tand a b)) := by
  refine (pw_and h1 h2).weak fun σ H Q ⟨ρ, sp, hh, R, r, p⟩ => ?_
  unfold ev at p
  refine tT.bind R r p fun k ρ1 h1 H1 st R1 r1 p1 => ?_
  cases k with
  | true => exact ⟨ρ1, sp, h1, R1, r1, p1⟩
  | false => exact p1.of_ok R1
theorem tor_key {X : Cx} {a b : T .t} {x y : Expr} {r : List Expr} {p : Pos} (h1 : PT X x (tT C X.kw EX0 a)) (h2 : PW X (.BoolOp .Or (y :: r) p) (tT C X.kw EX0 b)) : PW X (.BoolOp .Or (x :: y :: r) p) (tT C X.kw EX0 (.tor a b)) := by
  refine (pw_or h1 h2).weak fun σ H Q ⟨ρ, sp, hh, R, r, p⟩ => ?_
  unfold ev at p
  refine tT.bind R r p fun k ρ1 h1 H1 st R1 r1 p1 => ?_
  cases k with
  | true => exact p1.of_ok R1
  | false => exact ⟨ρ1, sp, h1, R1, r1, p1⟩
theorem snd_tand {a b : T .t} (ha : SndT C a) (hb : SndT C b) : SndT C (.tand a b) := by
  intro X S e F h
  unfold chk at h
  split at h
  · rw [Bool.and_eq_true] at h
    have k := tand_key (ha X S _ F h.1).1 (pw_and1 (pos := by assumption) (hb X S _ F h.2).1)
    exact ⟨k.pt, fun op vs p e => by cases e; exact k⟩
  · rw [Bool.and_eq_true] at h
    have k := tand_key (ha X S _ F h.1).1 ((hb X S _ F h.2).2 _ _ _ rfl)
    exact ⟨k.pt, fun op vs p e => by cases e; exact k⟩
  · cases h
theorem snd_tor {a b : T .t} (ha : SndT C a) (hb : SndT C b) : SndT C (.tor a b) := by
  intro X S e F h
  unfold chk at h
  split at h
  · rw [Bool.and_eq_true] at h
    have k := tor_key (ha X S _ F h.1).1 (pw_or1 (pos := by assumption) (hb X S _ F h.2).1)
    exact ⟨k.pt, fun op vs p e => by cases e; exact k⟩
  · rw [Bool.and_eq_true] at h
    have k := tor_key (ha X S _ F h.1).1 ((hb X S _ F h.2).2 _ _ _ rfl)
    exact ⟨k.pt, fun op vs p e => by cases e; exact k⟩
  · cases h
theorem snd_tnot {a : T .t} (ha : SndT C a) : SndT C (.tnot a) := by
  intro X S e F h
  unfold chk at h
  split at h
  · refine ⟨(pt_not (ha X S _ F h).1).weak fun σ H Q ⟨ρ, sp, hh, R, r, p⟩ => ?_, fun _ _ _ z => by cases z⟩
    unfold ev at p
    exact tT.bind R r p fun k ρ1 h1 H1 st R1 r1 p1 => p1.of_ok R1
  · cases h
theorem snd_tval {a : T .e} (ha : SndE C a) : SndT C (.tval a) := by
  intro X S e F h
  unfold chk at h
  rw [Bool.and_eq_true] at h
  refine ⟨(pt_truth (ha X S _ F h.2) (isTrue_plainT h.1)).weak fun σ H Q ⟨ρ, sp, hh, R, r, p⟩ => ?_, fun op vs p e => ?_⟩
  · unfold ev at p
    refine tE.bind R r p fun x ρ1 h1 H1 v st R1 r1 hv p1 => ?_
    obtain ⟨k, e1, q⟩ := p1.of_R R1
    exact ⟨k, tru_of R1 hv e1, q⟩
  · subst e
    exact absurd h.1 (by simp [plainT])
theorem snd_ttrue : SndT C .ttrue := by
  intro X S e F h
  simp [chk] at h

theorem snd_gnm (i : Nat) : SndG C (.gnm i) := by
  intro X S e F h
  unfold chk at h
  split at h
  · rw [Bool.and_eq_true] at h
    obtain ⟨h1, h2⟩ := F.loc h.2
    refine (pg_name F.nd (F.slot h.1) h1 h2).weak fun v σ H Q ⟨ρ, sp, hh, q, R, r, hq, p⟩ => ?_
    unfold ev at p
    refine p.of_ok R _ (r.set hq i) (by simp) fun j hj => ?_
    rw [List.getElem?_set_ne]
    intro z
    exact hj (by simp [gSlots, z])
  · cases h
theorem assign_star {env : Env} : ∀ {es : List Expr}, es.any isStar = false → (assignEach es env).findIdx? (·.1) = none ∧ (assignEach es env).length = es.length ∧ ∀ x ∈ assignEach es env, x.1 = false
  | [], _ => ⟨rfl, rfl, fun _ h => nomatch h⟩
  | e :: es, h => by
    simp only [List.any_cons, Bool.or_eq_false_iff] at h
    have e1 : assignEach (e :: es) env = (false, assign e env) :: assignEach es env := by
      cases e <;> first | rfl | exact absurd h.1 (by simp [isStar])
    obtain ⟨_, h2, h3⟩ := assign_star h.2 (env := env)
    rw [e1]
    have all : ∀ x ∈ (false, assign e env) :: assignEach es env, x.1 = false := fun x hx => by
      rcases List.mem_cons.mp hx with rfl | hx
      · rfl
      · exact h3 x hx
    exact ⟨List.findIdx?_eq_none_iff.mpr fun x hx => all x hx, by simp [h2], all⟩
theorem assign_cons {e : Expr} {es : List Expr} {env : Env} (h : isStar e = false) : (assignEach (e :: es) env).map (·.2) = assign e env :: (assignEach es env).map (·.2) := by
  cases e <;> first | rfl | cases h
theorem glen_chk {S : SC} : ∀ {es : List Expr} {gs : T .gs}, chk S gs es = true → es.length = glen gs
  | [], gs, h => by
    cases gs with
    | gnil => rfl
    | gcons g gs => simp [chk] at h
  | e :: es, gs, h => by
    cases gs with
    | gnil => simp [chk] at h
    | gcons g gs =>
      simp only [chk, Bool.and_eq_true] at h
      simp [glen, glen_chk h.1.2]
theorem snd_gtup {gs : T .gs} (hg : SndGs C gs) : SndG C (.gtup gs) := by
  intro X S e F h
  unfold chk at h
  split at h
  · obtain ⟨h1, h2⟩ := hg X S _ F h
    obtain ⟨h3, h4, _⟩ := assign_star (env := X.env) h2
    refine (pg_tup F.calm h1 h4 h3).weak fun v σ H Q ⟨ρ, sp, hh, q, R, r, hq, p⟩ => ?_
    unfold ev at p
    split at p
    · obtain ⟨c, p⟩ := p.ite
      obtain ⟨a, vs, rfl, hs, hv⟩ := hq
      exact ⟨a, vs, rfl, hs, by rw [hv.length, c, glen_chk h], ρ, sp, hh, _, R, r, hv, p⟩
    · exact p.elim
  · cases h
theorem snd_gnil : SndGs C .gnil := by
  intro X S es F h
  unfold chk at h
  split at h
  · refine ⟨pgs_nil.weak fun v σ H Q ⟨ρ, sp, hh, q, R, r, hq, p⟩ => ?_, rfl⟩
    unfold ev at p
    split at p
    · cases hq
      exact ⟨rfl, p.of_ok R σ r rfl fun _ _ => rfl⟩
    · exact p.elim
  · cases h
theorem snd_gcons {g : T .g} {gs : T .gs} (hg : SndG C g) (hs : SndGs C gs) : SndGs C (.gcons g gs) := by
  intro X S es F h
  unfold chk at h
  split at h
  · simp only [Bool.and_eq_true, Bool.not_eq_true'] at h
    obtain ⟨h1, h2⟩ := hs X S _ F h.1.2
    refine ⟨(pgs_cons (hg X S _ F h.1.1) h1 (assign_cons h.2)).weak fun v σ H Q ⟨ρ, sp, hh, q, R, r, hq, p⟩ => ?_, by simp [h.2, h2]⟩
    unfold ev at p
    split at p
    · obtain ⟨x, xr, rfl, hx, hxr⟩ := hq
      refine ⟨x, xr, rfl, ρ, sp, hh, _, R, r, hx, p.bind.imp fun s1 ρ1 h1 H1 _ _ ⟨st, R1, p1⟩ σ1 r1 l1 a1 => ⟨ρ1, s1, h1, _, R1, r1, hxr.ext (R.ext st), p1.imp fun s2 ρ2 h2 H2 _ _ q σ2 r2 l2 a2 => ?_⟩⟩
      refine q σ2 r2 (l2.trans l1) fun j hj => ?_
      simp only [gSlots, List.mem_append, not_or] at hj
      rw [a2 j hj.2, a1 j hj.1]
    · exact p.elim
  · cases h
theorem assign_sub {o i : Expr} {pos : Pos} {env : Env} (h : isSlice i = false) (v : Value) : assign (.Subscript o i pos) env v = (do
      let ov ← holding [v] (eval o env)
      let iv ← holding [v, ov] (eval i env)
      standAt pos
      holding [v, ov, iv] (setItem ov iv v)
      release [v, ov, iv] []) := by
  cases i <;> first | rfl | cases h
theorem snd_gsub {o i : T .e} (ho : SndE C o) (hi : SndE C i) : SndG C (.gsub o i) := by
  intro X S e F h
  unfold chk at h
  split at h
  · simp only [Bool.and_eq_true, Bool.not_eq_true'] at h
    refine (pg_sub (ho X S _ F h.1.1) (hi X S _ F h.1.2) (set_ev F.hu) (assign_sub h.2)).weak fun v σ H Q ⟨ρ, sp, hh, q, R, r, hq, p⟩ => ?_
    unfold ev at p
    refine tE.bind R r p fun x ρ1 h1 H1 w st R1 r1 hw p1 => ?_
    refine tE.bind R1 r1 p1 fun y ρ2 h2 H2 u st2 R2 r2 hu p2 => ?_
    refine ⟨EX0, ρ2, h2, x, y, q, R2, hw.ext (R1.ext st2), hu, (hq.ext (R.ext st)).ext (R1.ext st2), p2.bind.imp fun _ ρ3 h3 H3 _ _ ⟨st3, R3, p3⟩ ex => ?_⟩
    exact p3.of_ok R3 σ (r2.ext ex) rfl fun _ _ => rfl
  · cases h
theorem snd_gfld {o : T .e} {f : Str} : SndG C (.gfld o f) := by
  intro X S e F h
  simp [chk] at h

def iSq (K : Kw) (tl : TE) : TI := fun σ H R => tl σ H fun x H1 => (∃ a xs, x = .ref a ∧ SqL K H1 a xs ∧ R (Itl K a) H1) ∨ ∃ a xs, x = .ref a ∧ SqT K H1 a xs ∧ R (Itt K a) H1
theorem pi_sq {X : Cx} {tg l : Expr} {tl : TE} (hl : PE X l tl) : PI X tg l (iSq X.kw tl) := by
  refine ⟨fun pins s σ H R I h => ?_⟩
  refine thn (hl.run pins s σ H _ I h) fun v s1 ⟨x, H1, I1, r1, q1⟩ => ?_
  rcases q1 with ⟨a, xs, e, hq, q⟩ | ⟨a, xs, e, hq, q⟩
  · subst e
    cases r1
    obtain ⟨its, rv, p, hz⟩ := I1.list hq
    refine wpAny_pyIter_list p.isList ?_
    refine ⟨s1.heap.objs.size, [s1.heap.objs.size], _, _, H1, rfl, I1.kept (t' := s1.toks) fun b o e => Heap.get?_push_of_some _ e, turn_list a _, ⟨_, Heap.get?_push_size _ rfl, rfl, rfl⟩, fun b hb => ?_, q⟩
    have e : b = s1.heap.objs.size := by simpa using hb
    subst e
    exact I1.fpOk (Nat.le_refl _) (I1.hok.fresh (Nat.le_refl _))
  · subst e
    cases r1
    obtain ⟨its, rv, p, hz⟩ := I1.tuple hq
    refine wpAny_pyIter_tuple (show s1.heap.IsTuple a its.toArray from p) ?_
    refine ⟨s1.heap.objs.size, [s1.heap.objs.size], _, _, H1, rfl, I1.kept (t' := s1.toks) fun b o e => Heap.get?_push_of_some _ e, turn_tuple a _, ⟨_, Heap.get?_push_size _ rfl, rfl, rfl⟩, fun b hb => ?_, q⟩
    have e : b = s1.heap.objs.size := by simpa using hb
    subst e
    exact I1.fpOk (Nat.le_refl _) (I1.hok.fresh (Nat.le_refl _))
end
section
variable {K : Kw} {ρ : List Addr} {H : Hp}
theorem wk_tup {a : Addr} {ps : List P} {vs : List V} (hs : SqT K H a vs) (hv : Rvs K ρ H ps vs) : WkOk K ρ H ⟨ps, []⟩ (Itt K a) := by
  intro ρ' h' H' ex R _
  have hs' := ex.sqT hs
  have hv' := hv.ext ex
  refine ⟨fun i hi => ?_, fun i hi => ⟨vs, hs', by rw [hv.length]; exact hi⟩⟩
  obtain ⟨p, hp⟩ : ∃ p, ps[i]? = some p := ⟨_, List.getElem?_eq_getElem hi⟩
  obtain ⟨v, e, r⟩ := hv'.get hp
  refine ⟨⟨vs, v, hs', e⟩, fun x H'' y => ?_⟩
  obtain ⟨rfl, y⟩ := y
  have := y vs hs'
  rw [e] at this; cases this
  exact ⟨.refl, R, p, hp, r⟩
theorem wk_kls {a : Addr} {ps : List P} {vs : List V} (hs : Kls K H a vs) (hv : Rvs K ρ H ps vs) : WkOk K ρ H ⟨ps, []⟩ (Itl K a) := by
  intro ρ' h' H' ex R _
  have hs' := (ex.kls hs).sq
  have hv' := hv.ext ex
  refine ⟨fun i hi => ?_, fun i hi => ⟨vs, hs', by rw [hv.length]; exact hi⟩⟩
  obtain ⟨p, hp⟩ : ∃ p, ps[i]? = some p := ⟨_, List.getElem?_eq_getElem hi⟩
  obtain ⟨v, e, r⟩ := hv'.get hp
  refine ⟨⟨vs, v, hs', e⟩, fun x H'' y => ?_⟩
  obtain ⟨rfl, y⟩ := y
  have := y vs hs'
  rw [e] at this; cases this
  exact ⟨.refl, R, p, hp, r⟩
theorem wk_lst {a : Addr} {l : Nat} {ps : List P} (ha : ρ[l]? = some a) : WkOk K ρ H ⟨ps, [(l, .lst ps)]⟩ (Itl K a) := by
  intro ρ' h' H' ex R hh
  have hl : h'[l]? = some (.lst ps) := by
    simp only [Wk.holds, List.all_cons, List.all_nil, Bool.and_true, decide_eq_true_eq] at hh
    exact hh
  obtain ⟨a', vs, ha', h1, h2⟩ := R.lst hl
  have ha2 := ex.pre _ _ ha
  rw [ha2] at ha'; cases ha'
  refine ⟨fun i hi => ?_, fun i hi => ⟨vs, SqL.of h1, by rw [h2.length]; exact hi⟩⟩
  obtain ⟨p, hp⟩ : ∃ p, ps[i]? = some p := ⟨_, List.getElem?_eq_getElem hi⟩
  obtain ⟨v, e, r⟩ := h2.get hp
  refine ⟨⟨vs, v, SqL.of h1, e⟩, fun x H'' y => ?_⟩
  obtain ⟨rfl, y⟩ := y
  have := y vs (SqL.of h1)
  rw [e] at this; cases this
  exact ⟨.refl, R, p, hp, r⟩
theorem wk_rng {lo : Int} {n : Nat} : WkOk K ρ H ⟨(List.range n).map fun (k : Nat) => .int (lo + k), []⟩ (Itr lo n) := by
  intro ρ' h' H' ex R _
  refine ⟨fun i hi => ?_, fun i hi => (show n ≤ i by simpa using hi)⟩
  have hi' : i < n := by simpa using hi
  refine ⟨hi', fun x H'' y => ?_⟩
  obtain ⟨rfl, rfl⟩ := y
  exact ⟨.refl, R, .int (lo + i), by simp [hi'], rfl⟩
end
section
variable {K : Kw} {ρ : List Addr} {H : Hp}
theorem pair_out {h : Hea} {p q : P} {x y : V} (R : Rep K ρ h H) {T : Addr} (hT : H T = none) (hp : Rv K ρ H p x) (hq : Rv K ρ H q y) :
    Step ρ ρ H (upd H T (.tup [x, y])) ∧ Rep K ρ h (upd H T (.tup [x, y])) ∧ Rv K ρ (upd H T (.tup [x, y])) (.tup [p, q]) (.ref T) := by
  obtain ⟨st, R'⟩ := R.laid (u := .tup [x, y]) hT
  have ex := R.ext st
  exact ⟨st, R', T, [x, y], rfl, SqT.of upd_same, x, [y], rfl, hp.ext ex, y, [], rfl, hq.ext ex, rfl⟩
theorem zi_get {ps : List P} {i : Nat} {p : P} (h : ps[i]? = some p) : ((ps.zipIdx).map fun x => P.tup [.int (x.2 : Nat), x.1])[i]? = some (.tup [.int (i : Nat), p]) := by
  simp [List.getElem?_map, List.getElem?_zipIdx, h]
theorem wk_enumT {a : Addr} {ps : List P} {vs : List V} (hs : SqT K H a vs) (hv : Rvs K ρ H ps vs) : WkOk K ρ H ⟨(ps.zipIdx).map fun x => .tup [.int (x.2 : Nat), x.1], []⟩ (IteT K a) := by
  intro ρ' h' H' ex R _
  have hs' := ex.sqT hs
  have hv' := hv.ext ex
  refine ⟨fun i hi => ?_, fun i hi => ⟨vs, hs', by rw [hv.length]; simpa using hi⟩⟩
  have hi' : i < ps.length := by simpa using hi
  obtain ⟨p, hp⟩ : ∃ p, ps[i]? = some p := ⟨_, List.getElem?_eq_getElem hi'⟩
  obtain ⟨v, e, r⟩ := hv'.get hp
  refine ⟨⟨vs, v, hs', e⟩, fun x H'' y => ?_⟩
  obtain ⟨T, z, rfl, hT, rfl, y⟩ := y
  have := y vs hs'
  rw [e] at this; cases this
  obtain ⟨st, R', rv⟩ := pair_out R hT (p := .int (i : Nat)) (x := .int (i : Nat)) rfl r
  exact ⟨st, R', _, zi_get hp, rv⟩
theorem wk_enumK {a : Addr} {ps : List P} {vs : List V} (hs : Kls K H a vs) (hv : Rvs K ρ H ps vs) : WkOk K ρ H ⟨(ps.zipIdx).map fun x => .tup [.int (x.2 : Nat), x.1], []⟩ (Ite K a) := by
  intro ρ' h' H' ex R _
  have hs' := (ex.kls hs).sq
  have hv' := hv.ext ex
  refine ⟨fun i hi => ?_, fun i hi => ⟨vs, hs', by rw [hv.length]; simpa using hi⟩⟩
  have hi' : i < ps.length := by simpa using hi
  obtain ⟨p, hp⟩ : ∃ p, ps[i]? = some p := ⟨_, List.getElem?_eq_getElem hi'⟩
  obtain ⟨v, e, r⟩ := hv'.get hp
  refine ⟨⟨vs, v, hs', e⟩, fun x H'' y => ?_⟩
  obtain ⟨T, z, rfl, hT, rfl, y⟩ := y
  have := y vs hs'
  rw [e] at this; cases this
  obtain ⟨st, R', rv⟩ := pair_out R hT (p := .int (i : Nat)) (x := .int (i : Nat)) rfl r
  exact ⟨st, R', _, zi_get hp, rv⟩
theorem wk_enumL {a : Addr} {l : Nat} {ps : List P} (ha : ρ[l]? = some a) : WkOk K ρ H ⟨(ps.zipIdx).map fun x => .tup [.int (x.2 : Nat), x.1], [(l, .lst ps)]⟩ (Ite K a) := by
  intro ρ' h' H' ex R hh
  have hl : h'[l]? = some (.lst ps) := by
    simp only [Wk.holds, List.all_cons, List.all_nil, Bool.and_true, decide_eq_true_eq] at hh
    exact hh
  obtain ⟨a', vs, ha', h1, h2⟩ := R.lst hl
  have ha2 := ex.pre _ _ ha
  rw [ha2] at ha'; cases ha'
  refine ⟨fun i hi => ?_, fun i hi => ⟨vs, SqL.of h1, by rw [h2.length]; simpa using hi⟩⟩
  have hi' : i < ps.length := by simpa using hi
  obtain ⟨p, hp⟩ : ∃ p, ps[i]? = some p := ⟨_, List.getElem?_eq_getElem hi'⟩
  obtain ⟨v, e, r⟩ := h2.get hp
  refine ⟨⟨vs, v, SqL.of h1, e⟩, fun x H'' y => ?_⟩
  obtain ⟨T, z, rfl, hT, rfl, y⟩ := y
  have := y vs (SqL.of h1)
  rw [e] at this; cases this
  obtain ⟨st, R', rv⟩ := pair_out R hT (p := .int (i : Nat)) (x := .int (i : Nat)) rfl r
  exact ⟨st, R', _, zi_get hp, rv⟩
end
section
variable {C : Cfg}
theorem snd_isq {a : T .e} (ha : SndE C a) : SndI C (.isq a) := by
  intro X S tg e F h _
  unfold chk at h
  rw [Bool.and_eq_true] at h
  refine (pi_sq (ha X S _ F h.1)).weak fun σ H Rr ⟨ρ, sp, hh, R, r, p⟩ => ?_
  unfold ev at p
  refine tE.bind R r p fun x ρ1 h1 H1 v st R1 r1 hv p1 => ?_
  unfold walkSeq at p1
  split at p1
  · obtain ⟨a, vs, rfl, hs, hvs⟩ := hv
    exact .inr ⟨a, vs, rfl, hs, p1.of_ok R1 _ (wk_tup hs hvs)⟩
  · obtain ⟨a, vs, rfl, hs, hvs⟩ := hv
    exact .inl ⟨a, vs, rfl, hs.sq, p1.of_ok R1 _ (wk_kls hs hvs)⟩
  · obtain ⟨a, ha', rfl⟩ := hv
    split at p1
    · rename_i xs hx
      obtain ⟨a', vs, ha2, hl, hvs⟩ := R1.lst hx
      rw [ha'] at ha2; cases ha2
      exact .inl ⟨a, vs, rfl, SqL.of hl, p1.of_ok R1 _ (wk_lst ha')⟩
    · exact p1.elim
  · exact p1.elim
theorem Post.gone {α : Type} {K : Kw} {EX : EX1} {ρ : List Addr} {h : Hea} {H : Hp} {l : Nat} {a : Addr} {b : α} {xs : DX} {od : Obj} {Φ : α → List Addr → Hea → Hp → Prop} (R : Rep K ρ h H) (ha : ρ[l]? = some a) (e : H a = some (dkO K.P K.w a xs))
    (p : Post K EX (.ok b (h.set l (.set []))) ρ H Φ) : Ext ρ ρ H (upd H a (.frz od (dkO K.P K.w a xs))) ∧ Φ b ρ (h.set l (.set [])) (upd H a (.frz od (dkO K.P K.w a xs))) := by
  obtain ⟨st, R'⟩ := R.set (u := .frz od (dkO K.P K.w a xs)) (o := .set []) ha (fun _ _ z => by rw [e] at z; cases z) ⟨od, _, upd_same⟩
  exact ⟨R.ext st, p ρ _ st R'⟩
theorem DKs.at_ {K : Kw} {ρ : List Addr} {H : Hp} : ∀ {kvs : List (P × P)} {xs : DX} {i : Nat} {kv : P × P}, DKs K ρ H kvs xs → kvs[i]? = some kv → ∃ x, xs[i]? = some x ∧ Rv K ρ H kv.1 (.ref x.2.1) ∧ Rv K ρ H kv.2 x.2.2
  | [], _, _, _, _, e => by simp at e
  | q :: kvs, xs, i, kv, h, e => by
    obtain ⟨b, v, r, rfl, e2, e3, e4, e5⟩ := h
    cases i with
    | zero => simp at e; subst e; exact ⟨_, rfl, e3, e4⟩
    | succ i => exact DKs.at_ (i := i) e5 (by simpa using e)
theorem wk_dic {K : Kw} {ρ : List Addr} {H : Hp} {k : Nat} {d : Addr} {od : Obj} {kvs : List (P × P)} {xs : DX} (hk : k ≤ 2) (e : H d = some (.frz od (dkO K.P K.w d xs))) (dk : DKs K ρ H kvs xs) : WkOk K ρ H ⟨kvs.map (dicSeen k), []⟩ (ItD k K.P K.w d od xs) := by
  intro ρ' h' H' ex R _
  have e' := ex.frz _ _ _ e
  have dk' := dk.ext ex
  have hl := dk'.length
  refine ⟨fun i hi => ?_, fun i hi => ⟨e', by simp only [List.length_map] at hi; omega⟩⟩
  have hi' : i < kvs.length := by simpa using hi
  obtain ⟨kv, hkv⟩ : ∃ p, kvs[i]? = some p := ⟨_, List.getElem?_eq_getElem hi'⟩
  obtain ⟨x, hx, r1, r2⟩ := dk'.at_ hkv
  have hm : (kvs.map (dicSeen k))[i]? = some (dicSeen k kv) := by rw [List.getElem?_map, hkv]; rfl
  refine ⟨⟨e', by omega⟩, fun v H'' y => ?_⟩
  match k, hk with
  | 0, _ =>
    obtain ⟨rfl, x', hx', rfl⟩ := y
    rw [hx] at hx'; cases hx'
    exact ⟨.refl, R, _, hm, r1⟩
  | 1, _ =>
    obtain ⟨rfl, x', hx', rfl⟩ := y
    rw [hx] at hx'; cases hx'
    exact ⟨.refl, R, _, hm, r2⟩
  | 2, _ =>
    obtain ⟨T, x', hx', rfl, hT, rfl⟩ := y
    rw [hx] at hx'; cases hx'
    obtain ⟨st, R', rv⟩ := pair_out R hT r1 r2
    exact ⟨st, R', _, hm, rv⟩
theorem dic_key {K : Kw} {EX : EX1} {ρ : List Addr} {h : Hea} {H : Hp} {k : Nat} {x : P} {v : V} {Rr : It → Hp → Prop} (hk : k ≤ 2) (R : Rep K ρ h H) (hv : Rv K ρ H x v)
    (p : Post K EX (walkDic k x h) ρ H fun w ρ' h' H' => ∀ J, WkOk K ρ' H' w J → Rr J H') : ∃ d xs, v = .ref d ∧ H d = some (dkO K.P K.w d xs) ∧ ∀ od, Rr (ItD k K.P K.w d od xs) (upd H d (.frz od (dkO K.P K.w d xs))) := by
  unfold walkDic at p
  split at p
  · obtain ⟨a, ha, rfl⟩ := hv
    split at p
    · rename_i l kvs hl
      obtain ⟨a', ha', xs, h1, h2⟩ := R.dic hl
      rw [ha] at ha'; cases ha'
      refine ⟨a, xs, rfl, h1, fun od => ?_⟩
      obtain ⟨ex, q⟩ := Post.gone (od := od) R ha h1 p
      exact q _ (wk_dic hk upd_same (h2.ext ex))
    · exact p.elim
  · exact p.elim
theorem snd_idic {k : Nat} {a : T .e} (ha : SndE C a) : SndI C (.idic k a) := by
  intro X S tg e F h ht
  have key : ∀ (k : Nat), k ≤ 2 → ∀ σ H Rr, tI C X.kw EX0 (.idic k a) σ H Rr → iDk k X.prog X.w (tE C X.kw EX0 a) σ H Rr := by
    intro k hk σ H Rr ⟨ρ, sp, hh, R, r, p⟩
    unfold ev at p
    exact tE.bind R r p fun x ρ1 h1 H1 v st R1 r1 hv p1 => dic_key hk R1 hv p1
  match k with
  | 0 =>
    unfold chk at h
    replace h : (chk S a e && !isSetE e) = true := h
    rw [Bool.and_eq_true] at h
    exact (pi_dk0 (ha X S _ F h.1)).weak (key 0 (by omega))
  | 1 =>
    unfold chk at h
    simp only at h
    split at h
    · simp only [Bool.and_eq_true, decide_eq_true_eq] at h
      obtain ⟨⟨⟨rfl, h2⟩, h5⟩, h6⟩ := h
      exact (pi_dk1 (ha X S _ F h2) (attrBase h6) h5).weak (key 1 (by omega))
    · cases h
  | 2 =>
    obtain ⟨elts, kk, tpos, rfl⟩ : ∃ elts kk tpos, tg = .Tuple elts kk tpos := by
      cases tg <;> first | exact ⟨_, _, _, rfl⟩ | cases ht
    unfold chk at h
    simp only at h
    split at h
    · simp only [Bool.and_eq_true, decide_eq_true_eq] at h
      obtain ⟨⟨⟨rfl, h2⟩, h5⟩, h6⟩ := h
      exact (pi_dk2 (ha X S _ F h2) (attrBase h6) h5).weak (key 2 (by omega))
    · cases h
  | k + 3 =>
    unfold chk at h
    simp at h
theorem snd_irng {a : T .e} (ha : SndE C a) : SndI C (.irng a) := by
  intro X S tg e F h _
  unfold chk at h
  split at h
  · simp only [Bool.and_eq_true, decide_eq_true_eq, Bool.not_eq_true'] at h
    obtain ⟨⟨⟨⟨h1, rfl⟩, h2⟩, h3⟩, h4⟩ := h
    refine (pi_range1 (F.gl h1).1 (F.blts _ h2) (pa_cons (ha X S _ F h3) pa_nil (starEach_cons h4)) (starEach_cons h4)).weak fun σ H Rr ⟨ρ, sp, hh, R, r, p⟩ => ?_
    unfold ev at p
    refine tE.bind R r p fun x ρ1 h1 H1 v st R1 r1 hv p1 => ?_
    split at p1
    · cases hv
      obtain ⟨⟨c1, c2⟩, p1⟩ := p1.ite
      exact ⟨_, rfl, by simpa using c1, by simpa using c2, p1.of_ok R1 _ wk_rng⟩
    · exact p1.elim
  · cases h
theorem snd_irng2 {a b : T .e} (ha : SndE C a) (hb : SndE C b) : SndI C (.irng2 a b) := by
  intro X S tg e F h _
  unfold chk at h
  split at h
  · simp only [Bool.and_eq_true, decide_eq_true_eq, Bool.not_eq_true'] at h
    obtain ⟨⟨⟨⟨⟨⟨h1, rfl⟩, h2⟩, h3⟩, h4⟩, h5⟩, h6⟩ := h
    refine (pi_range2 (F.gl h1).1 (F.blts _ h2) (pa_cons (ha X S _ F h3) (pa_cons (hb X S _ F h4) pa_nil (starEach_cons h6)) (starEach_cons h5)) (by rw [starEach_cons h5, starEach_cons h6]; rfl) (starEach_cons h6)).weak fun σ H Rr ⟨ρ, sp, hh, R, r, p⟩ => ?_
    unfold ev at p
    refine tE.bind R r p fun x ρ1 h1 H1 v st R1 r1 hv p1 => ?_
    refine tE.bind R1 r1 p1 fun y ρ2 h2 H2 w st2 R2 r2 hw p2 => ?_
    split at p2
    · cases hv
      cases hw
      obtain ⟨⟨c1, c2, c3, c4⟩, p2⟩ := p2.ite
      exact ⟨_, _, rfl, ⟨by simpa using c1, by simpa using c2, by simpa using c3, by simpa using c4⟩, p2.of_ok R2 _ wk_rng⟩
    · exact p2.elim
  · cases h
theorem tgOk_tuple {tg : Expr} {a : T .e} (h : tgOk (.ienum a) tg = true) : ∃ elts kk tpos, tg = .Tuple elts kk tpos := by
  cases tg <;> first | exact ⟨_, _, _, rfl⟩ | cases h
theorem snd_ienum {a : T .e} (ha : SndE C a) : SndI C (.ienum a) := by
  intro X S tg e F h ht
  obtain ⟨elts, kk, tpos, rfl⟩ := tgOk_tuple ht
  unfold chk at h
  split at h
  · simp only [Bool.and_eq_true, decide_eq_true_eq, Bool.not_eq_true'] at h
    obtain ⟨⟨⟨⟨h1, rfl⟩, h2⟩, h3⟩, h4⟩ := h
    refine (pi_enumS (F.gl h1).1 (F.blts _ h2) (pa_cons (ha X S _ F h3) pa_nil (starEach_cons h4)) (starEach_cons h4)).weak fun σ H Rr ⟨ρ, sp, hh, R, r, p⟩ => ?_
    unfold ev at p
    refine tE.bind R r p fun x ρ1 h1 H1 v st R1 r1 hv p1 => ?_
    unfold walkSeq at p1
    split at p1
    · obtain ⟨a, vs, rfl, hs, hvs⟩ := hv
      exact ⟨a, vs, rfl, .inr ⟨hs, p1.of_ok R1 _ (wk_enumT hs hvs)⟩⟩
    · obtain ⟨a, vs, rfl, hs, hvs⟩ := hv
      exact ⟨a, vs, rfl, .inl ⟨hs.sq, p1.of_ok R1 _ (wk_enumK hs hvs)⟩⟩
    · obtain ⟨a, ha', rfl⟩ := hv
      split at p1
      · rename_i xs hx
        obtain ⟨a', vs, ha2, hl, hvs⟩ := R1.lst hx
        rw [ha'] at ha2; cases ha2
        exact ⟨a, vs, rfl, .inl ⟨SqL.of hl, p1.of_ok R1 _ (wk_enumL ha')⟩⟩
      · exact p1.elim
    · exact p1.elim
  · cases h
theorem tgOk_zip {tg : Expr} {st : Bool} {a b : T .e} (h : tgOk (.izip st a b) tg = true) : ∃ elts kk tpos, tg = .Tuple elts kk tpos := by
  cases tg <;> first | exact ⟨_, _, _, rfl⟩ | cases h
def Src (K : Kw) (ρ : List Addr) (H : Hp) (w : Wk) (k : Bool) (a : Addr) : Prop := ∀ ρ' h' H', Ext ρ ρ' H H' → Rep K ρ' h' H' → Wk.holds w.stay h' = true → ∃ vs, Z.SqK k K H' a vs ∧ Rvs K ρ' H' w.its vs
theorem src_of {K : Kw} {ρ : List Addr} {h : Hea} {H : Hp} {x : P} {v : V} {EX : EX1} {β : Type} {f : Wk → Hea → Ev.R β} {Φ : β → List Addr → Hea → Hp → Prop} (R : Rep K ρ h H) (hv : Rv K ρ H x v) (p : Post K EX ((walkSeq x h).bind f) ρ H Φ) :
    ∃ (w : Wk) (k : Bool) (a : Addr), v = .ref a ∧ Src K ρ H w k a ∧ (∃ vs, Z.SqK k K H a vs) ∧ Post K EX (f w h) ρ H Φ := by
  unfold walkSeq at p
  split at p
  · obtain ⟨a, vs, rfl, hs, hvs⟩ := hv
    exact ⟨_, true, a, rfl, fun ρ' h' H' ex _ _ => ⟨vs, ex.sqT hs, hvs.ext ex⟩, ⟨vs, hs⟩, p⟩
  · obtain ⟨a, vs, rfl, hs, hvs⟩ := hv
    exact ⟨_, false, a, rfl, fun ρ' h' H' ex _ _ => ⟨vs, (ex.kls hs).sq, hvs.ext ex⟩, ⟨vs, hs.sq⟩, p⟩
  · rename_i l
    obtain ⟨a, ha', rfl⟩ := hv
    split at p
    · rename_i xs hx
      obtain ⟨a', vs, ha2, hl, hvs⟩ := R.lst hx
      rw [ha'] at ha2; cases ha2
      refine ⟨_, false, a, rfl, fun ρ' h' H' ex R' hh => ?_, ⟨vs, SqL.of hl⟩, p⟩
      have hl' : h'[l]? = some (.lst xs) := by
        simp only [Wk.holds, List.all_cons, List.all_nil, Bool.and_true, decide_eq_true_eq] at hh
        exact hh
      obtain ⟨a2, vs2, e2, q1, q2⟩ := R'.lst hl'
      have := ex.pre _ _ ha'
      rw [this] at e2; cases e2
      exact ⟨vs2, SqL.of q1, q2⟩
    · exact p.elim
  · exact p.elim
theorem zip_get {ps qs : List P} {i : Nat} {p q : P} (h : ps[i]? = some p) (k : qs[i]? = some q) : ((ps.zip qs).map fun x => P.tup [x.1, x.2])[i]? = some (.tup [p, q]) := by
  have e : (ps.zip qs)[i]? = some (p, q) := List.getElem?_zip_eq_some.mpr ⟨h, k⟩
  rw [List.getElem?_map, e]; rfl
theorem wk_zip {K : Kw} {ρ : List Addr} {H : Hp} {st k1 k2 : Bool} {a c : Addr} {u w : Wk} (s1 : Src K ρ H u k1 a) (s2 : Src K ρ H w k2 c) (hl : st = true → u.its.length = w.its.length) :
    WkOk K ρ H ⟨(u.its.zip w.its).map fun x => .tup [x.1, x.2], u.stay ++ w.stay⟩ (Z.ItzS st k1 k2 K a c) := by
  intro ρ' h' H' ex R hh
  have hh' : Wk.holds u.stay h' = true ∧ Wk.holds w.stay h' = true := by
    simp only [Wk.holds, List.all_append, Bool.and_eq_true] at hh ⊢
    exact hh
  obtain ⟨vs, q1, r1⟩ := s1 ρ' h' H' ex R hh'.1
  obtain ⟨ws, q2, r2⟩ := s2 ρ' h' H' ex R hh'.2
  have l1 := r1.length
  have l2 := r2.length
  refine ⟨fun i hi => ?_, fun i hi => ⟨vs, ws, q1, q2, ?_, fun e => ?_⟩⟩
  · simp only [List.length_map, List.length_zip] at hi
    obtain ⟨p, hp⟩ : ∃ p, u.its[i]? = some p := ⟨_, List.getElem?_eq_getElem (by omega)⟩
    obtain ⟨q, hq⟩ : ∃ q, w.its[i]? = some q := ⟨_, List.getElem?_eq_getElem (by omega)⟩
    obtain ⟨v, e, r⟩ := r1.get hp
    obtain ⟨v2, e2, r'⟩ := r2.get hq
    refine ⟨⟨vs, ws, v, v2, q1, q2, e, e2⟩, fun x H'' y => ?_⟩
    obtain ⟨T, x1, x2, rfl, hT, rfl, y1, y2⟩ := y
    have := y1 vs q1
    rw [e] at this; cases this
    have := y2 ws q2
    rw [e2] at this; cases this
    obtain ⟨st, R', rv⟩ := pair_out R hT r r'
    exact ⟨st, R', _, zip_get hp hq, rv⟩
  · simp only [List.length_map, List.length_zip] at hi
    omega
  · have := hl e
    simp only [List.length_map, List.length_zip] at hi
    omega
theorem snd_izip {st : Bool} {a b : T .e} (ha : SndE C a) (hb : SndE C b) : SndI C (.izip st a b) := by
  intro X S tg e F h ht
  obtain ⟨elts, kk, tpos, rfl⟩ := tgOk_zip ht
  unfold chk at h
  split at h
  · simp only [Bool.and_eq_true, decide_eq_true_eq, Bool.not_eq_true'] at h
    obtain ⟨⟨⟨⟨⟨⟨⟨h1, rfl⟩, h2⟩, h3⟩, h4⟩, h5⟩, h6⟩, h7⟩ := h
    refine (Z.pi_zz h7 (F.gl h1).1 (F.blts _ h2) (pa_cons (ha X S _ F h3) (pa_cons (hb X S _ F h4) pa_nil (starEach_cons h6)) (starEach_cons h5)) (starEach_cons h5) (by rw [starEach_cons h5, starEach_cons h6]; rfl)).weak fun σ H Rr ⟨ρ, sp, hh, R, r, p⟩ => ?_
    unfold ev at p
    refine tE.bind R r p fun x ρ1 h1 H1 v st1 R1 r1 hv p1 => ?_
    refine tE.bind R1 r1 p1 fun y ρ2 h2 H2 w st2 R2 r2 hw p2 => ?_
    obtain ⟨u1, k1, a1, rfl, s1, ⟨xs, q1⟩, p3⟩ := src_of R2 (hv.ext (R1.ext st2)) p2
    obtain ⟨u2, k2, a2, rfl, s2, ⟨ys, q2⟩, p4⟩ := src_of R2 hw p3
    obtain ⟨hl, p5⟩ := p4.ite
    exact ⟨k1, k2, a1, a2, xs, ys, rfl, q1, q2, p5.of_ok R2 _ (wk_zip s1 s2 hl)⟩
  · cases h
end
end Ev

namespace Ev
open PySem L2 PyProof.Rows
abbrev DPutT := Addr → V → V → Hp → (Hp → Prop) → Prop
def tDcG (O0 : Addr → HO) (Put : DPutT) (wi : TI) (g : TG) (tt : TT) (tk tv : TE) (vs : List Nat) : TE := fun σ H Q => wi σ H fun J H1 => ∀ D, H1 D = none → ∃ W : Nat → Nat → Hp → Prop, (∃ m, W 0 m (upd H1 D (O0 D))) ∧ ∀ i m H, W i m H →
  (J.stop i H ∧ Q (.ref D) H) ∨ (J.go i H ∧ ∃ Nx : Hp → Prop, (∀ H', Nx H' → ∃ m', m' < m ∧ W (i + 1) m' H') ∧ ∀ x H', J.yld i H x H' → g x (L2.wipe σ vs) H' fun σ2 H2 => L2.wipe σ2 vs = L2.wipe σ vs ∧ tt σ2 H2 fun b H3 =>
    if b = true then tk σ2 H3 fun y H4 => tv σ2 H4 fun z H5 => Put D y z H5 Nx else Nx H3)
def PutOk (K : Kw) (A : Around) (Put : DPutT) : Prop := ∀ (Y : Cx) (pins : List (Addr × Obj)) (σ : L2.St) (H : Hp) (s : Shared) (E : Value → Shared → Prop) (Q : Unit → Shared → Prop) (D : Addr) (y z : V) (u r : Value) (Nx : Hp → Prop), Y.kw = K → Y.A = A →
  Inv Y pins σ H s → RelV y u → RelV z r → Put D y z H Nx → (∀ s' H', Inv Y pins σ H' s' → Nx H' → Q () s') → wpAny (model Y.prog Y.w) Y.A (dictSet D u r) Q E s
section
variable {X : Cx}
section
variable {kx vx tg iter : Expr} {ifs : List Expr} {scope : Scope} {own : List (Str × Nat)} {pos pos' : Pos} {wi : TI} {g : TG} {tt : TT} {tk tv : TE} {O0 : Addr → HO} {Put : DPutT}
theorem dcG_core {pins : List (Addr × Obj)} {s : Shared} {σ : L2.St} {H : Hp} {Q : VK} {use : Option (Value → Sem Unit)} {Qf : Value → Shared → Prop}
    (h0 : ∀ (H : Hp) (hh : Heap), sysModules < hh.objs.size → ObjOk X.prog X.w H (hh.push { cls := .type "dict", data := .dict #[] }) hh.objs.size (O0 hh.objs.size)) (hput : PutOk X.kw X.A Put)
    (hc : X.calm = true) (hN : X.N.Nodup) (I : Inv X pins σ H s) (hi : PI X tg iter wi) (ok : BlkOk X.N X.env.scope scope own)
    (hg : ∀ (s : Shared) (H : Hp) (C : Addr) (cl : List (Str × Addr)) (fp : List Addr), PG (X.blk s H scope (compEnvC scope cl C X.env) fp) tg g)
    (ht : ∀ (s : Shared) (H : Hp) (C : Addr) (cl : List (Str × Addr)) (fp : List Addr), PTs (X.blk s H scope (compEnvC scope cl C X.env) fp) ifs tt)
    (hk : ∀ (s : Shared) (H : Hp) (C : Addr) (cl : List (Str × Addr)) (fp : List Addr), PE (X.blk s H scope (compEnvC scope cl C X.env) fp) kx tk)
    (he : ∀ (s : Shared) (H : Hp) (C : Addr) (cl : List (Str × Addr)) (fp : List Addr), PE (X.blk s H scope (compEnvC scope cl C X.env) fp) vx tv)
    (hs : ∀ x, foldedSetIterable iter X.env x = pure x) (h : tDcG O0 Put wi g tt tk tv (own.map (·.2)) σ H Q)
    (back : ∀ D C s' m H', Inv X pins σ H' s' → Q (.ref D) H' → s'.heap.Ns C m → FpOk X pins H' C → compPost (model X.prog X.w) X.A X.xe use Qf (.ref D) C (.ok .next) s') :
    wpAny (model X.prog X.w) X.A (comprehension (.DictComp kx vx [⟨tg, iter, ifs, 0⟩] scope pos) scope X.env pos' newDict false (eval iter X.env) use) Qf X.xe s := by
  -- the names that the block takes over
  have free : ∀ y ∈ scope.names, y.2 = .free → ∃ c, X.env.cells.lookup y.1 = some c := fun y hy e => (ok.free y hy e).elim (fun k => I.ok.has _ (.inl k)) fun k => I.ok.has _ (.inr k)
  refine wpAny_comprehension_free (use := use) rfl hs (closure_ok free) ok.kind (fun y hy e => by rw [ok.uniq y hy, e])
    (thn (hi.run pins s σ H _ I h) fun xv s1 hx => thn hx fun itv s2 ⟨it, fp, tn, J, H2, eit, I2, T, st2, f2, q⟩ => ?_)
  subst eit
  refine wpAny_newObj_type (newEnv_comp ?_)
  -- the dict's place
  have dn : H2 s2.heap.objs.size = none := I2.hok.fresh (Nat.le_refl _)
  have J3 : Inv X pins σ (upd H2 s2.heap.objs.size (O0 s2.heap.objs.size)) { s2 with heap := s2.heap.push { cls := .type "dict", data := .dict #[] } } :=
    I2.laid (t' := s2.toks) (fun b o e => Heap.get?_push_of_some _ e) (Nat.le_refl _) (h0 _ _ I2.big)
  have below : ∀ b ∈ fp, b < s2.heap.objs.size := fun b hb => let ⟨_, e, _⟩ := T.obj _ _ st2 b hb; Heap.lt_size e
  generalize hD : s2.heap.objs.size = D at dn J3 below ⊢
  obtain ⟨W, ⟨m0, w0⟩, turn⟩ := q D dn
  have grown : ({ s2 with heap := s2.heap.push { cls := .type "dict", data := .dict #[] } } : Shared).heap = s2.heap.push { cls := .type "dict", data := .dict #[] } := rfl
  have szD : ({ s2 with heap := s2.heap.push { cls := .type "dict", data := .dict #[] } } : Shared).heap.objs.size = D + 1 := by rw [grown, Heap.size_push, hD]
  have st3 : tn 0 ({ s2 with heap := s2.heap.push { cls := .type "dict", data := .dict #[] } } : Shared).heap := T.keep _ _ _ st2 fun b _ o e => Heap.get?_push_of_some _ e
  generalize ({ s2 with heap := s2.heap.push { cls := .type "dict", data := .dict #[] } } : Shared) = s3 at J3 szD st3 ⊢
  clear grown
  have aside : ∀ b ∈ fp, FpOk X pins (upd H2 D (O0 D)) b ∧ b < s3.heap.objs.size := fun b hb => by
    have hlt := below b hb
    exact ⟨⟨by rw [upd_ne (Nat.ne_of_lt hlt)]; exact (f2 b hb).1, (f2 b hb).2⟩, by rw [szD]; exact Nat.lt_succ_of_lt hlt⟩
  have I4 := block_start J3 ok hN aside
  generalize hH3 : upd H2 D (O0 D) = H3 at J3 I4 w0 aside
  -- the block's frame, once
  have pg := hg s3 H3 s3.heap.objs.size (cellsFrom (s3.heap.objs.size + 1) scope.names (cloFrom X.env.cells scope.names [])) fp
  have pt := ht s3 H3 s3.heap.objs.size (cellsFrom (s3.heap.objs.size + 1) scope.names (cloFrom X.env.cells scope.names [])) fp
  have pk := hk s3 H3 s3.heap.objs.size (cellsFrom (s3.heap.objs.size + 1) scope.names (cloFrom X.env.cells scope.names [])) fp
  have pe := he s3 H3 s3.heap.objs.size (cellsFrom (s3.heap.objs.size + 1) scope.names (cloFrom X.env.cells scope.names [])) fp
  show codeAny _ _ (.compStart _ 0 (.ref it) (.ref D) (compEnvC scope (cellsFrom (s3.heap.objs.size + 1) scope.names (cloFrom X.env.cells scope.names [])) s3.heap.objs.size X.env)) (compPost (model X.prog X.w) X.A X.xe use Qf (.ref D) s3.heap.objs.size) { s3 with heap := pushCells (s3.heap.push { cls := .type "dict", data := .dict #[] }) scope.names }
  have st4 : tn 0 ({ s3 with heap := pushCells (s3.heap.push { cls := .type "dict", data := .dict #[] }) scope.names } : Shared).heap := T.keep _ _ _ st3 fun b _ o e => pushCells_keeps _ _ _ _ (Heap.get?_push_of_some _ e)
  generalize hce : compEnvC scope (cellsFrom (s3.heap.objs.size + 1) scope.names (cloFrom X.env.cells scope.names [])) s3.heap.objs.size X.env = ce at I4 pg pt pk pe ⊢
  have locals : ce.locals = s3.heap.objs.size := by rw [← hce]; rfl
  generalize ({ s3 with heap := pushCells (s3.heap.push { cls := .type "dict", data := .dict #[] }) scope.names } : Shared) = s4 at I4 st4 ⊢
  generalize hB : X.blk s3 H3 scope ce fp = B at I4 pg pt pk pe
  -- between the turns
  let Mid : Nat → Shared → Prop := fun n s' => ∃ i H', Inv B [] (L2.wipe σ (own.map (·.2))) H' s' ∧ tn i s'.heap ∧ (∀ b ∈ fp, H' b = none) ∧ W i n H'
  have stay : ∀ {σ' : L2.St} {H' : Hp} {s' : Shared}, Inv B [] σ' H' s' → (∀ b ∈ fp, H' b = none) → ∀ b ∈ fp, FpOk B [] H' b := by
    subst hB
    exact fun {σ' H' s'} I' hn b hb => ⟨hn b hb, (I'.ok.exf b hb).1, I'.ok.exfs b hb, .inl hb, fun x c e => (I'.ok.exf b hb).2 x c e, fun p hp => absurd (show p ∈ ([] : List (Addr × Obj)) ++ [] from hp) (by simp)⟩
  have loop : codeAny (model X.prog X.w) X.A (.compLoop (.DictComp kx vx [⟨tg, iter, ifs, 0⟩] scope pos) 0 (.ref it) (.ref D) ce) (compPost (model X.prog X.w) X.A X.xe use Qf (.ref D) s3.heap.objs.size) s4 := by
    refine compLoop_anyD Mid (fun n s5 ⟨i, H5, I5, st5, n5, w5⟩ => ?_) m0 ⟨0, H3, I4, st4, fun b hb => (aside b hb).1.1, w0⟩
    rcases turn i n H5 w5 with ⟨stop, fine⟩ | ⟨go, Nx, next, step⟩
    · -- nothing is left: out of the block
      subst hB
      refine thnF (T.done (X.blk s3 H3 scope ce fp) rfl rfl rfl hc i [] s5 _ H5 (fun _ _ => False) I5 (stay I5 n5) st5 stop) fun r s6 ⟨hr, I6⟩ => ?_
      subst hr
      have out : Inv X pins σ H5 s6 := J3.call' (ch := fp) I6.os I6.base I6.hok I6.bare fun b hb => ⟨(aside b hb).1.2.2.2.1, (aside b hb).1.2.1, (aside b hb).1.2.2.2.2.1, (aside b hb).1.2.2.2.2.2⟩
      obtain ⟨m, hm, _⟩ := I6.loc
      have hm : s6.heap.Ns ce.locals m := hm
      have nC : H5 ce.locals = none := I6.free
      rw [locals] at hm nC
      exact back D s3.heap.objs.size s6 m H5 out fine hm (J3.fpOk (Nat.le_refl _) nC)
    · -- a turn
      subst hB
      refine thnF (T.item (X.blk s3 H3 scope ce fp) rfl rfl rfl hc i [] s5 _ H5 (fun _ _ => False) I5 (stay I5 n5) st5 go) fun r s6 ⟨u, hr, h6⟩ => ?_
      subst hr
      refine thnF h6 fun _ s7 ⟨x, H7, I7, r7, y7, st7, n7⟩ => ?_
      refine thnF (pg.run _ s7 _ H7 x u _ (I7.pinned (stay I7 n7) (T.obj _ _ st7)) r7 (step x H7 y7)) fun _ s8 ⟨σ8, H8, I8, wiped, q8⟩ => ?_
      have again : ∀ {s' : Shared} {H' : Hp}, Inv (X.blk s3 H3 scope ce fp) ([] ++ pinsAt fp s7.heap) σ8 H' s' → Nx H' → ∃ m, m < n ∧ Mid m s' := fun {s' H'} I' nx => by
        obtain ⟨m', less, w'⟩ := next H' nx
        have held : ∀ b ∈ fp, ∀ o, s7.heap.get? b = some o → s'.heap.get? b = some o ∧ H' b = none := fun b hb o e =>
          let z := I'.pin (b, o) (List.mem_append_right _ (List.mem_append_right _ (mem_pinsAt hb e))); ⟨z.1, z.2.1⟩
        refine ⟨m', less, i + 1, H', (I'.unpinned (pins := [])).weak (by rw [← wiped, wipe_length]) (fun j v e => (wipe_some (by rw [wiped]; exact e)).1), T.keep _ _ _ st7 fun b hb o e => (held b hb o e).1, fun b hb => ?_, w'⟩
        obtain ⟨o, e, _⟩ := T.obj _ _ st7 b hb
        exact (held b hb o e).2
      refine thnF (pt.run _ s8 σ8 H8 _ I8 q8) fun b s9 ⟨H9, I9, q9⟩ => ?_
      cases b with
      | true =>
        simp only [if_true] at q9 ⊢
        refine thnF (pk.run _ s9 σ8 H9 _ I9 q9) fun ku s10 ⟨yk, H10, I10, r10, q10⟩ => thnF (pe.run _ s10 σ8 H10 _ I10 q10) fun vu s11 ⟨yv, H11, I11, r11, put⟩ => ?_
        exact hput (X.blk s3 H3 scope ce fp) _ σ8 H11 s11 _ _ D yk yv ku vu Nx rfl rfl I11 r10 r11 put fun s' H' I' nx => again I' nx
      | false =>
        simp only [Bool.false_eq_true, if_false] at q9 ⊢
        exact again I9 q9
  exact codeAny_compStart_dict loop (T.self X.A 0 _ _ _ st4 loop)
theorem pe_dcG (h0 : ∀ (H : Hp) (hh : Heap), sysModules < hh.objs.size → ObjOk X.prog X.w H (hh.push { cls := .type "dict", data := .dict #[] }) hh.objs.size (O0 hh.objs.size)) (hput : PutOk X.kw X.A Put)
    (hc : X.calm = true) (hN : X.N.Nodup) (hi : PI X tg iter wi) (ok : BlkOk X.N X.env.scope scope own)
    (hg : ∀ (s : Shared) (H : Hp) (C : Addr) (cl : List (Str × Addr)) (fp : List Addr), PG (X.blk s H scope (compEnvC scope cl C X.env) fp) tg g)
    (ht : ∀ (s : Shared) (H : Hp) (C : Addr) (cl : List (Str × Addr)) (fp : List Addr), PTs (X.blk s H scope (compEnvC scope cl C X.env) fp) ifs tt)
    (hk : ∀ (s : Shared) (H : Hp) (C : Addr) (cl : List (Str × Addr)) (fp : List Addr), PE (X.blk s H scope (compEnvC scope cl C X.env) fp) kx tk)
    (he : ∀ (s : Shared) (H : Hp) (C : Addr) (cl : List (Str × Addr)) (fp : List Addr), PE (X.blk s H scope (compEnvC scope cl C X.env) fp) vx tv)
    (hs : ∀ x, foldedSetIterable iter X.env x = pure x) : PE X (.DictComp kx vx [⟨tg, iter, ifs, 0⟩] scope pos) (tDcG O0 Put wi g tt tk tv (own.map (·.2))) := by
  refine ⟨fun pins s σ H Q I h => ?_⟩
  rw [arm_eval_DictComp]
  refine dcG_core h0 hput hc hN I hi ok hg ht hk he hs h fun D C s' m H' I' q hm f => ⟨m, hm, fun h'' sb => ⟨.ref D, H', I'.turned (t' := s'.toks) (fun b o hb e => (sb.2 b hb).trans e) f.1 f.2.1 f.2.2.2.1 f.2.2.2.2.1 f.2.2.2.2.2, rfl, q⟩⟩
end
end
def putD (K : Kw) : DPutT := fun D y z H Nx => ∃ (ρ : List Addr) (kvs : List (P × P)) (xs : DX) (p : P), H D = some (dkO K.P K.w D xs) ∧ DKs K ρ H kvs xs ∧ keyT p = true ∧ Rv K ρ H p y ∧ xs.length < sizeLine ∧
  ∀ b, y = .ref b → Nx (upd H D (dkO K.P K.w D (hput xs (nkey p) b z)))
theorem putD_ok {K : Kw} {A : Around} (hu : A.units + 200 < cLine) : PutOk K A (putD K) := by
  intro Y pins σ H s E Q D y z u r Nx eK eA I ry rz ⟨ρ, kvs, xs, p, e, dk, hk, hp, hz, nx⟩ fin
  subst eK eA
  obtain ⟨ys, d3, d1, d2, dd⟩ := dic_at I e dk
  obtain ⟨b, rfl⟩ := key_ref hk hp
  cases ry
  have nd := dd.nodup
  exact wpAny_dictSet_heap (hsz := by rw [← d3.length]; omega) (room8 hu) (key_is I hk hp) dd fun h' dd' sb => fin _ _ (dkO_put I e d3 d1 hz nd rz dd' sb) (nx b rfl)
end Ev

namespace Ev
open PySem L2
section
variable {K : Kw} {ρ ρ' : List Addr} {H H' : Hp} {h : Hea} {D : Addr} {acc : List V}
def rem (H : Hp) (D : Addr) : Hp := fun b => if b = D then none else H b
theorem rem_self : rem H D D = none := by unfold rem; rw [if_pos rfl]
theorem rem_ne {b : Addr} (hb : b ≠ D) : rem H D b = H b := by unfold rem; rw [if_neg hb]
theorem rem_upd {o : HO} : rem (upd H D o) D = rem H D := by
  funext b
  by_cases hb : b = D
  · subst hb; rw [rem_self, rem_self]
  · rw [rem_ne hb, rem_ne hb, upd_ne hb]
theorem rem_none (hD : H D = none) : rem H D = H := by
  funext b
  by_cases hb : b = D
  · subst hb; rw [rem_self, hD]
  · rw [rem_ne hb]
theorem upd_rem {o : HO} (hD : H D = some o) : upd (rem H D) D o = H := by
  funext b
  by_cases hb : b = D
  · subst hb; rw [upd_same, hD]
  · rw [upd_ne hb, rem_ne hb]
theorem ext_rem (hD : H D = some (.lst acc)) : Ext ρ ρ H (rem H D) := ⟨fun _ _ e => e, fun b xs e => by
  rw [rem_ne fun z => by subst z; rw [hD] at e; cases e]; exact e, fun b o u e => by
  rw [rem_ne fun z => by subst z; rw [hD] at e; cases e]; exact e⟩
theorem ext_rem' : Ext ρ ρ (rem H D) H := ⟨fun _ _ e => e, fun b xs e => by
  by_cases hb : b = D
  · subst hb; rw [rem_self] at e; cases e
  · rw [rem_ne hb] at e; exact e, fun b o u e => by
  by_cases hb : b = D
  · subst hb; rw [rem_self] at e; cases e
  · rw [rem_ne hb] at e; exact e⟩
theorem Rep.rem (R : Rep K ρ h H) (hD : H D = some (.lst acc)) (hn : D ∉ ρ) : Rep K ρ h (Ev.rem H D) := by
  refine ⟨R.len, R.nd, fun i o a e1 e2 => (R.ob i o a e1 e2).ext (ext_rem hD) fun u hu => ?_⟩
  have : a ≠ D := fun z => by subst z; exact hn (List.mem_of_getElem? e2)
  rw [rem_ne this]
  exact hu
theorem Rep.unrem (R : Rep K ρ h (Ev.rem H D)) : Rep K ρ h H := by
  refine ⟨R.len, R.nd, fun i o a e1 e2 => (R.ob i o a e1 e2).ext ext_rem' fun u hu => ?_⟩
  by_cases hb : a = D
  · subst hb; rw [rem_self] at hu; cases hu
  · rw [rem_ne hb] at hu; exact hu
theorem Step.rem (s : Step ρ ρ' H H') : Step ρ ρ' (Ev.rem H D) (Ev.rem H' D) := by
  refine ⟨s.pre, fun b hb => ?_, fun b o e hb => ?_, fun b o u e => ?_⟩
  · rcases s.new b hb with z | z
    · exact .inl z
    · right
      by_cases hd : b = D
      · subst hd; exact rem_self
      · rw [rem_ne hd]; exact z
  · by_cases hd : b = D
    · subst hd; rw [rem_self] at e; cases e
    · rw [rem_ne hd] at e ⊢
      exact s.keep b o e hb
  · by_cases hd : b = D
    · subst hd; rw [rem_self] at e; cases e
    · rw [rem_ne hd] at e ⊢
      exact s.frz b o u e
theorem Post.beside {α : Type} {r : R α} {Φ : α → List Addr → Hea → Hp → Prop} (hD : H D = some (.lst acc)) (hn : D ∉ ρ) (p : Post K EX0 r ρ (rem H D) Φ) :
    Post K EX0 r ρ H fun a ρ' h' H' => Φ a ρ' h' (rem H' D) ∧ H' D = some (.lst acc) ∧ D ∉ ρ' := by
  cases r with
  | stk => exact p
  | ex x h' => exact fun ρ' H' s R => (p (ρ') (rem H' D) s.rem (by
      have hn' : D ∉ ρ' := fun z => by
        rcases s.new D z with q | q
        · exact hn q
        · rw [hD] at q; cases q
      exact R.rem (s.keep D _ hD hn) hn'))
  | ok a h' =>
    intro ρ' H' s R
    have hn' : D ∉ ρ' := fun z => by
      rcases s.new D z with q | q
      · exact hn q
      · rw [hD] at q; cases q
    have hD' := s.keep D _ hD hn
    exact ⟨p ρ' (rem H' D) s.rem (R.rem hD' hn'), hD', hn'⟩
theorem wipe_get {σ : L2.St} : ∀ {own : List Nat} {j : Nat}, (L2.wipe σ own)[j]? = if j ∈ own ∧ j < σ.length then some none else σ[j]?
  | [], j => by simp [L2.wipe]
  | v :: vs, j => by
    show ((L2.wipe σ vs).set v none)[j]? = _
    by_cases hj : v = j
    · subst hj
      by_cases hl : v < σ.length
      · rw [List.getElem?_set_self (by rw [wipe_length]; exact hl)]
        simp [hl]
      · rw [List.getElem?_eq_none (by simp [wipe_length]; omega)]
        simp [hl]
    · rw [List.getElem?_set_ne hj, wipe_get (own := vs)]
      have : j ≠ v := fun z => hj z.symm
      simp [this]
theorem wipe_same {σ σ2 : L2.St} {own : List Nat} {sl : List Nat} (hs : ∀ j ∈ sl, j ∈ own) (hl : σ2.length = (L2.wipe σ own).length) (ha : ∀ j : Nat, j ∉ sl → σ2[j]? = (L2.wipe σ own)[j]?) : L2.wipe σ2 own = L2.wipe σ own := by
  rw [wipe_length] at hl
  refine List.ext_getElem? fun j => ?_
  rw [wipe_get, wipe_get, hl]
  by_cases hj : j ∈ own
  · by_cases hlt : j < σ.length
    · simp [hj, hlt]
    · rw [List.getElem?_eq_none (by omega), List.getElem?_eq_none (by omega)]
  · have := ha j fun z => hj (hs j z)
    rw [wipe_get] at this
    simp only [hj, false_and, if_false] at this ⊢
    exact this
theorem Post.calm {α β : Type} {EX : EX1} {r : R α} {f : α → Hea → R β} {Φ : β → List Addr → Hea → Hp → Prop} (p : Post K EX (r.calm.bind f) ρ H Φ) : Post K EX0 r ρ H fun a ρ1 h1 H1 => Post K EX (f a h1) ρ1 H1 Φ := by
  cases r with
  | stk => exact p
  | ex x h' => exact p.elim
  | ok a h' => exact fun ρ' H' s R => Post.step s p
end
section
variable {C : Cfg}
theorem Fit.blk {X : Cx} {S : SC} (F : Fit C X S) {scope : Scope} {own : List (Str × Nat)} (ok : BlkOk X.N X.env.scope scope own) (s : Shared) (H : Hp) (D : Addr) (cl : List (Str × Addr)) (fp : List Addr) :
    Fit C (X.blk s H scope (compEnvC scope cl D X.env) fp) (S.blk scope) where
  N := F.N
  nd := F.nd
  names := by
    show (relS scope X.env.scope).names = (relS scope (scOf S.names)).names
    unfold relS scOf
    simp only
    rw [F.names, F.kind]
  kind := ok.kind
  fn := fun x hx => hx
  calm := F.calm
  hu := F.hu
  gd := F.gd
  po := PassesOwn.never
  defs := F.defs
  cons := F.cons
  blts := F.blts
  flds := F.flds
  mkrs := F.mkrs
  mths := F.mths
theorem blkC_names {N : List Str} {sc sc' scope : Scope} {own : List (Str × Nat)} (h : sc.names = sc'.names) : blkC N sc scope own = blkC N sc' scope own := by
  unfold blkC
  rw [h]
theorem foldedSet {e : Expr} (h : isSetE e = false) (env : Env) (x : Value) : foldedSetIterable e env x = pure x := by
  cases e <;> first | rfl | cases h
def lcF (C : Cfg) (own : List Nat) (elt : T .e) (g : T .g) (c : T .t) (sp : Slots) : P → Hea → R (Option P) := fun p h =>
  (ev C g p (wipe sp own) h).bind fun s' h => (ev C c () s' h).bind fun b h => if b then (ev C elt () s' h).bind fun v h => .ok (some v) h else .ok none h
theorem lc_key {K : Kw} {own : List Nat} {elt : T .e} {g : T .g} {c : T .t} {w : Wk} {J : It} {tt : TT} {ρ1 : List Addr} {h1 : Hea} {H1 : Hp} {sp : Slots} {σ : L2.St} {D : Addr} {Ψ : List P → List Addr → Hea → Hp → Prop} {Q : VK}
    (hs : ∀ j ∈ gSlots g, j ∈ own) (htt : ∀ ρ sp h σ H Q', Rep K ρ h H → RS K ρ H sp σ → Post K EX0 (ev C c () sp h) ρ H (fun b _ _ H' => Q' b H') → tt σ H Q')
    (R1 : Rep K ρ1 h1 H1) (r1 : RS K ρ1 H1 sp σ) (wk : WkOk K ρ1 H1 w J) (hD : H1 D = none) (p : Post K EX0 (lcL w.stay (lcF C own elt g c sp) w.its [] h1) ρ1 H1 Ψ)
    (fin : ∀ acc ρ' h' H' vs, Rep K ρ' h' H' → Rvs K ρ' H' acc vs → H' D = none → Ψ acc ρ' h' H' → Q (.ref D) (upd H' D (.lst vs))) :
    ∃ W : Nat → Nat → Hp → Prop, (∃ m, W 0 m (upd H1 D (.lst []))) ∧ ∀ i m H, W i m H →
      (J.stop i H ∧ Q (.ref D) H) ∨ (J.go i H ∧ ∃ Nx : Hp → Prop, (∀ H', Nx H' → ∃ m', m' < m ∧ W (i + 1) m' H') ∧ ∀ x H', J.yld i H x H' → tG C K EX0 g x (L2.wipe σ own) H' fun σ2 H2 => L2.wipe σ2 own = L2.wipe σ own ∧ tt σ2 H2 fun b H3 =>
        if b = true then tE C K EX0 elt σ2 H3 fun y H4 => ∃ acc, H4 D = some (.lst acc) ∧ acc.length < sizeLine ∧ Nx (upd H4 D (.lst (acc ++ [y]))) else Nx H3) := by
  let Inv' : Nat → Hp → Prop := fun i H => ∃ (ρ : List Addr) (h : Hea) (acc : List P) (vs : List V), H D = some (.lst vs) ∧ D ∉ ρ ∧ Rep K ρ h (rem H D) ∧ RS K ρ (rem H D) sp σ ∧ Rvs K ρ (rem H D) acc vs ∧ Ext ρ1 ρ H1 (rem H D) ∧
    Post K EX0 (lcL w.stay (lcF C own elt g c sp) (w.its.drop i) acc h) ρ (rem H D) Ψ
  refine ⟨fun i m H => m = w.its.length - i ∧ i ≤ w.its.length ∧ Inv' i H, ⟨w.its.length, by simp, Nat.zero_le _, ρ1, h1, [], [], upd_same, R1.fresh hD, ?_⟩, ?_⟩
  · rw [rem_upd, rem_none hD]
    exact ⟨R1, r1, rfl, .refl, p⟩
  · rintro i m H ⟨rfl, hi, ρ, h, acc, vs, hDl, hn, R, r, hv, ex, p⟩
    have R' : Rep K ρ h H := R.unrem
    have ex' : Ext ρ1 ρ H1 H := ex.trans ext_rem'
    by_cases hlt : i < w.its.length
    · right
      rw [List.drop_eq_getElem_cons hlt] at p
      unfold lcL at p
      obtain ⟨hold, p⟩ := p.ite
      obtain ⟨go, yld⟩ := (wk ρ h H ex' R' hold).1 i hlt
      refine ⟨go, Inv' (i + 1), fun H' q => ⟨w.its.length - (i + 1), by omega, rfl, hlt, q⟩, fun x H' y => ?_⟩
      obtain ⟨st, R2, q, hq, rq⟩ := yld x H' y
      have hDl2 : H' D = some (.lst vs) := st.keep D _ hDl hn
      rw [List.getElem?_eq_getElem hlt] at hq
      cases hq
      -- to the heap in which the item stands
      have p := Post.step (st.rem (D := D)) p
      have exr : Ext ρ ρ (rem H D) (rem H' D) := R.ext st.rem
      have p2 := Post.beside hDl2 hn p.bind
      unfold lcF at p2
      refine ⟨ρ, wipe sp own, h, _, R2, (r.ext (exr.trans ext_rem')).wipe own, rq, p2.bind.imp fun s' ρ2 h2 H2 _ _ ⟨st2, R3, p3⟩ σ2 r2 l2 a2 => ⟨wipe_same hs l2 a2, ?_⟩⟩
      refine htt ρ2 s' h2 σ2 H2 _ R3 r2 (p3.bind.imp fun b ρ3 h3 H3 _ _ ⟨st3, R4, p4⟩ => ?_)
      have ext3 : Ext ρ ρ3 H' H3 := (R2.ext st2).trans (R3.ext st3)
      cases b with
      | false =>
        obtain ⟨⟨_, _, q4⟩, hD4, hn4⟩ := p4.of_ok R4
        have exf : Ext ρ ρ3 (rem H D) (rem H3 D) := exr.trans ((ext_rem'.trans ext3).trans (ext_rem hD4))
        exact ⟨ρ3, h3, acc, vs, hD4, hn4, R4.rem hD4 hn4, r.ext exf, hv.ext exf, ex.trans exf, q4⟩
      | true =>
        refine tE.bind R4 (r2.ext (R3.ext st3)) p4 fun v ρ4 h4 H4 y st4 R5 r5 hy p5 => ?_
        obtain ⟨⟨_, _, q4⟩, hD4, hn4⟩ := p5.of_ok R5
        obtain ⟨hl, q4⟩ := q4.ite
        have exf : Ext ρ ρ4 (rem H D) (rem H4 D) := exr.trans ((ext_rem'.trans (ext3.trans (R4.ext st4))).trans (ext_rem hD4))
        refine ⟨vs, hD4, by rw [← sz_eq, hv.length]; exact hl, ρ4, h4, acc ++ [v], vs ++ [y], upd_same, hn4, ?_⟩
        rw [rem_upd]
        exact ⟨R5.rem hD4 hn4, r.ext exf, (hv.ext exf).append (Rvs.cons (hy.ext (ext_rem hD4)) .nil), ex.trans exf, q4⟩
    · left
      have e : i = w.its.length := by omega
      subst e
      rw [List.drop_length] at p
      unfold lcL at p
      obtain ⟨hold, p⟩ := p.ite
      refine ⟨(wk ρ h H ex' R' hold).2 _ (Nat.le_refl _), ?_⟩
      have := fin acc ρ h (rem H D) vs R hv rem_self (p.of_ok R)
      rwa [upd_rem hDl] at this
theorem snd_lc {own : List Nat} {elt : T .e} {g : T .g} {i : T .i} {c : T .t} (he : SndE C elt) (hg : SndG C g) (hi : SndI C i) (hc : SndT C c) : SndE C (.lc own elt g i c) ∧
    ∀ (X : Cx) (S : SC) (e : Expr), Fit C X S → chk S (.lc own elt g i c) e = true → ∀ (x : Str) (j : Nat) (px ps : Pos), X.N[j]? = some x → X.env.scope.names.lookup x = some .local → swapsWith e (some (.Name x px)) ps.line X.env = pure true →
      PS X (.Assign [.Name x px] e ps) (tAsg (tE C X.kw EX0 (.lc own elt g i c)) (gName j)) := by
  have all : ∀ (X : Cx) (S : SC) (e : Expr), Fit C X S → chk S (.lc own elt g i c) e = true → PE X e (tE C X.kw EX0 (.lc own elt g i c)) ∧
      ∀ (x : Str) (j : Nat) (px ps : Pos), X.N[j]? = some x → X.env.scope.names.lookup x = some .local → swapsWith e (some (.Name x px)) ps.line X.env = pure true → PS X (.Assign [.Name x px] e ps) (tAsg (tE C X.kw EX0 (.lc own elt g i c)) (gName j)) := by
    intro X S e F h
    unfold chk at h
    split at h
    · rename_i el tg it ifs scope pos
      simp only [Bool.and_eq_true, decide_eq_true_eq, Bool.not_eq_true'] at h
      obtain ⟨⟨⟨⟨⟨⟨h1, h2⟩, h3, h3'⟩, h4⟩, h5⟩, h6⟩, h7⟩ := h
      have hb : BlkOk X.N X.env.scope scope (own.map fun j => (S.N.getD j ⟨#[]⟩, j)) := by
        refine blkOk_by ?_
        rw [F.N, blkC_names (sc' := scOf S.names) F.names]
        exact h1
      have hown : (own.map fun j => (S.N.getD j ⟨#[]⟩, j)).map (·.2) = own := by
        rw [List.map_map]; simp [Function.comp_def]
      have Fb := fun s H D cl fp => F.blk hb s H D cl fp
      obtain ⟨tt, hPT, htt⟩ : ∃ tt : TT, (∀ (s : Shared) (H : Hp) (C' : Addr) (cl : List (Str × Addr)) (fp : List Addr), PTs (X.blk s H scope (compEnvC scope cl C' X.env) fp) ifs tt) ∧
          (∀ ρ sp h σ H Q', Rep X.kw ρ h H → RS X.kw ρ H sp σ → Post X.kw EX0 (ev C c () sp h) ρ H (fun b _ _ H' => Q' b H') → tt σ H Q') := by
        split at h7
        · split at h7
          · refine ⟨tYes, fun _ _ _ _ _ => pts_nil, fun ρ sp h σ H Q' R r p => ?_⟩
            unfold ev at p
            exact p.of_ok R
          · cases h7
        · exact ⟨tT C X.kw EX0 c, fun s H D cl fp => pts_one (hc _ _ _ (Fb s H D cl fp) h7).1, fun ρ sp h σ H Q' R r p => ⟨ρ, sp, h, R, r, p⟩⟩
        · cases h7
      have w : ∀ σ H Q, tE C X.kw EX0 (.lc own elt g i c) σ H Q → tLc (tI C X.kw EX0 i) (tG C X.kw EX0 g) tt (tE C X.kw EX0 elt) ((own.map fun j => (S.N.getD j ⟨#[]⟩, j)).map (·.2)) σ H Q := by
        intro σ H Q ⟨ρ, sp, hh, R, r, p⟩
        rw [hown]
        unfold ev at p
        refine ⟨ρ, sp, hh, R, r, p.bind.imp fun wk ρ1 h1 H1 _ _ ⟨st, R1, p1⟩ J hJ D hD => ?_⟩
        refine lc_key (Ψ := fun acc ρ h H => Val X.kw EX0 (mkLst acc h) ρ H Q) h2 htt R1 (r.ext (R.ext st)) hJ hD (Post.calm p1) fun acc ρ' h' H' vs R' hv hD' q => ?_
        obtain ⟨hl, q⟩ := q.ite
        exact Post.lst R' hv q D hD'
      exact ⟨(pe_lc F.calm F.nd (hi X S tg it F h3 h3') hb (fun s H D cl fp => hg _ _ _ (Fb s H D cl fp) h5) hPT (fun s H D cl fp => he _ _ _ (Fb s H D cl fp) h6) (foldedSet h4 _)).weak w,
        fun x j px ps hx hl hsw => ⟨fun pins s σ H Dd I q => (ps_setLc F.calm F.nd hx hl hsw (hi X S tg it F h3 h3') hb (fun s H D cl fp => hg _ _ _ (Fb s H D cl fp) h5) hPT (fun s H D cl fp => he _ _ _ (Fb s H D cl fp) h6) (foldedSet h4 _)).run pins s σ H Dd I (w _ _ _ q)⟩⟩
    · cases h
  exact ⟨fun X S e F h => (all X S e F h).1, fun X S e F h => (all X S e F h).2⟩
end
section
variable {K : Kw} {ρ ρ' : List Addr} {H H' : Hp} {h : Hea} {D : Addr} {o : HO}
def NTF (o : HO) : Prop := (∀ xs, o ≠ .tup xs) ∧ ∀ ob u, o ≠ .frz ob u
theorem extO_rem (hD : H D = some o) (hn : NTF o) : Ext ρ ρ H (rem H D) := ⟨fun _ _ e => e, fun b xs e => by
  rw [rem_ne fun z => by subst z; rw [hD] at e; exact hn.1 xs (Option.some.inj e)]; exact e, fun b ob u e => by
  rw [rem_ne fun z => by subst z; rw [hD] at e; exact hn.2 ob u (Option.some.inj e)]; exact e⟩
theorem Rep.remO (R : Rep K ρ h H) (hD : H D = some o) (ho : NTF o) (hn : D ∉ ρ) : Rep K ρ h (Ev.rem H D) := by
  refine ⟨R.len, R.nd, fun i ob a e1 e2 => (R.ob i ob a e1 e2).ext (extO_rem hD ho) fun u hu => ?_⟩
  rw [rem_ne fun z => by subst z; exact hn (List.mem_of_getElem? e2)]
  exact hu
theorem Post.besideO {α : Type} {r : R α} {Φ : α → List Addr → Hea → Hp → Prop} (hD : H D = some o) (ho : NTF o) (hn : D ∉ ρ) (p : Post K EX0 r ρ (rem H D) Φ) :
    Post K EX0 r ρ H fun a ρ' h' H' => Φ a ρ' h' (rem H' D) ∧ H' D = some o ∧ D ∉ ρ' := by
  have off : ∀ {ρ' : List Addr} {H' : Hp}, Step ρ ρ' H H' → D ∉ ρ' := fun s z => by
    rcases s.new D z with q | q
    · exact hn q
    · rw [hD] at q; cases q
  cases r with
  | stk => exact p
  | ex x h' => exact fun ρ' H' s R => p ρ' (rem H' D) s.rem (R.remO (s.keep D _ hD hn) ho (off s))
  | ok a h' => exact fun ρ' H' s R => ⟨p ρ' (rem H' D) s.rem (R.remO (s.keep D _ hD hn) ho (off s)), s.keep D _ hD hn, off s⟩
theorem dk_ntf {P : Program} {w : World} {a : Addr} {xs : DX} : NTF (dkO P w a xs) := ⟨(fun _ z => nomatch z), (fun _ _ z => nomatch z)⟩
end
section
variable {C : Cfg}
def dcF (C : Cfg) (own : List Nat) (k v : T .e) (g : T .g) (c : T .t) (sp : Slots) : P → Hea → R (Option (P × P)) := fun p h =>
  (ev C g p (wipe sp own) h).bind fun s' h => (ev C c () s' h).bind fun b h => if b then (ev C k () s' h).bind fun x h => (ev C v () s' h).bind fun y h => .ok (some (x, y)) h else .ok none h
theorem dc_key {K : Kw} {own : List Nat} {k v : T .e} {g : T .g} {c : T .t} {w : Wk} {J : It} {tt : TT} {ρ1 : List Addr} {h1 : Hea} {H1 : Hp} {sp : Slots} {σ : L2.St} {D : Addr} {Ψ : List (P × P) → List Addr → Hea → Hp → Prop} {Q : VK}
    (hs : ∀ j ∈ gSlots g, j ∈ own) (htt : ∀ ρ sp h σ H Q', Rep K ρ h H → RS K ρ H sp σ → Post K EX0 (ev C c () sp h) ρ H (fun b _ _ H' => Q' b H') → tt σ H Q')
    (R1 : Rep K ρ1 h1 H1) (r1 : RS K ρ1 H1 sp σ) (wk : WkOk K ρ1 H1 w J) (hD : H1 D = none) (p : Post K EX0 (dcL w.stay (dcF C own k v g c sp) w.its [] h1) ρ1 H1 Ψ)
    (fin : ∀ acc ρ' h' H' xs, Rep K ρ' h' H' → DKs K ρ' H' acc xs → H' D = none → Ψ acc ρ' h' H' → Q (.ref D) (upd H' D (dkO K.P K.w D xs))) :
    ∃ W : Nat → Nat → Hp → Prop, (∃ m, W 0 m (upd H1 D (dkO K.P K.w D []))) ∧ ∀ i m H, W i m H →
      (J.stop i H ∧ Q (.ref D) H) ∨ (J.go i H ∧ ∃ Nx : Hp → Prop, (∀ H', Nx H' → ∃ m', m' < m ∧ W (i + 1) m' H') ∧ ∀ x H', J.yld i H x H' → tG C K EX0 g x (L2.wipe σ own) H' fun σ2 H2 => L2.wipe σ2 own = L2.wipe σ own ∧ tt σ2 H2 fun b H3 =>
        if b = true then tE C K EX0 k σ2 H3 fun y H4 => tE C K EX0 v σ2 H4 fun z H5 => putD K D y z H5 Nx else Nx H3) := by
  let Inv' : Nat → Hp → Prop := fun i H => ∃ (ρ : List Addr) (h : Hea) (acc : List (P × P)) (xs : DX), H D = some (dkO K.P K.w D xs) ∧ D ∉ ρ ∧ Rep K ρ h (rem H D) ∧ RS K ρ (rem H D) sp σ ∧ DKs K ρ (rem H D) acc xs ∧ Ext ρ1 ρ H1 (rem H D) ∧
    Post K EX0 (dcL w.stay (dcF C own k v g c sp) (w.its.drop i) acc h) ρ (rem H D) Ψ
  refine ⟨fun i m H => m = w.its.length - i ∧ i ≤ w.its.length ∧ Inv' i H, ⟨w.its.length, by simp, Nat.zero_le _, ρ1, h1, [], [], upd_same, R1.fresh hD, ?_⟩, ?_⟩
  · rw [rem_upd, rem_none hD]
    exact ⟨R1, r1, rfl, .refl, p⟩
  · rintro i m H ⟨rfl, hi, ρ, h, acc, xs, hDl, hn, R, r, hv, ex, p⟩
    have R' : Rep K ρ h H := R.unrem
    have ex' : Ext ρ1 ρ H1 H := ex.trans ext_rem'
    by_cases hlt : i < w.its.length
    · right
      rw [List.drop_eq_getElem_cons hlt] at p
      unfold dcL at p
      obtain ⟨hold, p⟩ := p.ite
      obtain ⟨go, yld⟩ := (wk ρ h H ex' R' hold).1 i hlt
      refine ⟨go, Inv' (i + 1), fun H' q => ⟨w.its.length - (i + 1), by omega, rfl, hlt, q⟩, fun x H' y => ?_⟩
      obtain ⟨st, R2, q, hq, rq⟩ := yld x H' y
      have hDl2 : H' D = some (dkO K.P K.w D xs) := st.keep D _ hDl hn
      rw [List.getElem?_eq_getElem hlt] at hq
      cases hq
      have p := Post.step (st.rem (D := D)) p
      have exr : Ext ρ ρ (rem H D) (rem H' D) := R.ext st.rem
      have p2 := Post.besideO hDl2 dk_ntf hn p.bind
      unfold dcF at p2
      refine ⟨ρ, wipe sp own, h, _, R2, (r.ext (exr.trans ext_rem')).wipe own, rq, p2.bind.imp fun s' ρ2 h2 H2 _ _ ⟨st2, R3, p3⟩ σ2 r2 l2 a2 => ⟨wipe_same hs l2 a2, ?_⟩⟩
      refine htt ρ2 s' h2 σ2 H2 _ R3 r2 (p3.bind.imp fun b ρ3 h3 H3 _ _ ⟨st3, R4, p4⟩ => ?_)
      have ext3 : Ext ρ ρ3 H' H3 := (R2.ext st2).trans (R3.ext st3)
      cases b with
      | false =>
        obtain ⟨⟨_, _, q4⟩, hD4, hn4⟩ := p4.of_ok R4
        have exf : Ext ρ ρ3 (rem H D) (rem H3 D) := exr.trans ((ext_rem'.trans ext3).trans (extO_rem hD4 dk_ntf))
        exact ⟨ρ3, h3, acc, xs, hD4, hn4, R4.remO hD4 dk_ntf hn4, r.ext exf, hv.ext exf, ex.trans exf, q4⟩
      | true =>
        refine tE.bind R4 (r2.ext (R3.ext st3)) p4 fun kk ρ4 h4 H4 y st4 R5 r5 hy p5 => ?_
        refine tE.bind R5 r5 p5 fun vv ρ5 h5 H5 z st5 R6 r6 hz p6 => ?_
        obtain ⟨⟨_, _, q6⟩, hD6, hn6⟩ := p6.of_ok R6
        obtain ⟨hl, q6⟩ := q6.ite
        rw [Bool.and_eq_true, decide_eq_true_eq] at hl
        have hy6 := hy.ext (R5.ext st5)
        have exf : Ext ρ ρ5 (rem H D) (rem H5 D) := exr.trans ((ext_rem'.trans ((ext3.trans (R4.ext st4)).trans (R5.ext st5))).trans (extO_rem hD6 dk_ntf))
        have dk6 := hv.ext exf
        refine ⟨ρ5, acc, xs, kk, hD6, dk6.ext ext_rem', hl.2, hy6, by rw [← sz_eq, hv.length]; exact hl.1, fun b eb => ?_⟩
        subst eb
        have exD := extO_rem (ρ := ρ5) hD6 dk_ntf
        refine ⟨ρ5, h5, kvPut acc kk vv, hput xs (nkey kk) b z, upd_same, hn6, ?_⟩
        rw [rem_upd]
        exact ⟨R6.remO hD6 dk_ntf hn6, r.ext exf, dk6.put hl.2 (hy6.ext exD) (hz.ext exD), ex.trans exf, q6⟩
    · left
      have e : i = w.its.length := by omega
      subst e
      rw [List.drop_length] at p
      unfold dcL at p
      obtain ⟨hold, p⟩ := p.ite
      refine ⟨(wk ρ h H ex' R' hold).2 _ (Nat.le_refl _), ?_⟩
      have := fin acc ρ h (rem H D) xs R hv rem_self (p.of_ok R)
      rwa [upd_rem hDl] at this
theorem snd_dc {own : List Nat} {k v : T .e} {g : T .g} {i : T .i} {c : T .t} (hk : SndE C k) (hv : SndE C v) (hg : SndG C g) (hi : SndI C i) (hc : SndT C c) : SndE C (.dc own k v g i c) := by
  intro X S e F h
  unfold chk at h
  split at h
  · rename_i kx vx tg it ifs scope pos
    simp only [Bool.and_eq_true, decide_eq_true_eq, Bool.not_eq_true'] at h
    obtain ⟨⟨⟨⟨⟨⟨h1, h2⟩, h3, h3'⟩, h4⟩, h5⟩, h6, h6'⟩, h7⟩ := h
    have hb : BlkOk X.N X.env.scope scope (own.map fun j => (S.N.getD j ⟨#[]⟩, j)) := by
      refine blkOk_by ?_
      rw [F.N, blkC_names (sc' := scOf S.names) F.names]
      exact h1
    have hown : (own.map fun j => (S.N.getD j ⟨#[]⟩, j)).map (·.2) = own := by
      rw [List.map_map]; simp [Function.comp_def]
    have Fb := fun s H D cl fp => F.blk hb s H D cl fp
    obtain ⟨tt, hPT, htt⟩ : ∃ tt : TT, (∀ (s : Shared) (H : Hp) (C' : Addr) (cl : List (Str × Addr)) (fp : List Addr), PTs (X.blk s H scope (compEnvC scope cl C' X.env) fp) ifs tt) ∧
        (∀ ρ sp h σ H Q', Rep X.kw ρ h H → RS X.kw ρ H sp σ → Post X.kw EX0 (ev C c () sp h) ρ H (fun b _ _ H' => Q' b H') → tt σ H Q') := by
      split at h7
      · split at h7
        · refine ⟨tYes, fun _ _ _ _ _ => pts_nil, fun ρ sp h σ H Q' R r p => ?_⟩
          unfold ev at p
          exact p.of_ok R
        · cases h7
      · exact ⟨tT C X.kw EX0 c, fun s H D cl fp => pts_one (hc _ _ _ (Fb s H D cl fp) h7).1, fun ρ sp h σ H Q' R r p => ⟨ρ, sp, h, R, r, p⟩⟩
      · cases h7
    refine (pe_dcG (O0 := fun D => dkO X.prog X.w D []) (Put := putD X.kw) (wi := tI C X.kw EX0 i) (g := tG C X.kw EX0 g) (tt := tt) (tk := tE C X.kw EX0 k) (tv := tE C X.kw EX0 v) (fun H hh hb => dkO_empty H hh hb) (putD_ok F.hu) F.calm F.nd (hi X S tg it F h3 h3') hb (fun s H D cl fp => hg _ _ _ (Fb s H D cl fp) h5) hPT (fun s H D cl fp => hk _ _ _ (Fb s H D cl fp) h6)
      (fun s H D cl fp => hv _ _ _ (Fb s H D cl fp) h6') (foldedSet h4 _)).weak fun σ H Q ⟨ρ, sp, hh, R, r, p⟩ => ?_
    unfold tDcG
    rw [hown]
    unfold ev at p
    refine ⟨ρ, sp, hh, R, r, p.bind.imp fun wk ρ1 h1 H1 _ _ ⟨st, R1, p1⟩ J hJ D hD => ?_⟩
    exact dc_key (Ψ := fun acc ρ h H => Val X.kw EX0 (mkObj (.dic acc) h) ρ H Q) h2 htt R1 (r.ext (R.ext st)) hJ hD (Post.calm p1) fun acc ρ' h' H' xs R' hv hD' q => Post.dic0 R' hv q D hD'
  · cases h
theorem rg_rv {K : Kw} {ρ : List Addr} {H : Hp} (i j : Int) : Rvs K ρ H ((List.range (j - i).toNat).map fun k : Nat => P.int (i + (k : Int))) (rgV i j) := by
  unfold rgV
  induction List.range (j - i).toNat with
  | nil => exact .nil
  | cons k r ih => exact .cons rfl ih
theorem snd_lrng {a b : T .e} (ha : SndE C a) (hb : SndE C b) : SndE C (.lrng a b) := by
  intro X S e F h
  unfold chk at h
  split at h
  · simp only [Bool.and_eq_true, decide_eq_true_eq, Bool.not_eq_true'] at h
    obtain ⟨⟨⟨⟨⟨⟨⟨⟨⟨h1, rfl⟩, h2⟩, h3⟩, rfl⟩, h4⟩, h5⟩, h6⟩, h7⟩, h8⟩ := h
    refine (pe_listRg F.calm (F.gl h1).1 (F.blts _ h2) (prg_2 (F.gl h3).1 (F.blts _ h4) (ha X S _ F h5) (hb X S _ F h6) (starEach_cons h7) (starEach_cons h8) (by rw [starEach_cons h8]; rfl)) (starEach_cons rfl)).weak fun σ H Q ⟨ρ, sp, hh, R, r, p⟩ => ?_
    unfold ev at p
    refine tE.bind R r p fun x ρ1 h1 H1 v st R1 r1 hv p1 => ?_
    refine tE.bind R1 r1 p1 fun y ρ2 h2 H2 w st2 R2 r2 hw p2 => ?_
    unfold lrngV at p2
    split at p2
    · cases hv
      cases hw
      obtain ⟨⟨⟨c1, c2⟩, ⟨c3, c4⟩, c5⟩, p2⟩ := p2.ite
      refine ⟨_, _, rfl, rfl, ⟨by simpa using c1, by simpa using c2, by simpa using c3, by simpa using c4, by rw [show (2 : Nat) ^ 24 = SZ by decide]; exact c5⟩, fun q hq => ?_⟩
      exact Post.lst R2 (rg_rv _ _) p2 q hq
    · exact p2.elim
  · cases h
theorem snd_dic0 : SndE C .dic0 := by
  intro X S e F h
  unfold chk at h
  split at h
  · refine pe_dic0.weak fun σ H Q ⟨ρ, sp, hh, R, r, p⟩ => ?_
    unfold ev at p
    exact fun q hq => Post.dic0 (kvs := []) (xs := []) R rfl p q hq
  · cases h
end
end Ev

namespace L2
open PySem PySem.Spec PyProof.Rows
def FewK (zs : List (Addr × List Int)) : Prop := ∀ D : List (List Int), D.Nodup → (∀ x ∈ D, x ∈ zs.map (·.2)) → D.length < 63
theorem FewK.got {zs M : List (Addr × List Int)} {i : Nat} (f : FewK zs) (g : Got zs i M) (nd : (M.map (·.2)).Nodup) : M.length + 1 < 64 := by
  have := f (M.map (·.2)) nd fun x hx => by
    obtain ⟨p, hp, rfl⟩ := List.mem_map.mp hx
    exact List.mem_map.mpr ⟨p, List.mem_of_mem_take (g.sub p hp), rfl⟩
  rw [List.length_map] at this
  omega
section
variable {P : Program} {w : World} {A : Around} {E : Value → Shared → Prop} {s : Shared}
theorem wide_loop {J : Addr} {own wri : List Addr} {Γ : Array GenState → Array GenState → Prop} {m : Nat} {Pi : Nat → Value → Prop} {Si : Nat → Shared → Prop} {Ω : Result → Shared → Prop}
    (K : WalksS P w A.in1 J own wri Γ m Pi Si) (Z : Addr) (hZ : Z ∉ own) (zs : List (Addr × List Int)) (em : m = zs.length) (few : FewK zs) (seen : ∀ i v, Pi i v → ∃ p, zs[i]? = some p ∧ v = .ref p.1)
    (g0 : Heap) (old : ∀ p ∈ zs, IsT P w g0 p.2 p.1) (newZ : g0.get? Z = none) (newW : ∀ b ∈ wri, g0.get? b = none) (room : A.in1.units < cLine) :
    ∀ (left at_ : Nat) (s : Shared), m - at_ = left → at_ ≤ m → Si at_ s → (∀ b o, g0.get? b = some o → s.heap.get? b = some o) → (∃ M es ep t, SetTR P w s.heap Z M es ep t ∧ Got zs at_ M) →
      (∀ s' M es ep t, Moved (Z :: wri) Γ s s' → SetTR P w s'.heap Z M es ep t → Got zs m M → (∀ b o, g0.get? b = some o → s'.heap.get? b = some o) → Ω (.ok (.ret .none)) s') →
      codeAny (model P w) A (.builtin "set.update.loop" ⟨[.ref Z, .ref J], []⟩) Ω s := by
  have outW : Z ∉ wri := fun h => hZ (K.sub _ h)
  have wider : ∀ b ∈ wri, b ∈ Z :: wri := fun b hb => List.mem_cons_of_mem _ hb
  have stays : ∀ {a c : Shared}, Moved wri Γ a c → (∀ b o, g0.get? b = some o → a.heap.get? b = some o) → ∀ b o, g0.get? b = some o → c.heap.get? b = some o := fun mv q b o e =>
    mv.heap b o (fun hb => by have z := newW b hb; rw [e] at z; cases z) (q b o e)
  have still : ∀ {a c : Shared} {M : List (Addr × List Int)} {es : Array (Int × Value)} {ep : Nat} {t : SetTable} {i : Nat}, Moved wri Γ a c → (∀ b o, g0.get? b = some o → a.heap.get? b = some o) → Got zs i M → SetTR P w a.heap Z M es ep t → SetTR P w c.heap Z M es ep t := fun mv q g r =>
    r.keep (fun o e => mv.heap Z o outW e) fun p hp => isT_keep (old p (List.mem_of_mem_take (g.sub p hp))) (stays mv q)
  intro left
  induction left with
  | zero =>
    intro at_ s e1 e2 st q ⟨M, es, ep, t, r, g⟩ fin
    obtain rfl : at_ = m := by omega
    refine codeAny_builtin F.entry_set_update_loop ?_
    rw [Around.under_plainId F.plain_set_update_loop _]
    show wpAny _ A.in1 (pyNext (.ref J) >>= _) _ _ s
    refine wpAny_bind (K.done s _ _ st fun c mv => ?_)
    show wpAny _ A.in1 (ret Value.none) _ _ c
    exact wpAny_pure (fin c M es ep t (mv.mono wider) (still mv q g r) g (stays mv q))
  | succ left ih =>
    intro at_ s e1 e2 st q ⟨M, es, ep, t, r, g⟩ fin
    have lt : at_ < m := by omega
    refine codeAny_builtin F.entry_set_update_loop ?_
    rw [Around.under_plainId F.plain_set_update_loop _]
    show wpAny _ A.in1 (pyNext (.ref J) >>= _) _ _ s
    refine wpAny_bind (K.item at_ s _ _ lt st fun v c hv st' mv => ?_)
    obtain ⟨p, hp, rfl⟩ := seen at_ v hv
    have q' := stays mv q
    have r' := still mv q g r
    have px : IsT P w c.heap p.2 p.1 := isT_keep (old p (List.mem_of_getElem? hp)) q'
    show wpAny _ A.in1 (holding [Value.ref p.1] (setAdd Z (.ref p.1)) >>= _) _ _ c
    refine wpAny_bind (wpAny_holding ?_)
    unfold setAdd
    refine wpAny_holding (wpAny_bind (wpAny_pyHash_tuple room px ?_))
    refine add_at (s := { c with toks := c.toks + (p.2.length + 1) }) r' px room (few.got g r.nd) fun b h' M' es' ep' t' but r2 c1 c2 => ?_
    have g' : Got zs (at_ + 1) M' := by
      by_cases z : p.2 ∈ M.map (·.2)
      · rw [c1 z]; exact g.same hp z
      · exact g.more hp (c2 z)
    have q2 : ∀ b o, g0.get? b = some o → h'.get? b = some o := fun b o e => (but.2 b (fun z => by rw [z, newZ] at e; cases e)).trans (q' b o e)
    refine wpAny_pure ⟨plainId_quiet F.plain_set_update_loop _, ih (at_ + 1) _ (by omega) lt (K.frame _ c _ _ st' (Nat.le_add_right _ _) fun b hb o e => ?_) q2 ⟨M', es', ep', t', r2, g'⟩ fun c2 M2 es2 ep2 t2 mv2 r3 g3 q3 => ?_⟩
    · rw [but.2 b (fun h : b = Z => hZ (h ▸ hb))]; exact e
    · refine fin c2 M2 es2 ep2 t2 (Moved.trans K.gtrans ((mv.mono wider).then_heap (Nat.le_add_right _ _) fun b o hb e => ?_) mv2) r3 g3 q3
      rw [but.2 b (fun h : b = Z => hb (by rw [h]; simp))]; exact e
abbrev setO (w : World) : Obj := { cls := .type "set", dict := none, data := .set #[] 0 (.fresh 0 0 (!w.params.followText "set-order")) }
set_option maxHeartbeats 3200000 in
theorem wide_call {l : Addr} {its : Array Value} (zs : List (Addr × List Int)) {Q : Value → Shared → Prop} (calm : A.handled = none) (isl : s.heap.IsList l its) (eits : its.toList = zs.map fun p => Value.ref p.1)
    (rows : ∀ p ∈ zs, IsT P w s.heap p.2 p.1) (few : FewK zs) (room : A.units + 3 < cLine)
    (fin : ∀ (g : Heap) (tk : Nat) M es ep t, SetTR P w g s.heap.objs.size M es ep t → Got zs zs.length M → (∀ b o, s.heap.get? b = some o → g.get? b = some o) → Q (.ref s.heap.objs.size) { s with heap := g, toks := tk }) :
    wpAny (model P w) A (call (.type "set") [.ref l]) Q E s := by
  have esz : its.size = zs.length := by
    have z := congrArg List.length eits
    simpa using z
  obtain ⟨c, tl, hmro⟩ := F.called_set.mro
  have f1 := F.called_set.made
  have f2 := F.called_set.sub
  refine wpAny_call (codeAny_of_tree ?_)
  show wpAny _ _ (callAny (.type "set") _) _ _ _
  refine wpAny_pure ⟨Code.quiet_builtin _ (by decide +kernel), codeAny_builtin F.entry_type_call ?_⟩
  rw [Around.under_plain (weight_type_call_type "set" [.ref l] []) rfl]
  have f3 := F.called_set.notType
  have f4 := F.called_set.canCreate
  have f5 := F.typeCall_set_1 (.ref l)
  repeat (any_goals (first | assumption | wp_step))
  refine codeAny_mono (code_set_led1 (.ref l) (E := E) (Q₁ := fun v c => v = .ref s.heap.objs.size ∧ c = { s with heap := s.heap.push (setO w) }) ⟨rfl, rfl⟩) fun r c hr => ?_
  match r, hr with
  | .error e, hr => exact hr
  | .ok (.ret v), hr =>
      obtain ⟨rfl, rfl⟩ := hr
      have gS : (s.heap.push (setO w)).get? s.heap.objs.size = some (setO w) := Heap.get?_push_size _ rfl
      have tS : Shared.TypeIs { s with heap := s.heap.push (setO w) } (.ref s.heap.objs.size) "set" := ⟨_, gS, rfl⟩
      have f6 := F.called_set.init.lookup
      have f7 := F.called_set.init.bind (.ref s.heap.objs.size)
      repeat (any_goals (first | assumption | wp_step))
      refine codeAny_mono (codeAny_call_builtin (R := wants (fun v d => v = .none ∧ ∃ g tk M es ep t, d = { s with heap := g, toks := tk } ∧ SetTR P w g s.heap.objs.size M es ep t ∧ Got zs zs.length M ∧
          (∀ b o, s.heap.get? b = some o → g.get? b = some o)) E) F.called_set.init.plain F.entry_set_init (check_set_init_1 tS ?_)) fun r2 d hr2 => ?_
      · obtain ⟨⟨oc, od, ot, os⟩, gl, e1, nl, e2⟩ := isl
        simp only at e1 e2
        subst e1 e2
        have gl' : (s.heap.push (setO w)).get? l = some { cls := .type "list", dict := od, data := .seq its nl, slots := os } := Heap.get?_push_of_some _ gl
        have f8 := F.sub_list_set
        have f9 := F.sub_list_frozenset
        have ne1 : (Value.type "list" == Value.type "dict") = false := by decide
        have il : (s.heap.push (setO w)).IsList l its := ⟨_, gl', rfl, nl, rfl⟩
        unfold Builtin.«set.__init__» noKeywords Builtin.Frozenset.updateFrom
        generalize hp : pyIter = pit
        wp_walk
        subst hp
        refine wpAny_pyIter_list il (wpAny_bind (wpAny_runValue ?_))
        have lt : l < s.heap.objs.size := Heap.lt_size gl
        have calm3 : A.in1.in1.in1.handled = none := by simp [calm]
        have ne2 : l ≠ (s.heap.push (setO w)).objs.size := by
          rw [Heap.size_push]; exact Nat.ne_of_lt (Nat.lt_succ_of_lt lt)
        have out : s.heap.objs.size ∉ [(s.heap.push (setO w)).objs.size, l] := by
          rw [Heap.size_push]; simp only [List.mem_cons, List.not_mem_nil, or_false, not_or]
          exact ⟨Nat.ne_of_lt (Nat.lt_succ_self _), (Nat.ne_of_lt lt).symm⟩
        have seen : ∀ (i : Nat) (v : Value), its[i]? = some v → ∃ p, zs[i]? = some p ∧ v = .ref p.1 := fun i v hv => by
          have z : its.toList[i]? = some v := by rw [Array.getElem?_toList]; exact hv
          rw [eits, List.getElem?_map, Option.map_eq_some_iff] at z
          obtain ⟨p, z1, z2⟩ := z
          exact ⟨p, z1, z2.symm⟩
        have above : ∀ b, s.heap.objs.size ≤ b → s.heap.get? b = none := fun b hb => by
          cases z : s.heap.get? b with
          | none => rfl
          | some o => exact absurd (Nat.lt_of_lt_of_le (Heap.lt_size z) hb) (Nat.lt_irrefl _)
        refine wide_loop ((Walks.list calm3 _ l ne2 its).toS) s.heap.objs.size out zs esz few seen s.heap rows (above _ (Nat.le_refl _)) (fun b hb => above b (by
            rw [List.mem_singleton.mp hb, Heap.size_push]; exact Nat.le_succ _)) (by simpa using room) (its.size - 0) 0 _ (by omega) (Nat.zero_le _)
          ⟨⟨_, Heap.get?_push_size _ rfl, rfl, rfl⟩, il.push _⟩ (fun b o e => Heap.get?_push_of_some _ (Heap.get?_push_of_some _ e)) ?isNew ?atEnd
        case isNew => exact ⟨[], #[], 0, _, setTR_fresh (Heap.get?_push_of_some _ gS), Got.zero zs⟩
        case atEnd =>
          rintro ⟨g, g2, d', tk, os⟩ M es ep t mv r g' q
          obtain rfl : g2 = s.gens := mv.gens
          obtain rfl : d' = s.drawn := mv.drawn
          obtain rfl : os = s.os := mv.os
          refine wpAny_pure ?_
          show wpAny _ _ (ret Value.none) _ _ _
          rw [esz] at g'
          exact wpAny_pure ⟨rfl, g, tk, M, es, ep, t, rfl, r, g', q⟩
      · match r2, hr2 with
        | .error e, hr2 => exact hr2
        | .ok (.ret v), hr2 =>
          obtain ⟨rfl, g, tk, M, es, ep, t, rfl, r, g', q⟩ := hr2
          repeat (any_goals (first | assumption | wp_step))
          exact fin _ _ _ _ _ _ r g' q
end
section
variable {X : Cx}
def rSetOfW (K : PySem.W.Frag) (P : Program) (w : World) : List V → Hp → VK → Prop := fun us H Q => ∃ (l : Addr) (zs : List (Addr × List Int)), us = [V.ref l] ∧ SqL K H l (zs.map fun p => V.ref p.1) ∧ (∀ p ∈ zs, SqT K H p.1 (p.2.map V.int)) ∧ (zs.length < 64 ∨ FewK zs) ∧
  ∀ a M, H a = none → (∀ p ∈ M, p ∈ zs) → (∀ p ∈ zs, p.2 ∈ M.map (·.2)) → Q (.ref a) (upd H a (SetTO P w a M))
theorem cr_setOfW (calm : X.calm = true) (room : X.A.units + 64 < cLine) : CallR X (.type "set") (rSetOfW X.K X.prog X.w) := by
  intro pins s σ H us vs Q I r h
  obtain ⟨l, zs, rfl, hl, hz, few, q⟩ := h
  rcases few with few | few
  · exact cr_setOfT calm room pins s σ H _ vs Q I r ⟨l, zs, rfl, hl, hz, few, q⟩
  obtain ⟨its, rv, pl, _⟩ := I.list hl
  have new : H s.heap.objs.size = none := I.hok.fresh (Nat.le_refl _)
  rw [Vals.ref1 r]
  refine wide_call zs (I.ok.hd calm) pl.isList (by simpa using refs_of_vals rv) (fun p hp => I.isT (hz p hp)) few (by omega) fun g tk M es ep t R got old => ?_
  exact ⟨.ref s.heap.objs.size, upd H s.heap.objs.size (SetTO X.prog X.w s.heap.objs.size M), I.laid (t' := tk) old (Nat.le_refl _) (setTO_new R.t0), rfl, q _ M new (fun p hp => List.mem_of_mem_take (got.sub p hp)) fun p hp => got.all p (by rw [List.take_length]; exact hp)⟩
end
end L2

namespace Ev
open PySem L2 PyProof.Rows
section
variable {X : Cx}
theorem each_fst {β : Type} {bs : List (V × β)} {R : Value → V × β → Prop} : ∀ {its : List Value}, Vals (bs.map (·.1)) its → (∀ b ∈ bs, ∀ v, RelV b.1 v → R v b) → PySem.W.EachIs R its bs := by
  induction bs with
  | nil => intro its r _; cases r; exact .nil
  | cons b bs ih =>
    intro its r h
    cases r with
    | cons r1 r2 => exact .cons (h b List.mem_cons_self _ r1) (ih r2 fun c hc => h c (List.mem_cons_of_mem _ hc))
theorem fst_vals {β : Type} {out : List Value} {bs : List (V × β)} (h : PySem.W.EachIs (fun v (b : V × β) => RelV b.1 v) out bs) : Vals (bs.map (·.1)) out := by
  induction h with
  | nil => exact .nil
  | cons h1 _ ih => exact .cons h1 ih
def lenD (b : V × Nat) : PyData := .int b.2
theorem call_srtL (hu : X.A.units + 200 < cLine) {pins : List (Addr × Obj)} {s : Shared} {σ : L2.St} {H : Hp} {a : Addr} {bs : List (V × Nat)} {Q : VK} (I : Inv X pins σ H s) (hq : SqL X.K H a (bs.map (·.1)))
    (hb : ∀ b ∈ bs, ∃ t xs, b.1 = .ref t ∧ SqT X.K H t xs ∧ xs.length = b.2) (q : ∀ l, H l = none → Q (.ref l) (upd H l (.lst ((bs.mergeSort (PySem.W.dataLe false lenD)).map (·.1))))) :
    wpAny (model X.prog X.w) X.A (PySem.call (.builtin "sorted") [.ref a] [(Str.ofString "key", .builtin "len")]) (EP X pins σ Q) X.xe s := by
  obtain ⟨its, r', pl, hz⟩ := I.list hq
  rw [List.length_map] at hz
  refine PySem.W.sorted_key_data (b := false) lenD pl.isList (each_fst (R := fun v b => RelV b.1 v) r' fun b _ v h => h) (PySem.W.AllAlike.of fun _ _ => by simp [lenD, PySem.W.alike]) (PySem.W.Sortable.others fun b => ⟨fun z => (nomatch z), fun xs z => (nomatch z)⟩) hz
    (fun b _ => by show X.A.units + 2 + 0 < cLine; omega) (PyProof.Rows.ksk_s1 _ _) (fun _ => PyProof.Rows.ksk_l1 _ _) (fun _ => PyProof.Rows.ksk_t4 _ _) (fun v b hv hm h tk kp => ?_) fun out c h' tk kp fr hD _ eo => ?_
  · obtain ⟨t, xs, e, hT, hl⟩ := hb b hm
    rw [e] at hv
    obtain rfl : v = Value.ref t := hv
    have I1 : Inv X pins σ H { s with heap := h, toks := tk } := I.kept kp
    obtain ⟨ts, rt, it, hs⟩ := I1.tuple hT
    have hlen := rt.length
    have hn := line63
    have hz2 : xs.length ≤ sizeLine := by omega
    exact len_tuple it (by simp only [List.size_toArray]; omega) ⟨_, _, rfl, fun _ _ e => e, by rw [List.size_toArray, ← hlen, hl]; exact .int _ _⟩
  · have hl : ((bs.mergeSort (PySem.W.dataLe false lenD)).map (·.1)).length ≤ sizeLine := by rw [List.length_map, List.length_mergeSort]; exact hz
    exact ⟨.ref (s.heap.objs.size + 1), _, I.laid (t' := tk) kp (Nat.le_succ _) (show ObjOk X.prog X.w _ _ _ (.lst _) from ⟨hl, out, c, fst_vals eo, hD⟩), rfl, q _ (I.hok.fresh (Nat.le_succ _))⟩
end
end Ev

namespace Ev
open PySem L2
abbrev encR (r : List Int) : P := .tup (r.map P.int)
abbrev datR (r : List Int) : PyData := .tuple (r.map PyData.int)
theorem dat_ints (f : Nat → Option PyData) : ∀ r : List Int, dataWs f (r.map P.int) = some (r.map PyData.int)
  | [] => rfl
  | i :: r => by simp only [List.map_cons, dataWs, dataW]; rw [dat_ints f r]; rfl
theorem dat_rows (h : Hea) : ∀ rows : List (List Int), dataOfs h (rows.map encR) = some (rows.map datR)
  | [] => rfl
  | r :: rows => by
    have ih := dat_rows h rows
    unfold dataOfs at ih ⊢
    simp only [List.map_cons, dataWs]
    rw [ih]
    have : dataW (locData h 6) (encR r) = some (datR r) := by
      show (dataWs (locData h 6) (r.map P.int)).map PyData.tuple = _
      rw [dat_ints]; rfl
    rw [this]; rfl
theorem alike_ints : ∀ a b : List Int, PySem.W.alikeAll (a.map PyData.int) (b.map PyData.int) = true
  | [], _ => rfl
  | _ :: _, [] => rfl
  | x :: a, y :: b => by
    simp only [List.map_cons, PySem.W.alikeAll]
    rw [alike_ints a b]; rfl
theorem depth_ints : ∀ a : List Int, PyData.depthAll (a.map PyData.int) = 0
  | [] => rfl
  | x :: a => by simp only [List.map_cons, PyData.depthAll]; rw [depth_ints a]; rfl
theorem sortOk_rows {rows : List (List Int)} (hne : ∀ r ∈ rows, r ≠ []) : sortOk (rows.map datR) = true := by
  unfold sortOk
  simp only [Bool.and_eq_true, Bool.or_eq_true, List.all_eq_true, decide_eq_true_eq]
  refine ⟨⟨fun d hd e he => ?_, fun d hd => ?_⟩, .inl (.inl fun d hd => ?_)⟩
  · obtain ⟨a, _, rfl⟩ := List.mem_map.mp hd
    obtain ⟨b, _, rfl⟩ := List.mem_map.mp he
    simp only [PySem.W.alike]; exact alike_ints a b
  · obtain ⟨a, _, rfl⟩ := List.mem_map.mp hd
    simp only [PyData.depth, depth_ints]; omega
  · obtain ⟨a, ha, rfl⟩ := List.mem_map.mp hd
    cases a with
    | nil => exact absurd rfl (hne _ ha)
    | cons _ _ => rfl
def rowLt : List Int → List Int → Bool
  | [], [] => false
  | [], _ :: _ => true
  | _ :: _, [] => false
  | a :: r, b :: q => decide (a < b) || (decide (a = b) && rowLt r q)
def rowLe (a b : List Int) : Bool := !rowLt b a
theorem keyToks_lt : ∀ a b : List Int, PyProof.Rows.lexLt PyProof.Rows.itemOrd (PySem.W.keyToksAll (a.map PyData.int)) (PySem.W.keyToksAll (b.map PyData.int)) = rowLt a b
  | [], [] => by rfl
  | [], _ :: _ => by rfl
  | _ :: _, [] => by rfl
  | x :: a, y :: b => by
    have ih := keyToks_lt a b
    simp only [List.map_cons, PySem.W.keyToksAll, PySem.W.keyToks, List.cons_append, List.nil_append, PyProof.Rows.lexLt, PyProof.Rows.itemLt, rowLt, ih]
    by_cases h1 : x < y
    · simp [h1]
    · by_cases h2 : x = y
      · subst h2; simp
      · have : y < x := by omega
        simp [h1, h2, this]
theorem dataLe_rows {α : Type} (k : α → PyData) {a b : α} {r q : List Int} (ha : k a = datR r) (hb : k b = datR q) : PySem.W.dataLe false k a b = rowLe r q := by
  show (!PyProof.Rows.lexLt PyProof.Rows.itemOrd (PySem.W.keyToks (k b)) (PySem.W.keyToks (k a))) = _
  rw [ha, hb]
  unfold rowLe
  congr 1
  exact keyToks_lt q r
theorem sortD_rows {h : Hea} {rows : List (List Int)} (hne : ∀ r ∈ rows, r ≠ []) : sortD h (rows.map encR) = some ((isort rowLe rows).map encR) := by
  unfold sortD
  rw [dat_rows]
  simp only [Option.bind_some, sortOk_rows hne, if_true]
  have ez : (rows.map encR).zip (rows.map datR) = rows.map fun r => (encR r, datR r) := by
    induction rows with
    | nil => rfl
    | cons r rows ih => simp only [List.map_cons, List.zip_cons_cons]; rw [ih fun r hr => hne r (List.mem_cons_of_mem _ hr)]
  rw [ez, isort_mapR (fun r => (encR r, datR r)) (le := rowLe) fun a b => dataLe_rows _ rfl rfl, List.map_map]
  rfl
where
  isort_mapR {α β : Type} (f : α → β) {le : α → α → Bool} {le' : β → β → Bool} (hle : ∀ a b, le' (f a) (f b) = le a b) : ∀ l : List α, isort le' (l.map f) = (isort le l).map f
  | [] => rfl
  | x :: xs => by
    have ins : ∀ (x : α) (l : List α), ins1 le' (f x) (l.map f) = (ins1 le x l).map f := fun x l => by
      induction l with
      | nil => rfl
      | cons y ys ih =>
        simp only [List.map_cons, ins1, hle]
        split
        · rfl
        · rw [ih]; rfl
    simp only [List.map_cons, isort]
    rw [isort_mapR f hle xs, ins]
theorem rowLt_irrefl : ∀ a : List Int, rowLt a a = false
  | [] => rfl
  | x :: a => by simp [rowLt, rowLt_irrefl a]
theorem rowLt_total : ∀ a b : List Int, rowLt a b = false → rowLt b a = false → a = b
  | [], [], _, _ => rfl
  | [], _ :: _, h, _ => by cases h
  | _ :: _, [], _, h => by cases h
  | x :: a, y :: b, h, k => by
    simp only [rowLt, Bool.or_eq_false_iff, decide_eq_false_iff_not, Bool.and_eq_false_iff] at h k
    have e : x = y := by omega
    subst e
    have h' : rowLt a b = false := by rcases h.2 with z | z; · exact absurd rfl z
                                      · exact z
    have k' : rowLt b a = false := by rcases k.2 with z | z; · exact absurd rfl z
                                      · exact z
    rw [rowLt_total a b h' k']
theorem rowLe_total : PySem.W.TotalLe rowLe := by
  have hT : PySem.W.TotalLe (PySem.W.dataLe false datR) := PySem.W.sortLe_total _ _ _
  have e : PySem.W.dataLe false datR = rowLe := by funext a b; exact dataLe_rows datR rfl rfl
  rw [e] at hT; exact hT
theorem sorted_unique : ∀ {as bs : List (List Int)}, as.Pairwise (fun a b => rowLe a b = true) → bs.Pairwise (fun a b => rowLe a b = true) → as.Nodup → bs.Nodup → (∀ x, x ∈ as ↔ x ∈ bs) → as = bs
  | [], [], _, _, _, _, _ => rfl
  | [], b :: bs, _, _, _, _, h => absurd ((h b).mpr List.mem_cons_self) (by simp)
  | a :: as, [], _, _, _, _, h => absurd ((h a).mp List.mem_cons_self) (by simp)
  | a :: as, b :: bs, pa, pb, na, nb, h => by
    obtain ⟨p1, p2⟩ := List.pairwise_cons.mp pa
    obtain ⟨q1, q2⟩ := List.pairwise_cons.mp pb
    obtain ⟨n1, n2⟩ := List.nodup_cons.mp na
    obtain ⟨m1, m2⟩ := List.nodup_cons.mp nb
    have e : a = b := by
      have ha := (h a).mp List.mem_cons_self
      have hb := (h b).mpr List.mem_cons_self
      rcases List.mem_cons.mp ha with z | z
      · exact z
      · rcases List.mem_cons.mp hb with y | y
        · exact y.symm
        · have u1 := q1 a z
          have u2 := p1 b y
          unfold rowLe at u1 u2
          rw [Bool.not_eq_true'] at u1 u2
          exact rowLt_total a b u1 u2
    subst e
    rw [sorted_unique p2 q2 n2 m2 fun x => ?_]
    constructor
    · intro hx
      rcases List.mem_cons.mp ((h x).mp (List.mem_cons_of_mem _ hx)) with z | z
      · subst z; exact absurd hx n1
      · exact z
    · intro hx
      rcases List.mem_cons.mp ((h x).mpr (List.mem_cons_of_mem _ hx)) with z | z
      · subst z; exact absurd hx m1
      · exact z
theorem isort_mem {α : Type} {le : α → α → Bool} {z : α} : ∀ {l : List α}, z ∈ isort le l ↔ z ∈ l
  | [] => Iff.rfl
  | x :: xs => by simp only [isort, ins1_mem, List.mem_cons, isort_mem (l := xs)]
theorem ins1_perm {α : Type} {le : α → α → Bool} (x : α) : ∀ l : List α, (ins1 le x l).Perm (x :: l)
  | [] => .refl _
  | y :: ys => by
    unfold ins1
    split
    · exact .refl _
    · exact ((ins1_perm x ys).cons y).trans (.swap x y ys)
theorem isort_perm {α : Type} {le : α → α → Bool} : ∀ l : List α, (isort le l).Perm l
  | [] => .refl _
  | x :: xs => (ins1_perm x _).trans ((isort_perm xs).cons x)
theorem code_rowLt : ∀ {a b : List Int}, a.length = b.length → TS.Bd 64 a → TS.Bd 64 b → decide (TS.code 64 a < TS.code 64 b) = rowLt a b
  | [], [], _, _, _ => by simp [rowLt]
  | [], _ :: _, h, _, _ => by cases h
  | _ :: _, [], h, _, _ => by cases h
  | x :: a, y :: b, h, ha, hb => by
    have hl : a.length = b.length := by simpa using h
    have ih := code_rowLt hl ha.tail hb.tail
    simp only [rowLt]
    by_cases h1 : x < y
    · rw [decide_eq_true (TS.code_lt hl ha.tail hb.tail h1)]; simp [h1]
    · by_cases h2 : x = y
      · subst h2
        have : decide (TS.code 64 (x :: a) < TS.code 64 (x :: b)) = decide (TS.code 64 a < TS.code 64 b) := decide_eq_decide.mpr (TS.code_same hl)
        rw [this, ih]; simp
      · have h3 : y < x := by omega
        have := TS.code_lt hl.symm hb.tail ha.tail h3
        rw [decide_eq_false (by omega)]
        simp [h1, h2]
theorem hasP_iff : ∀ {acc : List P} {p : P}, hasP acc p = true ↔ p ∈ acc
  | [], p => by simp [hasP]
  | q :: r, p => by
    simp only [hasP, Bool.or_eq_true, P.beq_iff, hasP_iff (acc := r), List.mem_cons]
    exact ⟨fun h => h.imp Eq.symm id, fun h => h.imp Eq.symm id⟩
theorem dedupP_mem : ∀ {xs acc : List P} {p : P}, p ∈ dedupP acc xs ↔ p ∈ acc ∨ p ∈ xs
  | [], acc, p => by simp [dedupP]
  | x :: xs, acc, p => by
    simp only [dedupP]
    split
    · rename_i e
      rw [hasP_iff] at e
      rw [dedupP_mem (xs := xs)]
      constructor
      · rintro (h | h)
        · exact .inl h
        · exact .inr (List.mem_cons_of_mem _ h)
      · rintro (h | h)
        · exact .inl h
        · rcases List.mem_cons.mp h with rfl | h
          · exact .inl e
          · exact .inr h
    · rw [dedupP_mem (xs := xs)]
      simp only [List.mem_append, List.mem_cons, List.not_mem_nil, or_false]
      constructor
      · rintro ((h | h) | h)
        · exact .inl h
        · exact .inr (.inl h)
        · exact .inr (.inr h)
      · rintro (h | h | h)
        · exact .inl (.inl h)
        · exact .inl (.inr h)
        · exact .inr h
theorem dedupP_nodup : ∀ {xs acc : List P}, acc.Nodup → (dedupP acc xs).Nodup
  | [], acc, h => h
  | x :: xs, acc, h => by
    simp only [dedupP]
    split
    · exact dedupP_nodup h
    · rename_i e
      rw [Bool.not_eq_true, ← Bool.not_eq_true, hasP_iff] at e
      refine dedupP_nodup (List.nodup_append.mpr ⟨h, by simp, fun a ha b hb => ?_⟩)
      rw [List.mem_singleton.mp hb]
      exact fun z => e (z ▸ ha)
theorem encR_inj {a b : List Int} (h : encR a = encR b) : a = b := by
  simp only [encR, P.tup.injEq] at h
  induction a generalizing b with
  | nil => cases b <;> simp_all
  | cons x a ih =>
    cases b with
    | nil => simp at h
    | cons y b =>
      simp only [List.map_cons, List.cons.injEq, P.int.injEq] at h
      rw [h.1, ih h.2]
theorem nodup_mapR {rows : List (List Int)} (h : (rows.map encR).Nodup) : rows.Nodup := List.Pairwise.of_map encR (fun _ _ hne e => hne (congrArg encR e)) h
theorem rows_part {rows : List (List Int)} : ∀ {ys : List P}, (∀ y ∈ ys, y ∈ rows.map encR) → ∃ qs : List (List Int), ys = qs.map encR ∧ ∀ q ∈ qs, q ∈ rows
  | [], _ => ⟨[], rfl, fun _ h => nomatch h⟩
  | y :: ys, h => by
    obtain ⟨r, hr, e⟩ := List.mem_map.mp (h y List.mem_cons_self)
    obtain ⟨qs, e2, h2⟩ := rows_part fun z hz => h z (List.mem_cons_of_mem _ hz)
    exact ⟨r :: qs, by rw [List.map_cons, e, e2], fun q hq => by rcases List.mem_cons.mp hq with rfl | hq; · exact hr
                                                                 · exact h2 q hq⟩
theorem sset_rows {h : Hea} {rows : List (List Int)} (hne : ∀ r ∈ rows, r ≠ []) : ∃ qs : List (List Int), sortD h (dedupP [] (rows.map encR)) = some (qs.map encR) ∧ qs.Pairwise (fun a b => rowLe a b = true) ∧ qs.Nodup ∧ ∀ x, x ∈ qs ↔ x ∈ rows := by
  obtain ⟨ds, e, hd⟩ := rows_part (rows := rows) (ys := dedupP [] (rows.map encR)) fun y hy => by
    rcases dedupP_mem.mp hy with z | z
    · cases z
    · exact z
  have nd : ds.Nodup := nodup_mapR (by rw [← e]; exact dedupP_nodup List.nodup_nil)
  refine ⟨isort rowLe ds, by rw [e]; exact sortD_rows fun r hr => hne r (hd r hr), isort_pw rowLe_total ds, ((isort_perm ds).nodup_iff).mpr nd, fun x => ?_⟩
  rw [isort_mem]
  refine ⟨hd x, fun hx => ?_⟩
  have : encR x ∈ ds.map encR := by
    rw [← e]
    exact dedupP_mem.mpr (.inr (List.mem_map.mpr ⟨x, hx, rfl⟩))
  obtain ⟨y, hy, e2⟩ := List.mem_map.mp this
  rw [← encR_inj e2]; exact hy
theorem rowOk_ok {d : Nat} {p : P} (h : rowOk d p = true) : ∃ r : List Int, p = encR r ∧ r.length = d ∧ TS.Bd 64 r := by
  unfold rowOk at h
  split at h
  · rename_i ps
    simp only [Bool.and_eq_true, decide_eq_true_eq, List.all_eq_true] at h
    obtain ⟨h1, h2⟩ := h
    suffices ∃ r : List Int, ps = r.map P.int ∧ TS.Bd 64 r by
      obtain ⟨r, rfl, hr⟩ := this
      exact ⟨r, rfl, by simpa using h1, hr⟩
    clear h1
    induction ps with
    | nil => exact ⟨[], rfl, fun _ h => nomatch h⟩
    | cons p ps ih =>
      obtain ⟨r, rfl, hr⟩ := ih fun q hq => h2 q (List.mem_cons_of_mem _ hq)
      have := h2 p List.mem_cons_self
      split at this
      · rename_i i
        simp only [Bool.and_eq_true, decide_eq_true_eq] at this
        refine ⟨i :: r, rfl, fun m hm => ?_⟩
        rcases List.mem_cons.mp hm with rfl | hm
        · exact this
        · exact hr m hm
      · cases this
  · cases h
section
variable {K : Kw} {ρ : List Addr} {H : Hp}
theorem rvs_ints : ∀ {r : List Int} {vs : List V}, Rvs K ρ H (r.map P.int) vs → vs = r.map V.int
  | [], vs, h => by cases h; rfl
  | i :: r, vs, h => by
    obtain ⟨v, vr, rfl, h1, h2⟩ := h
    cases h1
    rw [rvs_ints h2]; rfl
theorem ints_rvs : ∀ r : List Int, Rvs K ρ H (r.map P.int) (r.map V.int)
  | [] => rfl
  | i :: r => ⟨_, _, rfl, rfl, ints_rvs r⟩
theorem rows_at {d : Nat} : ∀ {xs : List P} {vs : List V}, xs.all (rowOk d) = true → Rvs K ρ H xs vs → ∃ ks : List (Addr × List Int), vs = ks.map (fun p => V.ref p.1) ∧ xs = ks.map (fun p => encR p.2) ∧ ∀ p ∈ ks, SqT K H p.1 (p.2.map V.int) ∧ p.2.length = d ∧ TS.Bd 64 p.2
  | [], vs, _, h => by cases h; exact ⟨[], rfl, rfl, fun _ h => nomatch h⟩
  | x :: xs, vs, hx, h => by
    obtain ⟨v, vr, rfl, h1, h2⟩ := h
    simp only [List.all_cons, Bool.and_eq_true] at hx
    obtain ⟨r, rfl, hr, hb⟩ := rowOk_ok hx.1
    obtain ⟨a, ws, rfl, hs, hw⟩ := h1
    have := rvs_ints hw
    subst this
    obtain ⟨ks, e1, e2, hk⟩ := rows_at hx.2 h2
    refine ⟨(a, r) :: ks, by rw [e1]; rfl, by rw [e2]; rfl, fun p hp => ?_⟩
    rcases List.mem_cons.mp hp with rfl | hp
    · exact ⟨hs, hr, hb⟩
    · exact hk p hp
theorem rows_rv {H' : Hp} : ∀ {ks : List (Addr × List Int)}, (∀ p ∈ ks, SqT K H' p.1 (p.2.map V.int)) → Rvs K ρ H' (ks.map fun p => encR p.2) (ks.map fun p => V.ref p.1)
  | [], _ => rfl
  | p :: ks, h => ⟨_, _, rfl, ⟨_, _, rfl, h p List.mem_cons_self, ints_rvs _⟩, rows_rv fun q hq => h q (List.mem_cons_of_mem _ hq)⟩
theorem setOk_ok {xs : List P} (h : setOk xs = true) : ∃ d, 1 ≤ d ∧ (xs.length < 64 ∨ (dedupP [] xs).length < 63) ∧ xs.all (rowOk d) = true := by
  unfold setOk at h
  split at h
  · exact ⟨1, Nat.le_refl _, .inl (by decide), rfl⟩
  · simp only [Bool.and_eq_true, Bool.or_eq_true, decide_eq_true_eq] at h
    obtain ⟨⟨⟨h1, h2⟩, h3⟩, h4⟩ := h
    exact ⟨_, h1, h2.imp (fun h => by simp; omega) id, by rw [List.all_cons, h3, h4]; rfl⟩
  · cases h
end
theorem fewK_of {ks : List (Addr × List Int)} (h : (ks.map fun p => encR p.2).length < 64 ∨ (dedupP [] (ks.map fun p => encR p.2)).length < 63) : ks.length < 64 ∨ FewK ks := by
  rcases h with h | h
  · exact .inl (by simpa using h)
  · refine .inr fun D nd hD => ?_
    have : (D.map encR).length ≤ (dedupP [] (ks.map fun p => encR p.2)).length := by
      refine List.Nodup.length_le_of_subset (List.Pairwise.map _ (fun a b hab e => hab (encR_inj e)) nd) fun x hx => ?_
      obtain ⟨r, hr, rfl⟩ := List.mem_map.mp hx
      obtain ⟨p, hp, rfl⟩ := List.mem_map.mp (hD r hr)
      exact dedupP_mem.mpr (.inr (List.mem_map.mpr ⟨p, hp, rfl⟩))
    rw [List.length_map] at this
    omega
section
variable {C : Cfg}
theorem snd_sset {a : T .e} (ha : SndE C a) : SndE C (.sset a) := by
  intro X S e F h
  unfold chk at h
  split at h
  · rename_i x px y py l pos2 pos
    simp only [Bool.and_eq_true, decide_eq_true_eq, Bool.not_eq_true'] at h
    obtain ⟨⟨⟨⟨⟨⟨⟨h1, rfl⟩, h2⟩, h3⟩, rfl⟩, h4⟩, h5⟩, h6⟩ := h
    obtain ⟨g1, n1⟩ := F.gl h1
    obtain ⟨g2, n2⟩ := F.gl h3
    obtain ⟨a1, a2, a3⟩ := okName_d n1
    obtain ⟨b1, b2, b3⟩ := okName_d n2
    have inner := pe_callTy (pos := pos2) (p := py) (cr_setOfW F.calm (by have := F.hu; omega)) g2 (F.blts _ h4) (show bootBuiltins ("set" : Str) = some (.type "set") by decide +kernel) (pa_cons (ha X S _ F h5) pa_nil (starEach_cons h6)) b3 b1 (starEach_cons h6) rfl
    refine (pe_callB (cr_sortedT F.calm) g1 (F.blts _ h2) (show bootBuiltins ("sorted" : Str) = some (.builtin "sorted") by decide +kernel) (pa_cons inner pa_nil rfl) a3 a1 rfl rfl).weak fun σ H Q ⟨ρ, sp, hh, R, r, p⟩ => ?_
    unfold ev at p
    refine tE.bind R r p fun x ρ1 h1 H1 v st R1 r1 hv p1 => ?_
    unfold ssetV at p1
    split at p1
    · rename_i lx
      obtain ⟨al, hal, rfl⟩ := hv
      split at p1
      · rename_i xs hx
        obtain ⟨c, p1⟩ := p1.ite
        obtain ⟨a', vs, ha', hl, hvs⟩ := R1.lst hx
        rw [hal] at ha'; cases ha'
        obtain ⟨d, hd, few, hall⟩ := setOk_ok c
        obtain ⟨ks, e1, e2, hk⟩ := rows_at hall hvs
        subst e1 e2
        have hne : ∀ r ∈ ks.map (·.2), r ≠ [] := fun r hr z => by
          obtain ⟨p, hp, rfl⟩ := List.mem_map.mp hr
          have := (hk p hp).2.1
          rw [z] at this; simp at this; omega
        obtain ⟨qs, es, pw, nd, hm⟩ := sset_rows (h := h1) hne
        rw [List.map_map] at es
        have es : sortD h1 (dedupP [] (ks.map fun p => encR p.2)) = some (qs.map encR) := es
        rw [es] at p1
        refine ⟨al, ks, rfl, SqL.of hl, fun p hp => (hk p hp).1, fewK_of few, fun aS L hS hL hcov => ?_⟩
        obtain ⟨stS, RS1⟩ := R1.laid (u := SetTO X.prog X.w aS L) hS
        have exS := R1.ext stS
        refine ⟨aS, L, d, 64, rfl, upd_same, fun p hp => exS.sqT (hk p (hL p hp)).1, hd, fun p hp => ⟨(hk p (hL p hp)).2.1, (hk p (hL p hp)).2.2⟩, fun L' q pm nd' hf pw' hq => ?_⟩
        have hmem : ∀ p ∈ L', p ∈ ks := fun p hp => hL p (pm.mem_iff.mp hp)
        have el : L'.map (·.2) = qs := by
          refine sorted_unique ?_ pw nd' nd fun x => ?_
          · rw [List.pairwise_map]
            refine pw'.imp_of_mem fun {p q} hp hq h => ?_
            have k1 := hk p (hmem p hp)
            have k2 := hk q (hmem q hq)
            unfold rowLe
            rw [← code_rowLt (k2.2.1.trans k1.2.1.symm) k2.2.2 k1.2.2, decide_eq_false (by omega)]
            rfl
          · rw [hm x]
            constructor
            · intro hx
              obtain ⟨p, hp, rfl⟩ := List.mem_map.mp hx
              exact List.mem_map.mpr ⟨p, hmem p hp, rfl⟩
            · intro hx
              obtain ⟨p, hp, rfl⟩ := List.mem_map.mp hx
              obtain ⟨p', hp', e⟩ := List.mem_map.mp (hcov p hp)
              exact List.mem_map.mpr ⟨p', pm.mem_iff.mpr hp', e⟩
        have rv : Rvs X.kw ρ1 (upd H1 aS (SetTO X.prog X.w aS L)) (qs.map encR) (L'.map fun p => V.ref p.1) := by
          rw [← el, List.map_map]
          exact rows_rv fun p hp => exS.sqT (hk p (hmem p hp)).1
        exact Post.lst RS1 rv (Val.after p1 stS) q hq
      · exact p1.elim
    · exact p1.elim
  · cases h
end
end Ev
namespace Ev
open PySem L2
section
variable {C : Cfg}
theorem pe_srtL {X : Cx} {l : Expr} {px py pk pos : Pos} {te : TE} (hu : X.A.units + 200 < cLine) (ha : PE X l te) (hg : Gl X "sorted") (hm : X.mg "sorted" = none) (hg2 : Gl X "len") (hm2 : X.mg "len" = none) (hs : isStar l = false) :
    PE X (.Call (.Name "sorted" px) [l] [⟨some "key", .Name "len" py, pk⟩] pos) fun σ H Q => te σ H fun x H1 => ∃ (a : Addr) (bs : List (V × Nat)), x = .ref a ∧ SqL X.K H1 a (bs.map (·.1)) ∧ (∀ b ∈ bs, ∃ t xs, b.1 = .ref t ∧ SqT X.K H1 t xs ∧ xs.length = b.2) ∧
      ∀ p, H1 p = none → Q (.ref p) (upd H1 p (.lst ((bs.mergeSort (PySem.W.dataLe false lenD)).map (·.1)))) := by
  refine ⟨fun pins s σ H Q I h => ?_⟩
  refine wpAny_Call_Name_kw (ld_blt I hg hm (show bootBuiltins ("sorted" : Str) = some (.builtin "sorted") by decide +kernel) ?_ (by decide) (by decide))
  have hA := pa_cons ha pa_nil (starEach_cons hs)
  refine PyProof.Rows.callWith_kw (thn (hA.run pos pins s σ H (fun vs H1 => match vs with
    | [x] => ∃ (a : Addr) (bs : List (V × Nat)), x = .ref a ∧ SqL X.K H1 a (bs.map (·.1)) ∧ (∀ b ∈ bs, ∃ t xs, b.1 = .ref t ∧ SqT X.K H1 t xs ∧ xs.length = b.2) ∧ ∀ p, H1 p = none → Q (.ref p) (upd H1 p (.lst ((bs.mergeSort (PySem.W.dataLe false lenD)).map (·.1))))
    | _ => False) I h) fun us s1 ⟨vs, H1, I1, r1, q⟩ => ?_) (by rw [starEach_cons hs]; rfl) (starEach_any (es := [l]) (by simp [hs])) rfl rfl
  cases r1 with
  | nil => exact q.elim
  | cons r1 r2 =>
    cases r2 with
    | cons _ _ => exact q.elim
    | nil =>
      obtain ⟨a, bs, rfl, hq, hb, q⟩ := q
      cases r1
      show wpAny _ _ (evalAll [(do let v ← eval (.Name "len" py) X.env; standAt pos; pure v)]) _ _ s1
      refine wpAny_evalAll_cons (wpAny_bind (ld_blt I1 hg2 hm2 (show bootBuiltins ("len" : Str) = some (.builtin "len") by decide +kernel) (wpAny_bind (wpAny_standAt (wpAny_pure (wpAny_evalAll_nil ?_)))) (by decide) (by decide)))
      exact call_srtL hu I1 hq hb q
theorem tups_at {K : Kw} {ρ : List Addr} {H : Hp} : ∀ {xs : List P} {vs : List V}, xs.all isTp = true → Rvs K ρ H xs vs → ∃ bs : List (P × V × Nat), bs.map (·.1) = xs ∧ bs.map (·.2.1) = vs ∧ ∀ b ∈ bs, Rv K ρ H b.1 b.2.1 ∧ tlen b.1 = b.2.2 ∧ isTp b.1 = true
  | [], vs, _, h => by cases h; exact ⟨[], rfl, rfl, fun _ h => nomatch h⟩
  | x :: xs, vs, hx, h => by
    obtain ⟨v, vr, rfl, h1, h2⟩ := h
    simp only [List.all_cons, Bool.and_eq_true] at hx
    obtain ⟨bs, e1, e2, hb⟩ := tups_at hx.2 h2
    refine ⟨(x, v, tlen x) :: bs, by simp [e1], by simp [e2], fun b hb' => ?_⟩
    rcases List.mem_cons.mp hb' with rfl | hb'
    · exact ⟨h1, rfl, hx.1⟩
    · exact hb b hb'
theorem snd_srtL {a : T .e} (ha : SndE C a) : SndE C (.srtL a) := by
  intro X S e F h
  unfold chk at h
  split at h
  · rename_i x px l k y py pk pos
    simp only [Bool.and_eq_true, decide_eq_true_eq, Bool.not_eq_true'] at h
    obtain ⟨⟨⟨⟨⟨⟨⟨⟨h1, rfl⟩, h2⟩, h3⟩, rfl⟩, h4⟩, rfl⟩, h5⟩, h6⟩ := h
    obtain ⟨g1, n1⟩ := F.gl h1
    obtain ⟨g2, n2⟩ := F.gl h3
    refine (pe_srtL F.hu (ha X S _ F h5) g1 (F.blts _ h2) g2 (F.blts _ h4) h6).weak fun σ H Q ⟨ρ, sp, hh, R, r, p⟩ => ?_
    unfold ev at p
    refine tE.bind R r p fun x ρ1 h1 H1 v st R1 r1 hv p1 => ?_
    unfold srtLV at p1
    split at p1
    · obtain ⟨al, hal, rfl⟩ := hv
      split at p1
      · rename_i xs hx
        obtain ⟨a', vs, ha', hl1, hl2⟩ := R1.lst hx
        rw [hal] at ha'; cases ha'
        obtain ⟨c, p1⟩ := p1.ite
        obtain ⟨bs, b1, b2, hb⟩ := tups_at c hl2
        have eP : isort lenLe xs = (bs.mergeSort (PySem.W.dataLe false fun b : P × V × Nat => PyData.int b.2.2)).map (·.1) := by
          have hT0 : PySem.W.TotalLe (PySem.W.dataLe false (fun p : P => PyData.int (tlen p))) := PySem.W.sortLe_total _ _ _
          have hT : PySem.W.TotalLe lenLe := hT0
          rw [isort_eq hT, ← b1]
          refine (PySem.W.sort_maps (fun b : P × V × Nat => b.1) fun b hb1 c hc1 => ?_).symm
          unfold lenLe PySem.W.dataLe PySem.W.sortLe
          simp only [(hb b hb1).2.1, (hb c hc1).2.1]
        have eV : ((bs.map (·.2)).mergeSort (PySem.W.dataLe false lenD)).map (·.1) = (bs.mergeSort (PySem.W.dataLe false fun b : P × V × Nat => PyData.int b.2.2)).map (·.2.1) := by
          rw [← PySem.W.sort_maps (r := PySem.W.dataLe false fun b : P × V × Nat => PyData.int b.2.2) (s := PySem.W.dataLe false lenD) (fun b : P × V × Nat => b.2) fun _ _ _ _ => rfl, List.map_map]
          rfl
        refine ⟨al, bs.map (·.2), rfl, by rw [List.map_map]; show SqL _ _ _ (bs.map (·.2.1)); rw [b2]; exact SqL.of hl1, fun b hb' => ?_, fun q hq => ?_⟩
        · obtain ⟨b0, hb0, rfl⟩ := List.mem_map.mp hb'
          obtain ⟨r1, r2, r3⟩ := hb b0 hb0
          obtain ⟨p0, v0, n0⟩ := b0
          cases p0 with
          | tup ps =>
            obtain ⟨t, ws, e, hT, hw⟩ := r1
            exact ⟨t, ws, e, hT, hw.length.trans r2⟩
          | _ => cases r3
        · rw [eV]
          refine Post.lst R1 ?_ p1 q hq
          rw [eP]
          have : ∀ l : List (P × V × Nat), (∀ b ∈ l, Rv X.kw ρ1 H1 b.1 b.2.1) → Rvs X.kw ρ1 H1 (l.map (·.1)) (l.map (·.2.1)) := fun l => by
            induction l with
            | nil => intro _; exact rfl
            | cons b l ih => intro h; exact ⟨_, _, rfl, h b List.mem_cons_self, ih fun c hc => h c (List.mem_cons_of_mem _ hc)⟩
          exact this _ fun b hb' => (hb b (List.mem_mergeSort.mp hb')).1
      · exact p1.elim
    · exact p1.elim
  · cases h
end
end Ev

namespace Ev
open PySem L2
section
variable {C : Cfg}
theorem snd_skip : SndS C .skip := by
  intro X S ss F h
  unfold chk at h
  split at h
  · refine pss_nil.weak fun D σ H ⟨ρ, sp, hh, R, r, p⟩ => ?_
    unfold ev at p
    exact p.of_ok R σ r
  · cases h
theorem snd_brk : SndS C .brk := by
  intro X S ss F h
  unfold chk at h
  split at h
  · refine (pss_one ps_break).weak fun D σ H ⟨ρ, sp, hh, R, r, p⟩ => ?_
    unfold ev at p
    exact p.of_ok R σ r
  · cases h
theorem snd_cnt : SndS C .cnt := by
  intro X S ss F h
  unfold chk at h
  split at h
  · refine (pss_one ps_continue).weak fun D σ H ⟨ρ, sp, hh, R, r, p⟩ => ?_
    unfold ev at p
    exact p.of_ok R σ r
  · cases h
theorem snd_deadS : SndS C .deadS := fun X S ss F _ => ⟨fun pins s σ H D I q => by
  obtain ⟨ρ, sp, hh, R, r, p⟩ := q
  unfold ev at p
  exact p.elim⟩
theorem snd_ret {a : T .e} (ha : SndE C a) : SndS C (.ret a) := by
  intro X S ss F h
  unfold chk at h
  split at h
  · refine (pss_one (ps_ret (ha X S _ F h))).weak fun D σ H ⟨ρ, sp, hh, R, r, p⟩ => ?_
    unfold ev at p
    refine tE.bind R r p fun x ρ1 h1 H1 v st R1 r1 hv p1 => ?_
    exact p1.of_ok R1 σ r1 v hv
  · cases h
theorem snd_retN : SndS C .retN := by
  intro X S ss F h
  unfold chk at h
  split at h
  · refine (pss_one ps_retN).weak fun D σ H ⟨ρ, sp, hh, R, r, p⟩ => ?_
    unfold ev at p
    exact p.of_ok R σ r _ rfl
  · cases h
theorem snd_pas {k : T .s} (hk : SndS C k) : SndS C (.pas k) := by
  intro X S ss F h
  unfold chk at h
  split at h
  · refine (pss_cons ps_pass (hk X S _ F h)).weak fun D σ H ⟨ρ, sp, hh, R, r, p⟩ => ?_
    unfold ev at p
    exact ⟨ρ, sp, hh, R, r, p⟩
  · cases h
theorem snd_exp {a : T .e} {k : T .s} (ha : SndE C a) (hk : SndS C k) : SndS C (.exp a k) := by
  intro X S ss F h
  unfold chk at h
  split at h
  · simp only [Bool.and_eq_true, Bool.not_eq_true'] at h
    refine (pss_cons (ps_expr (ha X S _ F h.1.2) (by
      have h1 := h.1.1
      rename_i e pos _
      cases e <;> first | rfl | cases h1)) (hk X S _ F h.2)).weak fun D σ H ⟨ρ, sp, hh, R, r, p⟩ => ?_
    unfold ev at p
    exact tE.bind R r p fun x ρ1 h1 H1 v st R1 r1 hv p1 => ⟨ρ1, sp, h1, R1, r1, p1⟩
  · cases h
theorem snd_ifs {c : T .t} {a b k : T .s} (hc : SndT C c) (ha : SndS C a) (hb : SndS C b) (hk : SndS C k) : SndS C (.ifs c a b k) := by
  intro X S ss F h
  unfold chk at h
  split at h
  · simp only [Bool.and_eq_true] at h
    obtain ⟨⟨⟨h1, h2⟩, h3⟩, h4⟩ := h
    refine (pss_cons (ps_if (hc X S _ F h1).1 (ha X S _ F h2) (hb X S _ F h3)) (hk X S _ F h4)).weak fun D σ H ⟨ρ, sp, hh, R, r, p⟩ => ?_
    unfold ev at p
    refine tT.bind R r p fun q ρ1 h1 H1 st R1 r1 p1 => ?_
    have fin : ∀ {t : T .s}, Post X.kw EX0 ((ev C t () sp h1).bind fun r h => match r.1 with | .nx => ev C k () r.2 h | _ => .ok r h) ρ1 H1 (fun r ρ' _ H' => fOut X.kw ρ' H' D r) → tS C X.kw EX0 t { D with nx := tS C X.kw EX0 k D } σ H1 := by
      intro t p
      refine ⟨ρ1, sp, h1, R1, r1, p.bind.imp fun o ρ2 h2 H2 _ _ ⟨st2, R2, p2⟩ σ2 r2 => ?_⟩
      obtain ⟨fl, s2⟩ := o
      cases fl with
      | nx => exact ⟨ρ2, s2, h2, R2, r2, p2⟩
      | bk => exact p2.of_ok R2 σ2 r2
      | ct => exact p2.of_ok R2 σ2 r2
      | rt v => exact p2.of_ok R2 σ2 r2
    cases q with
    | true => exact fin p1
    | false => exact fin p1
  · cases h
theorem snd_whl {c : T .t} {b k : T .s} (hc : SndT C c) (hb : SndS C b) (hk : SndS C k) : SndS C (.whl c b k) := by
  intro X S ss F h
  unfold chk at h
  split at h
  · simp only [Bool.and_eq_true] at h
    obtain ⟨⟨h1, h2⟩, h3⟩ := h
    refine (pss_cons (ps_while F.po (hc X S _ F h1).1 (hb X S _ F h2)) (hk X S _ F h3)).weak fun D σ H ⟨ρ, sp, hh, R, r, p⟩ => ?_
    unfold ev at p
    let Ψ : Flow × Slots → List Addr → Hea → Hp → Prop := fun o ρ2 h2 H2 => Rep X.kw ρ2 h2 H2 ∧ Post X.kw EX0 (match o.1 with | .nx => ev C k () o.2 h2 | _ => .ok o h2) ρ2 H2 fun r ρ' _ H' => fOut X.kw ρ' H' D r
    have p' : Post X.kw EX0 (whileL (fun s h => ev C c () s h) (fun s h => ev C b () s h) C.W sp hh) ρ H Ψ := p.bind.imp fun o ρ2 h2 H2 _ _ ⟨st2, R2, p2⟩ => ⟨R2, p2⟩
    refine ⟨fun m σ H => ∃ (ρ : List Addr) (sp : Slots) (h : Hea), Rep X.kw ρ h H ∧ RS X.kw ρ H sp σ ∧ Post X.kw EX0 (whileL (fun s h => ev C c () s h) (fun s h => ev C b () s h) m sp h) ρ H Ψ, ⟨C.W, ρ, sp, hh, R, r, p'⟩, ?_⟩
    rintro m σ H ⟨ρ, sp, h, R, r, p⟩
    cases m with
    | zero => exact p.elim
    | succ m =>
      unfold whileL at p
      refine tT.bind R r p fun q ρ1 h1 H1 st R1 r1 p1 => ?_
      cases q with
      | false =>
        have q := (p1.of_ok R1).2
        exact ⟨ρ1, sp, h1, R1, r1, q⟩
      | true =>
        refine ⟨fun σ' H' => ∃ (ρ : List Addr) (sp : Slots) (h : Hea), Rep X.kw ρ h H' ∧ RS X.kw ρ H' sp σ' ∧ Post X.kw EX0 (whileL (fun s h => ev C c () s h) (fun s h => ev C b () s h) m sp h) ρ H' Ψ, fun σ' H' q => ⟨m, Nat.lt_succ_self _, q⟩, ?_⟩
        refine ⟨ρ1, sp, h1, R1, r1, p1.bind.imp fun o ρ2 h2 H2 _ _ ⟨st2, R2, p2⟩ σ2 r2 => ?_⟩
        obtain ⟨fl, s2⟩ := o
        cases fl with
        | nx => exact ⟨ρ2, s2, h2, R2, r2, p2⟩
        | ct => exact ⟨ρ2, s2, h2, R2, r2, p2⟩
        | bk =>
          have q := (p2.of_ok R2).2
          exact ⟨ρ2, s2, h2, R2, r2, q⟩
        | rt v =>
          have q := (p2.of_ok R2).2
          exact q.of_ok R2 σ2 r2
  · cases h
theorem snd_for {g : T .g} {i : T .i} {b k : T .s} (hg : SndG C g) (hi : SndI C i) (hb : SndS C b) (hk : SndS C k) : SndS C (.for_ g i b k) := by
  intro X S ss F h
  unfold chk at h
  split at h
  · rename_i tg it x pos rr
    simp only [Bool.and_eq_true, Bool.not_eq_true'] at h
    obtain ⟨⟨⟨⟨h1, h2, h2'⟩, h3⟩, h4⟩, h5⟩ := h
    refine (pss_cons (ps_for F.po F.calm (hi X S tg it F h2 h2') (hg X S _ F h1) (hb X S _ F h4) (foldedSet h3 _)) (hk X S _ F h5)).weak fun D σ H ⟨ρ, sp, hh, R, r, p⟩ => ?_
    unfold ev at p
    refine ⟨ρ, sp, hh, R, r, p.bind.imp fun w ρ1 h1 H1 _ _ ⟨st, R1, p1⟩ J hJ => ?_⟩
    let f : P → Slots → Hea → Ev.R (Flow × Slots) := fun p s h => (ev C g p s h).bind fun s h => ev C b () s h
    let Ψ : Flow × Slots → List Addr → Hea → Hp → Prop := fun o ρ2 h2 H2 => Rep X.kw ρ2 h2 H2 ∧ Post X.kw EX0 (match o.1 with | .nx => ev C k () o.2 h2 | _ => .ok o h2) ρ2 H2 fun r ρ' _ H' => fOut X.kw ρ' H' D r
    have p' : Post X.kw EX0 (forL w.stay f w.its sp h1) ρ1 H1 Ψ := p1.bind.imp fun o ρ2 h2 H2 _ _ ⟨st2, R2, p2⟩ => ⟨R2, p2⟩
    have r1 := r.ext (R.ext st)
    let Iv : Nat → L2.St → Hp → Prop := fun i σ H => ∃ (ρ : List Addr) (sp : Slots) (h : Hea), Rep X.kw ρ h H ∧ RS X.kw ρ H sp σ ∧ Ext ρ1 ρ H1 H ∧ Post X.kw EX0 (forL w.stay f (w.its.drop i) sp h) ρ H Ψ
    refine ⟨fun i m σ H => m = w.its.length - i ∧ i ≤ w.its.length ∧ Iv i σ H, ⟨w.its.length, by simp, Nat.zero_le _, ρ1, sp, h1, R1, r1, .refl, p'⟩, ?_⟩
    rintro i m σ H ⟨rfl, hi, ρ, sp, h, R, r, ex, p⟩
    by_cases hlt : i < w.its.length
    · right
      rw [List.drop_eq_getElem_cons hlt] at p
      unfold forL at p
      obtain ⟨hold, p⟩ := p.ite
      obtain ⟨go, yld⟩ := (hJ ρ h H ex R hold).1 i hlt
      refine ⟨go, Iv (i + 1), fun σ' H' q => ⟨w.its.length - (i + 1), by omega, rfl, hlt, q⟩, fun x H' y => ?_⟩
      obtain ⟨st2, R2, q, hq, rq⟩ := yld x H' y
      rw [List.getElem?_eq_getElem hlt] at hq
      cases hq
      have p := Post.step st2 p
      have exr := R.ext st2
      have p2 := p.bind
      refine ⟨ρ, sp, h, _, R2, r.ext exr, rq, (Post.bind p2).imp fun s' ρ2 h2 H2 _ _ ⟨st3, R3, p3⟩ σ2 r2 _ _ => ⟨ρ2, s', h2, R3, r2, p3.imp fun o ρ4 h4 H4 st4 R4 ⟨_, _, p4⟩ σ4 r4 => ?_⟩⟩
      have exf : Ext ρ1 ρ4 H1 H4 := ex.trans (exr.trans ((R2.ext st3).trans (R3.ext st4)))
      obtain ⟨fl, s4⟩ := o
      cases fl with
      | nx => exact ⟨ρ4, s4, h4, R4, r4, exf, p4⟩
      | ct => exact ⟨ρ4, s4, h4, R4, r4, exf, p4⟩
      | bk =>
        have q := (p4.of_ok R4).2
        exact ⟨ρ4, s4, h4, R4, r4, q⟩
      | rt v =>
        have q := (p4.of_ok R4).2
        exact q.of_ok R4 σ4 r4
    · left
      have e : i = w.its.length := by omega
      subst e
      rw [List.drop_length] at p
      unfold forL at p
      obtain ⟨hold, p⟩ := p.ite
      have q := (p.of_ok R).2
      exact ⟨(hJ ρ h H ex R hold).2 _ (Nat.le_refl _), ρ, sp, h, R, r, q⟩
  · cases h
theorem kind_fn {X : Cx} {S : SC} (F : Fit C X S) : X.env.blockKind = .function := by
  unfold Env.blockKind
  rw [F.kind]
  rfl
theorem swaps_eq {X : Cx} {S : SC} (F : Fit C X S) {tg e : Expr} {line : Nat} (hs : (match e with | .SetComp .. => false | _ => true) = true) : swapsWith e (some tg) line X.env = pure (swapB S tg e) := by
  cases e <;> first
    | (cases hs; done)
    | rfl
    | (cases tg <;> first
        | rfl
        | (unfold swapsWith swapB
           simp only [pure_bind]
           unfold Env.kindOf
           rw [F.names, kind_fn F]
           rfl))
theorem plain_swaps {X : Cx} {S : SC} (F : Fit C X S) {tg e : Expr} {line : Nat} (h : plainAsg S tg e = true) : swapsWithSole [tg] e line X.env = pure false := by
  unfold plainAsg at h
  simp only [Bool.and_eq_true, Bool.not_eq_true'] at h
  show swapsWith e (some tg) line X.env = pure false
  rw [swaps_eq F h.1.2, h.1.1]
theorem fm_lt {S : SC} {f : Expr → Option Str} (hf : ∀ e, locName S e = false → f e = none) : ∀ l : List Expr, (l.any fun t => !locName S t) = true → (l.filterMap f).length < l.length
  | [], h => by cases h
  | a :: l, h => by
    simp only [List.any_cons, Bool.or_eq_true] at h
    have h0 := List.length_filterMap_le f l
    cases q : f a with
    | none => rw [List.filterMap_cons_none q, List.length_cons]; omega
    | some b =>
      rw [List.filterMap_cons_some q, List.length_cons, List.length_cons]
      rcases h with h | h
      · rw [hf a (by simpa using h)] at q; cases q
      · have := fm_lt hf l h; omega
theorem stores_other {env : Env} {tg e : Expr} (h1 : ∀ ts k p vs k2 p2, ¬ (tg = .Tuple ts k p ∧ e = .Tuple vs k2 p2)) (h2 : ∀ ts p, tg ≠ .List ts p) : swappedStores [tg] e env = pure none := by
  cases tg <;> first
    | rfl
    | (cases e <;> first | rfl | exact absurd ⟨rfl, rfl⟩ (h1 _ _ _ _ _ _))
    | exact absurd rfl (h2 _ _)
theorem plain_stores {X : Cx} {S : SC} (F : Fit C X S) {tg e : Expr} (h : plainAsg S tg e = true) : swappedStores [tg] e X.env = pure none := by
  unfold plainAsg at h
  rw [Bool.and_eq_true] at h
  have h2 := h.2
  cases tg with
  | Tuple ts k p =>
    cases e with
    | Tuple vs k2 p2 =>
      simp only [Bool.or_eq_true] at h2
      unfold swappedStores
      simp only [pure_bind]
      rcases h2 with ((h2 | h2) | h2) | h2
      · rw [h2]; rfl
      · rw [h2]; simp
      · split
        · rfl
        · split
          · rfl
          · rw [if_pos]
            rw [Bool.or_eq_true]
            left
            rw [bne_iff_ne]
            refine Nat.ne_of_lt (fm_lt (fun e he => ?_) ts h2)
            cases e with
            | Name x p =>
              have hx : (X.env.kindOf x == some .local) = false := by
                unfold Env.kindOf; rw [F.names]; exact he
              simp only [hx, Bool.false_and, Bool.false_eq_true, if_false]
            | _ => rfl
      · split
        · rfl
        · split
          · rfl
          · split
            · rfl
            · first | rfl | rw [if_pos h2]
    | _ => exact stores_other (fun _ _ _ _ _ _ z => by cases z.2) fun _ _ z => by cases z
  | List ts p => cases e <;> cases h2
  | _ => exact stores_other (fun _ _ _ _ _ _ z => by cases z.1) fun _ _ z => by cases z
theorem setF_post {K : Kw} {EX : EX1} {β : Type} {ρ : List Addr} {h : Hea} {H : Hp} {c f : Str} {x q : P} {v w : V} {g : Unit → Hea → R β} {Φ : β → List Addr → Hea → Hp → Prop} (R : Rep K ρ h H) (hx : Rv K ρ H x w) (hq : Rv K ρ H q v) (p : Post K EX ((setF c x f q h).bind g) ρ H Φ) :
    ∃ (a dx : Addr) (fs : List (Str × V)) (h' : Hea), w = .ref a ∧ H a = some (.ins (He.ga K.K c) dx fs) ∧ fs.length < 1000 ∧ Step ρ ρ H (upd H a (.ins (He.ga K.K c) dx (putF f v fs))) ∧ Rep K ρ h' (upd H a (.ins (He.ga K.K c) dx (putF f v fs))) ∧ Post K EX (g () h') ρ (upd H a (.ins (He.ga K.K c) dx (putF f v fs))) Φ := by
  unfold setF at p
  split at p
  · rename_i l
    split at p
    · rename_i c' fs hl
      by_cases hc : c' = c ∧ fs.length < 1000
      · rw [if_pos hc] at p
        obtain ⟨rfl, hlen⟩ := hc
        obtain ⟨a, ha, rfl⟩ := hx
        obtain ⟨a', ha', dx, vs, e3, fr⟩ := R.idx hl
        rw [ha] at ha'; cases ha'
        have ex : Ext ρ ρ H (upd H a (.ins (He.ga K.K c') dx (putF f v vs))) := ⟨fun _ _ e => e, fun b xs e => by
          rw [upd_ne (fun z => by subst z; rw [e3] at e; cases e)]; exact e, fun b o u e => by
          rw [upd_ne (fun z => by subst z; rw [e3] at e; cases e)]; exact e⟩
        obtain ⟨st, R'⟩ := R.set (u := .ins (He.ga K.K c') dx (putF f v vs)) (o := .ins c' (putP f q fs)) ha (fun _ _ z => by rw [e3] at z; cases z) ⟨dx, _, upd_same, (Fsr.put hq fr).ext ex⟩
        exact ⟨a, dx, vs, _, rfl, e3, by rw [fr.length]; exact hlen, st, R', Post.step st p⟩
      · rw [if_neg hc] at p; exact p.elim
    · exact p.elim
  · exact p.elim
theorem snd_setf {c f : Str} {o a : T .e} {k : T .s} (ho : SndE C o) (ha : SndE C a) (hk : SndS C k) : SndS C (.setf c o f a k) := by
  intro X S ss F h
  unfold chk at h
  split at h
  · rename_i x name pa e pos r
    simp only [Bool.and_eq_true, decide_eq_true_eq] at h
    obtain ⟨⟨⟨⟨⟨h1, h2⟩, h3⟩, h4⟩, h5⟩, h6⟩ := h
    subst h1
    obtain ⟨c1, n1⟩ := F.flds _ _ h2
    have hsw : swapsWith e (some (.Attribute x name pa)) pos.line X.env = pure false := by
      rw [swaps_eq F h6]
      congr 1
      unfold swapB
      cases e <;> rfl
    refine (pss_cons (ps_fld (ho X S _ F h3) (ha X S _ F h4) hsw) (hk X S _ F h5)).weak fun D σ H ⟨ρ, sp, hh, R, r, p⟩ => ?_
    unfold ev at p
    refine tE.bind R r p fun q ρ1 h1 H1 v st R1 r1 hv p1 => ?_
    refine tE.bind R1 r1 p1 fun y ρ2 h2 H2 w st2 R2 r2 hw p2 => ?_
    obtain ⟨a, dx, fs, h3, rfl, e3, hl, st3, R3, p3⟩ := setF_post R2 hw (hv.ext (R1.ext st2)) p2
    exact ⟨a, _, dx, fs, rfl, e3, c1, n1, hl, ρ2, sp, h3, R3, r2.ext (R2.ext st3), p3⟩
  · cases h
def SwapOk (C : Cfg) (a : T .e) : Prop := ∀ (X : Cx) (S : SC) (e : Expr), Fit C X S → chk S a e = true → ∀ (x : Str) (j : Nat) (px ps : Pos), X.N[j]? = some x → X.env.scope.names.lookup x = some .local → swapsWith e (some (.Name x px)) ps.line X.env = pure true →
      PS X (.Assign [.Name x px] e ps) (tAsg (tE C X.kw EX0 a) (gName j))
theorem snd_asg {g : T .g} {a : T .e} {k : T .s} (hg : SndG C g) (ha : SndE C a) (hsw : isLc a = true → SwapOk C a) (hk : SndS C k) : SndS C (.asg g a k) := by
  intro X S ss F h
  unfold chk at h
  split at h
  · rename_i tg e pos rr
    simp only [Bool.and_eq_true, Bool.or_eq_true] at h
    obtain ⟨⟨⟨h1, h2⟩, h3⟩, h4⟩ := h
    rcases h4 with h4 | ⟨⟨h4, h5⟩, h6⟩
    · have w : ∀ D σ H, tS C X.kw EX0 (.asg g a k) D σ H → tSeq (tAsg (tE C X.kw EX0 a) (tG C X.kw EX0 g)) (tS C X.kw EX0 k) D σ H := by
        intro D σ H ⟨ρ, sp, hh, R, r, p⟩
        unfold ev at p
        refine tE.bind R r p fun x ρ1 h1 H1 v st R1 r1 hv p1 => ?_
        exact ⟨ρ1, sp, h1, x, R1, r1, hv, p1.bind.imp fun s' ρ2 h2 H2 _ _ ⟨st2, R2, p2⟩ σ2 r2 _ _ => ⟨ρ2, s', h2, R2, r2, p2⟩⟩
      refine (pss_cons (ps_asg (ha X S _ F h2) (hg X S _ F h1) (plain_swaps F h4) (plain_stores F h4) ?_) (hk X S _ F h3)).weak w
      cases tg <;> first
        | rfl
        | (cases g <;> simp [chk] at h1; done)
    · cases g <;> first | (cases h6; done) | skip
      rename_i i
      unfold chk at h1
      split at h1
      · rename_i x px
        rw [Bool.and_eq_true] at h1
        have hx := F.slot h1.1
        have hloc : X.env.scope.names.lookup x = some .local := by
          rw [F.names]
          unfold swapB at h4
          split at h4
          · simp only [Bool.and_eq_true] at h4
            rename_i q1 q2
            cases q2
            exact eq_of_beq h4.1.1
          · simp only [Bool.and_eq_true] at h4
            rename_i q1 q2
            cases q2
            exact eq_of_beq h4.1.1
          · cases h4
        have hsw' : swapsWith e (some (.Name x px)) pos.line X.env = pure true := by
          rw [swaps_eq F, h4]
          cases e <;> first | rfl | (simp [swapB] at h4; done)
        refine (pss_cons (hsw h5 X S e F h2 x i px pos hx hloc hsw') (hk X S _ F h3)).weak fun D σ H ⟨ρ, sp, hh, R, r, p⟩ => ?_
        unfold ev at p
        refine tE.bind R r p fun x ρ1 h1 H1 v st R1 r1 hv p1 => ?_
        exact ⟨ρ1, sp.set i (some x), h1, R1, r1.set hv i, p1⟩
      · cases h1
  · cases h
theorem snd_aug {i : Nat} {o : Bop} {a : T .e} {k : T .s} (ha : SndE C a) (hk : SndS C k) : SndS C (.aug i o a k) := by
  intro X S ss F h
  unfold chk at h
  split at h
  · simp only [Bool.and_eq_true, decide_eq_true_eq] at h
    obtain ⟨⟨⟨⟨h1, h2⟩, rfl⟩, h3⟩, h4⟩ := h
    obtain ⟨l1, l2⟩ := F.loc h2
    refine (pss_cons (ps_aug F.nd (F.slot h1) l1 (ha X S _ F h3) (op_aug o) l2) (hk X S _ F h4)).weak fun D σ H ⟨ρ, sp, hh, R, r, p⟩ => ?_
    unfold ev at p
    obtain ⟨x, e1, _, _, p⟩ := p.bind.of_R R
    rw [Option.join_eq_some_iff] at e1
    obtain ⟨v, hv, rv⟩ := r.at_ i x e1
    refine ⟨v, hv, tE.bind R r p fun y ρ1 h1 H1 w st R1 r1 hw p1 => ?_⟩
    refine ⟨EX0, ρ1, h1, x, y, R1, rv.ext (R.ext st), hw, p1.bind.imp fun z ρ2 h2 H2 _ _ ⟨st2, R2, p2⟩ u hu => ?_⟩
    exact ⟨ρ2, _, h2, R2, (r1.ext (R1.ext st2)).set hu i, p2⟩
  · cases h
theorem par_stores {X : Cx} {S : SC} (F : Fit C X S) {x y : Str} {px py pt pt2 : Pos} {kt k2 : Nat} {a b : Expr} (hx : S.names.lookup x = some .local) (hy : S.names.lookup y = some .local) (hxy : x ≠ y) (hl : (px.line == py.line) = true)
    (h1 : (foldedForSure 8 a && foldedForSure 8 b) = false) (h2 : (constantsAlone 8 a && constantsAlone 8 b) = false) (h3 : isStar a = false) (h4 : isStar b = false) :
    swappedStores [.Tuple [.Name x px, .Name y py] kt pt] (.Tuple [a, b] k2 pt2) X.env = pure (some [x, y]) := by
  have kf := kind_fn F
  have st : ∀ e : Expr, isStar e = false → (match e with | .Starred .. => true | _ => false) = false := fun e h => by cases e <;> first | rfl | cases h
  have ll : py.line = px.line := (eq_of_beq hl).symm
  have kx : X.env.kindOf x = some .local := by unfold Env.kindOf; rw [F.names]; exact hx
  have ky : X.env.kindOf y = some .local := by unfold Env.kindOf; rw [F.names]; exact hy
  unfold swappedStores
  simp only [pure_bind]
  rw [kf]
  simp only [List.any_cons, List.any_nil, st a h3, st b h4, List.filterMap_cons, List.filterMap_nil, kx, ky, List.head?_cons, Option.map_some, Option.getD_some, Expr.pos, ll, beq_self_eq_true, Bool.and_self, if_true, List.all_cons, List.all_nil, Bool.and_true, h1, h2]
  have e1 : ([x, y] : List Str).eraseDups = [x, y] := by
    rw [List.eraseDups_cons]
    have : List.filter (fun b => !b == x) [y] = [y] := by
      simp only [List.filter_cons, List.filter_nil]
      have : (y == x) = false := by
        rw [beq_eq_false_iff_ne]; exact fun z => hxy z.symm
      simp [this]
    rw [this, List.eraseDups_cons]
    simp
  simp [e1]
  intro hz
  exfalso
  rcases hz with hz | hz
  · cases a <;> first | (cases hz; done) | (cases h3; done)
  · cases b <;> first | (cases hz; done) | (cases h4; done)
theorem par_stores3 {X : Cx} {S : SC} (F : Fit C X S) {x y z : Str} {px py pz pt pt2 : Pos} {kt k2 : Nat} {a b c : Expr} (hx : S.names.lookup x = some .local) (hy : S.names.lookup y = some .local) (hz : S.names.lookup z = some .local) (hxy : x ≠ y) (hxz : x ≠ z) (hyz : y ≠ z) (hl : (px.line == py.line) = true) (hl' : (px.line == pz.line) = true)
    (h1 : (foldedForSure 8 a && foldedForSure 8 b && foldedForSure 8 c) = false) (h2 : (constantsAlone 8 a && constantsAlone 8 b && constantsAlone 8 c) = false) (h3 : isStar a = false) (h4 : isStar b = false) (h5 : isStar c = false) :
    swappedStores [.Tuple [.Name x px, .Name y py, .Name z pz] kt pt] (.Tuple [a, b, c] k2 pt2) X.env = pure (some [x, y, z]) := by
  have kf := kind_fn F
  have st : ∀ e : Expr, isStar e = false → (match e with | .Starred .. => true | _ => false) = false := fun e h => by cases e <;> first | rfl | cases h
  have ll : py.line = px.line := (eq_of_beq hl).symm
  have ll' : pz.line = px.line := (eq_of_beq hl').symm
  have kx : X.env.kindOf x = some .local := by unfold Env.kindOf; rw [F.names]; exact hx
  have ky : X.env.kindOf y = some .local := by unfold Env.kindOf; rw [F.names]; exact hy
  have kz : X.env.kindOf z = some .local := by unfold Env.kindOf; rw [F.names]; exact hz
  rw [Bool.and_assoc] at h1 h2
  unfold swappedStores
  simp only [pure_bind]
  rw [kf]
  simp only [List.any_cons, List.any_nil, st a h3, st b h4, st c h5, List.filterMap_cons, List.filterMap_nil, kx, ky, kz, List.head?_cons, Option.map_some, Option.getD_some, Expr.pos, ll, ll', beq_self_eq_true, Bool.and_self, if_true, List.all_cons, List.all_nil, Bool.and_true, h1, h2]
  have n1 : (y == x) = false := by rw [beq_eq_false_iff_ne]; exact fun w => hxy w.symm
  have n2 : (z == x) = false := by rw [beq_eq_false_iff_ne]; exact fun w => hxz w.symm
  have n3 : (z == y) = false := by rw [beq_eq_false_iff_ne]; exact fun w => hyz w.symm
  have e1 : ([x, y, z] : List Str).eraseDups = [x, y, z] := by
    rw [List.eraseDups_cons]
    have : List.filter (fun b => !b == x) [y, z] = [y, z] := by
      simp only [List.filter_cons, List.filter_nil]
      simp [n1, n2]
    rw [this, List.eraseDups_cons]
    have : List.filter (fun b => !b == y) [z] = [z] := by
      simp only [List.filter_cons, List.filter_nil]
      simp [n3]
    rw [this, List.eraseDups_cons]
    simp
  simp [e1]
  intro hz
  exfalso
  rcases hz with hz | hz | hz
  · cases a <;> first | (cases hz; done) | (cases h3; done)
  · cases b <;> first | (cases hz; done) | (cases h4; done)
  · cases c <;> first | (cases hz; done) | (cases h5; done)
theorem rvs_three {K : Kw} {ρ : List Addr} {H : Hp} {p q o : P} {xs : List V} (h : Rvs K ρ H [p, q, o] xs) : ∃ x y z, xs = [x, y, z] ∧ Rv K ρ H p x ∧ Rv K ρ H q y ∧ Rv K ρ H o z := by
  obtain ⟨v, r, rfl, h1, h2⟩ := h
  obtain ⟨y, z, rfl, h3, h4⟩ := rvs_two h2
  exact ⟨v, y, z, rfl, h1, h3, h4⟩
theorem snd_par {is : List Nat} {as : T .a} {k : T .s} (ha : SndA C as) (hk : SndS C k) : SndS C (.par is as k) := by
  intro X S ss F h
  unfold chk at h
  split at h
  · rename_i x px y py kt pt a b k2 pt2 pos rr
    split at h
    · rename_i i j
      simp only [Bool.and_eq_true, decide_eq_true_eq, Bool.not_eq_true', decide_eq_false_iff_not] at h
      obtain ⟨⟨⟨⟨⟨⟨⟨⟨⟨⟨⟨⟨h1, h2⟩, h3⟩, h4⟩, h5⟩, h6⟩, h7⟩, h8⟩, h9⟩, h10⟩, h11⟩, h12⟩, h13⟩ := h
      have lx : S.names.lookup x = some .local := by split at h5 <;> first | assumption | cases h5
      have ly : S.names.lookup y = some .local := by split at h6 <;> first | assumption | cases h6
      refine (pss_cons (ps_par F.calm F.nd (F.slot h1) (F.slot h2) h3 (by rw [F.names]; exact lx) (by rw [F.names]; exact ly) (ha X S _ F h12).1 (par_stores F lx ly h4 h7 h8 h9 h10 h11) rfl) (hk X S _ F h13)).weak fun D σ H ⟨ρ, sp, hh, R, r, p⟩ => ?_
      unfold ev at p
      refine tA.bind R r p fun xs ρ1 h1 H1 vs st R1 r1 hv p1 => ?_
      obtain ⟨hl, p1⟩ := p1.ite
      match xs, hl with
      | [p, q], _ =>
        obtain ⟨v, w, rfl, hp, hq⟩ := rvs_two hv
        exact ⟨v, w, rfl, ρ1, _, h1, R1, (r1.set hp i).set hq j, p1⟩
    · cases h
  · rename_i x px y py z pz kt pt a b c k2 pt2 pos rr
    split at h
    · rename_i i j l
      simp only [Bool.and_eq_true, decide_eq_true_eq, Bool.not_eq_true'] at h
      obtain ⟨⟨⟨⟨⟨⟨⟨⟨⟨⟨s1, s2⟩, s3⟩, ⟨d1, d2⟩, d3⟩, ⟨n1, n2⟩, n3⟩, ⟨l1, l2⟩, l3⟩, g1, g2⟩, f1, f2⟩, ⟨t1, t2⟩, t3⟩, h12⟩, h13⟩ := h
      have lx := isLocal_ok l1
      have ly := isLocal_ok l2
      have lz := isLocal_ok l3
      refine (pss_cons (ps_par3 F.calm F.nd (F.slot s1) (F.slot s2) (F.slot s3) d1 d2 d3 (by rw [F.names]; exact lx) (by rw [F.names]; exact ly) (by rw [F.names]; exact lz) (ha X S _ F h12).1 (par_stores3 F lx ly lz n1 n2 n3 g1 g2 f1 f2 t1 t2 t3) rfl) (hk X S _ F h13)).weak fun D σ H ⟨ρ, sp, hh, R, r, p⟩ => ?_
      unfold ev at p
      refine tA.bind R r p fun xs ρ1 h1 H1 vs st R1 r1 hv p1 => ?_
      obtain ⟨hl, p1⟩ := p1.ite
      match xs, hl with
      | [p, q, o], _ =>
        obtain ⟨v, w, u, rfl, hp, hq, ho⟩ := rvs_three hv
        exact ⟨v, w, u, rfl, ρ1, _, h1, R1, ((r1.set hp i).set hq j).set ho l, p1⟩
    · cases h
  · cases h
def Snd (C : Cfg) : {k : Kd} → T k → Prop
  | .e, t => SndE C t ∧ (isLc t = true → SwapOk C t)
  | .t, t => SndT C t
  | .a, t => SndA C t
  | .s, t => SndS C t
  | .g, t => SndG C t
  | .gs, t => SndGs C t
  | .i, t => SndI C t
theorem snd_no {t : T .e} (h : ∀ S e, chk S t e = false) : SndE C t := fun X S e F q => by rw [h S e] at q; cases q
theorem snd {k : Kd} (t : T k) : Snd C t := by
  induction t with
  | var i => exact ⟨snd_var i, fun h => nomatch h⟩
  | non => exact ⟨snd_non, fun h => nomatch h⟩
  | bl b => exact ⟨snd_bl b, fun h => nomatch h⟩
  | int i => exact ⟨snd_int i, fun h => nomatch h⟩
  | str s => exact ⟨snd_str s, fun h => nomatch h⟩
  | con g => exact ⟨snd_con g, fun h => nomatch h⟩
  | tyn n => exact ⟨snd_tyn n, fun h => nomatch h⟩
  | dead => exact ⟨snd_dead, fun h => nomatch h⟩
  | tup as ha => exact ⟨snd_tup ha, fun h => nomatch h⟩
  | lst as ha => exact ⟨snd_lst ha, fun h => nomatch h⟩
  | dic0 => exact ⟨snd_dic0, fun h => nomatch h⟩
  | sset a ha => exact ⟨snd_sset ha.1, fun h => nomatch h⟩
  | srtL a ha => exact ⟨snd_srtL ha.1, fun h => nomatch h⟩
  | lrng a b ha hb => exact ⟨snd_lrng ha.1 hb.1, fun h => nomatch h⟩
  | bin o a b ha hb => exact ⟨snd_bin ha.1 hb.1, fun h => nomatch h⟩
  | neg a ha => exact ⟨snd_neg ha.1, fun h => nomatch h⟩
  | notv a ha => exact ⟨snd_notv ha.1, fun h => nomatch h⟩
  | cmp o a b ha hb => exact ⟨snd_cmp ha.1 hb.1, fun h => nomatch h⟩
  | chn o o' a b c ha hb hc => exact ⟨snd_chn ha.1 hb.1 hc.1, fun h => nomatch h⟩
  | andv a b ha hb => exact ⟨snd_andv ha.1 hb.1, fun h => nomatch h⟩
  | orv a b ha hb => exact ⟨snd_orv ha.1 hb.1, fun h => nomatch h⟩
  | ife c a b hc ha hb => exact ⟨snd_ife hc ha.1 hb.1, fun h => nomatch h⟩
  | idx a i ha hi => exact ⟨snd_idx ha.1 hi.1, fun h => nomatch h⟩
  | slc fl fh a lo hi ha hl hh => exact ⟨snd_slc ha.1 hl.1 hh.1, fun h => nomatch h⟩
  | rev a ha => exact ⟨snd_rev ha.1, fun h => nomatch h⟩
  | fld c a f ha => exact ⟨snd_fld ha.1, fun h => nomatch h⟩
  | meth c m g o as ho ha => exact ⟨snd_meth ho.1 ha, fun h => nomatch h⟩
  | new c => exact ⟨snd_no fun _ _ => rfl, fun h => nomatch h⟩
  | call g as ha => exact ⟨snd_call ha, fun h => nomatch h⟩
  | blt b as ha => exact ⟨snd_blt ha, fun h => nomatch h⟩
  | bmt m o as ho ha => exact ⟨snd_bmt ho.1 ha, fun h => nomatch h⟩
  | dget o as ho ha => exact ⟨snd_dget ho.1 ha, fun h => nomatch h⟩
  | lc own elt g i c he hg hi hc => exact ⟨(snd_lc he.1 hg hi hc).1, fun _ => (snd_lc he.1 hg hi hc).2⟩
  | dc own kk v g i c hk hv hg hi hc => exact ⟨snd_dc hk.1 hv.1 hg hi hc, fun h => nomatch h⟩
  | tcmp o a b ha hb => exact snd_tcmp ha.1 hb.1
  | tchn o o' a b c ha hb hc => exact snd_tchn ha.1 hb.1 hc.1
  | tand a b ha hb => exact snd_tand ha hb
  | tor a b ha hb => exact snd_tor ha hb
  | tnot a ha => exact snd_tnot ha
  | tval a ha => exact snd_tval ha.1
  | ttrue => exact snd_ttrue
  | nil => exact snd_nil
  | cons a as ha hs => exact snd_cons ha.1 hs
  | gnm i => exact snd_gnm i
  | gtup gs hg => exact snd_gtup hg
  | gnil => exact snd_gnil
  | gcons g gs hg hs => exact snd_gcons hg hs
  | gsub o i ho hi => exact snd_gsub ho.1 hi.1
  | gfld o f ho => exact snd_gfld
  | isq a ha => exact snd_isq ha.1
  | irng a ha => exact snd_irng ha.1
  | irng2 a b ha hb => exact snd_irng2 ha.1 hb.1
  | ienum a ha => exact snd_ienum ha.1
  | izip st a b ha hb => exact snd_izip ha.1 hb.1
  | idic k a ha => exact snd_idic ha.1
  | skip => exact snd_skip
  | asg g a k hg ha hk => exact snd_asg hg ha.1 ha.2 hk
  | par is as k ha hk => exact snd_par ha hk
  | aug i o a k ha hk => exact snd_aug ha.1 hk
  | exp a k ha hk => exact snd_exp ha.1 hk
  | ret a ha => exact snd_ret ha.1
  | retN => exact snd_retN
  | ifs c a b k hc ha hb hk => exact snd_ifs hc ha hb hk
  | for_ g i b k hg hi hb hk => exact snd_for hg hi hb hk
  | whl c b k hc hb hk => exact snd_whl hc hb hk
  | brk => exact snd_brk
  | cnt => exact snd_cnt
  | deadS => exact snd_deadS
  | pas k hk => exact snd_pas hk
  | setf c o f a k ho ha hk => exact snd_setf ho.1 ha.1 hk
end
end Ev

namespace Ev
open PySem L2

structure DI where
  g : Nat
  name : Str
  st : Stmt
  N : List Str
  ps : List Str
  fn : Fn
def DI.sc (d : DI) (defs cons : List (Str × Nat)) (blts : List Str) : SC := ⟨d.N, (defScope d.st).names, none, defs, cons, blts, [], [], []⟩
def scopeB (N P : List Str) (sc : Scope) : Bool :=
  (match sc.kind with | .function => true | _ => false) && !sc.isCoroutine && !sc.isGenerator && decide N.Nodup && decide (N.take P.length = P) &&
    (P.all fun x => match sc.names.lookup x with | some .local => true | some .cell => true | _ => false) && (sc.names.all fun y => match y.2 with | .free => false | _ => true)
theorem scopeB_ok {N P : List Str} {sc : Scope} (h : scopeB N P sc = true) : FnScope N P sc := by
  unfold scopeB at h
  simp only [Bool.and_eq_true, Bool.not_eq_true', decide_eq_true_eq, List.all_eq_true] at h
  obtain ⟨⟨⟨⟨⟨⟨h1, h2⟩, h3⟩, h4⟩, h5⟩, h6⟩, h7⟩ := h
  refine ⟨?_, h2, h3, h4, h5, fun x hx => ?_, fun y hy e => ?_⟩
  · split at h1
    · assumption
    · cases h1
  · have := h6 x hx
    split at this
    · exact .inl ‹_›
    · exact .inr ‹_›
    · cases this
  · have := h7 y hy
    rw [e] at this
    cases this
def argsB (ps : List Str) (a : Arguments) : Bool :=
  a.posonlyargs.isEmpty && a.vararg.isNone && a.kwonlyargs.isEmpty && a.kw_defaults.isEmpty && a.kwarg.isNone && a.defaults.isEmpty && decide (a.args.map (·.arg) = ps) && decide ps.Nodup
theorem zip_lookup : ∀ {ks : List Str} {us : List Value} {n : Str}, us.length = ks.length → n ∈ ks → ((ks.zip us).lookup n).isNone = false
  | [], _, _, _, h => nomatch h
  | k :: ks, [], _, h, _ => by cases h
  | k :: ks, u :: us, n, h, hn => by
    rw [List.zip_cons_cons, List.lookup_cons]
    cases e : n == k with
    | true => rfl
    | false =>
      rcases List.mem_cons.mp hn with rfl | hn
      · simp at e
      · exact zip_lookup (by simpa using h) hn
theorem fm_skip {k : Str} {u : Value} {z : List (Str × Value)} : ∀ {l : List Str}, (∀ n ∈ l, n ≠ k) → l.filterMap (fun n => (((k, u) :: z).lookup n).map fun v => (n, v)) = l.filterMap (fun n => (z.lookup n).map fun v => (n, v))
  | [], _ => rfl
  | m :: l, h => by
    have e : ((k, u) :: z).lookup m = z.lookup m := by
      rw [List.lookup_cons]
      have : (m == k) = false := by
        rw [beq_eq_false_iff_ne]
        exact h m List.mem_cons_self
      rw [this]
    have ih := fm_skip (k := k) (u := u) (z := z) (l := l) fun n hn => h n (List.mem_cons_of_mem _ hn)
    cases q : z.lookup m with
    | none => rw [List.filterMap_cons_none (by rw [e, q]; rfl), List.filterMap_cons_none (by rw [q]; rfl), ih]
    | some v => rw [List.filterMap_cons_some (b := (m, v)) (by rw [e, q]; rfl), List.filterMap_cons_some (b := (m, v)) (by rw [q]; rfl), ih]
theorem zip_self : ∀ {ks : List Str} {us : List Value}, ks.Nodup → us.length = ks.length → ks.filterMap (fun n => ((ks.zip us).lookup n).map fun v => (n, v)) = ks.zip us
  | [], _, _, _ => by simp
  | k :: ks, [], _, h => by cases h
  | k :: ks, u :: us, nd, h => by
    have h1 := (List.nodup_cons.mp nd).1
    have ih := zip_self (List.nodup_cons.mp nd).2 (us := us) (by simpa using h)
    rw [List.zip_cons_cons, List.filterMap_cons_some (b := (k, u)) (by rw [List.lookup_cons]; simp), fm_skip (fun n hn z => by subst z; exact h1 hn), ih]
theorem bind_plain {fd : FuncData} {ps : List Str} {us : List Value} (h : argsB ps fd.params = true) (hd : fd.defaults = .none) (hl : us.length = ps.length) : bindArgs fd ⟨us, []⟩ = pure (ps.zip us) := by
  unfold argsB at h
  simp only [Bool.and_eq_true, List.isEmpty_iff, Option.isNone_iff_eq_none, decide_eq_true_eq] at h
  obtain ⟨⟨⟨⟨⟨⟨⟨h1, h2⟩, h3⟩, h4⟩, h5⟩, h6⟩, h7⟩, h8⟩ := h
  unfold bindArgs
  simp only [h1, h2, h3, h5, h7, hd, List.map_nil, List.nil_append, List.append_nil, List.forIn_nil, pure_bind, hl, Nat.lt_irrefl, decide_false, Bool.false_and, Bool.false_eq_true, if_false, gt_iff_lt]
  have e0 : seqItems? Value.none = pure none := rfl
  rw [e0]
  simp only [pure_bind, Option.getD_none, List.toList_toArray, List.length_nil, Nat.zero_sub, List.drop_nil, Nat.sub_zero, List.take_length, List.drop_length, List.zip_nil_left, List.zip_nil_right, List.forIn_nil]
  have e1 : ps.filter (fun n => ((ps.zip us).lookup n).isNone) = [] := by
    rw [List.filter_eq_nil_iff]
    intro n hn
    rw [zip_lookup hl hn]
    simp
  simp [e1, zip_self h8 hl]
def DI.good (d : DI) (defs cons : List (Str × Nat)) (blts : List Str) : Bool :=
  scopeB d.N d.ps (defScope d.st) && argsB d.ps (defArgs d.st) && decide (d.ps.length = d.fn.params) && decide (d.N.length = d.fn.slots) && chk (d.sc defs cons blts) d.fn.body (defBody d.st)
def DI.he (d : DI) : He.DefD := ⟨(d.name, none), d.name, d.name, defArgs d.st, defBody d.st, defScope d.st, [], []⟩
def defsOf (ds : List DI) : List (Str × Nat) := ds.map fun d => (d.name, d.g)

section
variable {P : Program} {w : World} {K : PySem.W.Frag} {mg : Str → Option Value} {base : Heap}
theorem fnok_all {ds : List DI} {cons : List (Str × Nat)} {blts : List Str} {G : Prog} {W : Nat} (hgood : ∀ d ∈ ds, d.good (defsOf ds) cons blts = true)
    (hF : ∀ d ∈ ds, ∃ (f : Addr) (fd : FuncData), mg d.name = some (.ref f) ∧ FunD K d.name d.name (defArgs d.st) (defBody d.st) (defScope d.st) [] [] f fd)
    (hG : ∀ d ∈ ds, G.fn d.g = some d.fn)
    (hc : ∀ x g, cons.lookup x = some g → ∃ (u : Value) (v : V), mg x = some u ∧ RelV v u ∧ ∀ p, G.con g = some p → ∀ ρ H, Rv (⟨K, P, w⟩ : Kw) ρ H p v)
    (hb : ∀ x, x ∈ blts → mg x = none) :
    ∀ (k : Nat) (d : DI), d ∈ ds → ∀ (f : Addr) (fd : FuncData), FunD K d.name d.name (defArgs d.st) (defBody d.st) (defScope d.st) [] [] f fd →
      FnG P w K mg base CX0 k f fd d.ps (spC ⟨K, P, w⟩ EX0 ⟨callN G W k, G.con, W⟩ d.g d.ps.length)
  | 0, d, hd, f, fd, F => ⟨fun vs H Q E h => h.1, fun A outer s H args us vs Q E gd hr he hb hv ⟨_, ρ, h, as, R, r, p⟩ => by
      unfold callN at p
      exact p.elim⟩
  | k + 1, d, hd, f, fd, F => by
    have good := hgood d hd
    unfold DI.good at good
    simp only [Bool.and_eq_true, decide_eq_true_eq] at good
    obtain ⟨⟨⟨⟨g1, g2⟩, g3⟩, g4⟩, g5⟩ := good
    have S := scopeB_ok g1
    refine fnG_of F S (fun vs H Q E h => h.1) fun cdv A outer s H vs Q E gd hr ⟨hl, ρ, h, as, R, r, p⟩ => ?_
    have fit : Fit ⟨callN G W k, G.con, W⟩ (cxOf CX0 P w K mg base d.N d.name (defScope d.st) f cdv A outer s H E).nox (d.sc (defsOf ds) cons blts) := by
      refine ⟨rfl, S.nd, rfl, S.kind, fun _ _ => rfl, rfl, ?_, gd, PassesOwn.never, fun x g hx => ?_, hc, hb, (fun c f h => nomatch h), (fun c g h => nomatch h), (fun c m g h => nomatch h)⟩
      · have := hr.un
        show (A.deeper _).units + 200 < cLine
        omega
      · have hm := PySem.mem_of_lookup hx
        obtain ⟨d', hd', e⟩ := List.mem_map.mp hm
        cases e
        obtain ⟨f', fd', hm', F'⟩ := hF d' hd'
        have good' := hgood d' hd'
        unfold DI.good at good'
        simp only [Bool.and_eq_true, decide_eq_true_eq] at good'
        obtain ⟨⟨⟨⟨_, a2⟩, a3⟩, _⟩, _⟩ := good'
        refine ⟨f', fd', d'.ps, k, hm', F'.kp, F'.bindsN fun kV doc pm an cdv ct us hl => bind_plain a2 rfl hl, fnok_all hgood hF hG hc hb k d' hd' f' fd' F', hr, fun as h hne => ?_⟩
        show callN G W k d'.g as h = .stk
        cases k with
        | zero => rfl
        | succ k =>
          unfold callN
          rw [hG d' hd']
          show runFn _ d'.fn as h = .stk
          unfold runFn
          rw [if_neg]
          rw [← a3]
          exact hne
    refine ⟨_, (snd d.fn.body _ _ _ fit g5).nox, ?_⟩
    have p' : Val (⟨K, P, w⟩ : Kw) EX0 (runFn ⟨callN G W k, G.con, W⟩ d.fn as h) ρ H Q := by
      have e : callN G W (k + 1) d.g as h = runFn ⟨callN G W k, G.con, W⟩ d.fn as h := by
        show (match G.fn d.g with | some f => runFn ⟨callN G W k, G.con, W⟩ f as h | none => .stk) = _
        rw [hG d hd]
      show Val (⟨K, P, w⟩ : Kw) EX0 _ ρ H Q
      rw [← e]
      exact p
    unfold runFn at p'
    obtain ⟨hl', p'⟩ := p'.ite
    refine ⟨ρ, _, h, R, ?_, p'.bind.imp fun o ρ1 h1 H1 _ _ ⟨st, R1, p1⟩ σ1 r1 => ?_⟩
    · have := RS.start r d.N
      rw [← g4, ← hl']
      exact this
    · obtain ⟨fl, s1⟩ := o
      cases fl with
      | nx => exact p1.of_ok R1 _ rfl
      | rt v => exact p1.of_ok R1
      | bk => exact p1.elim
      | ct => exact p1.elim

theorem law_sp {K : Kw} {G : Prog} {W k g n : Nat} {ns : List Int} {H : Hp} {a : Addr} (hn : n = 1) (hO : Only H) (hS : SqL K H a (ns.map V.int))
    (law : ∃ h', callN G W k g [.kls (ns.map .int)] [] = .ok (.bl true) h') : spC K EX0 ⟨callN G W k, G.con, W⟩ g n [.ref a] H (fun v _ => v = .bl true) fun _ _ _ => False := by
  obtain ⟨h', e⟩ := law
  have hk : Kls K H a (ns.map V.int) := by
    rcases hS with (h | h) | h
    · rcases hO a with q | ⟨o, xs, q⟩
      · rw [q] at h; cases h
      · rw [q] at h; cases h
    · exact .inl h
    · exact .inr h
  have hv : Rvs K [] H (ns.map P.int) (ns.map V.int) := by
    clear hS hk e
    induction ns with
    | nil => exact rfl
    | cons i ns ih => exact ⟨.int i, _, rfl, rfl, ih⟩
  refine ⟨by rw [hn]; rfl, [], [], [.kls (ns.map .int)], ⟨rfl, List.nodup_nil, fun i o a e => by simp at e⟩, ⟨.ref a, [], rfl, ⟨a, _, rfl, hk, hv⟩, rfl⟩, ?_⟩
  show Post K EX0 (callN G W k g [.kls (ns.map .int)] []) [] H _
  rw [e]
  intro ρ' H' _ _ v hv
  exact hv
end
theorem walk_ofEB {l : PySem.W.OpenLaw} {n k : Nat} {q : Program} {loose : List Str} {XP : (Str → Option Value) → Heap → Prop} {YP : World → Heap → Prop} {d : DefRec} {CX : CXT} {x : Str}
    (hn : l.most = some n) (hn2 : n ≤ sizeLine) (hdf : d.params.defaults = []) (hr : Room k callerA)
    (F : ∀ (w : World) (mg : Str → Option Value) (fa : Addr) (h : Heap), YP w h → h.Ns mainGlobals mg → mg d.name = some (.ref fa) →
      ∃ (K : PySem.W.Frag) (fd : FuncData) (sp : Sp), K.In h ∧ (∀ (s : Shared) (u : Value), BindsTo s fd ⟨[u], []⟩ [(x, u)]) ∧
        (∀ (H : Hp) (a : Addr) (ns : List Int), ns.length ≤ n → (∀ z ∈ ns, Builtin.Int.intBits z ≤ 1048576) → Only H → SqL K H a (ns.map V.int) → sp [.ref a] H (fun v _ => v = .bl true) fun _ _ _ => False) ∧
        ∀ base : Heap, K.In base → base.Ns mainGlobals mg → FnG l.prog w K mg base CX k fa fd [x] sp)
    (hCX : ∀ (H : Hp) (s : Shared) (e : Value) (s' : Shared), CX [] H s (fun _ _ _ => False) e s' → False) :
    PySem.W.WalkO q loose XP YP l.row.toRowW d [] (fun f vs => PySem.call f vs) := by
  refine Att.attach_callB hn hdf fun w s₀ s₁ mg mb fa o pm cd doc a vs ns G Y ho hd hcd hmg hobj hints hlen hbits hg => ?_
  obtain ⟨K, fd, sp, KX, hb, hsp, hF⟩ := F w mg fa _ Y G.T.g hmg
  exact law_callG KX G.T.g G.T.b G.T.builtins G.T.nolimit hg hobj hints (Nat.le_trans hlen hn2) hr hF hb (fun H hO hS => hsp H a ns hlen hbits hO hS) fun H e s' => hCX H s₁ e s'
def faOf (ds : List DI) (blts : List Str) : List He.Fa := (ds.map fun d => He.Fa.glo d.name) ++ blts.map He.Fa.free
def heOf (ds : List DI) : List He.DefD := ds.map DI.he
theorem says_fa {fa : List He.Fa} {fn : List He.DefD} {K : PySem.W.Frag} (c : He.SaysD fa fn K) : ∀ f ∈ fa, f.ok K = true := fun f hf => by
  obtain ⟨i, hi, e⟩ := List.getElem_of_mem hf
  exact c.fact i (by rw [List.getElem?_eq_getElem hi, e])
theorem says_fn {fa : List He.Fa} {fn : List He.DefD} {K : PySem.W.Frag} (c : He.SaysD fa fn K) : ∀ d ∈ fn, ∃ fd, FunD K d.name d.qual d.params d.body d.scope (d.dvs K) (d.kws K) (He.fAd K d.at_) fd := fun d hd => by
  obtain ⟨i, hi, e⟩ := List.getElem_of_mem hd
  exact c.def_ i (by rw [List.getElem?_eq_getElem hi, e])
theorem walk_ev {l : PySem.W.OpenLaw} {q : Program} {loose : List Str} {XP : (Str → Option Value) → Heap → Prop} {d : DefRec} {ds : List DI} {blts : List Str} {G : Prog} {W k : Nat} {L : DI} {x : Str}
    (hn : l.most = some 63) (hdf : d.params.defaults = []) (hr : Room k callerA) (hd : d.name = L.name) (hL : L ∈ ds) (hps : L.ps = [x])
    (hgood : ∀ d ∈ ds, d.good (defsOf ds) [] blts = true) (hG : ∀ d ∈ ds, G.fn d.g = some d.fn)
    (law : ∀ ns : List Int, ns.length ≤ 63 → (∀ z ∈ ns, Builtin.Int.intBits z ≤ 1048576) → ∃ h', callN G W k L.g [.kls (ns.map .int)] [] = .ok (.bl true) h') :
    PySem.W.WalkO q loose XP (He.hookD 4 (faOf ds blts) (heOf ds)).says l.row.toRowW d [] (fun f vs => PySem.call f vs) := by
  refine walk_ofEB (l := l) (n := 63) (k := k) (x := x) (CX := CX0) hn (by rw [sizeLine_eq]; decide) hdf hr ?_ (fun _ _ _ _ z => z)
  intro w mg fa h ⟨K, KX, c⟩ Gn hmg0
  have hfa := says_fa c
  have hfn := says_fn c
  have glo : ∀ (h : Heap) (mg : Str → Option Value), K.In h → h.Ns mainGlobals mg → ∀ d ∈ ds, mg d.name = some (.ref (He.fAd K (d.name, none))) := fun h mg KX Gn d hd =>
    He.glo_ok KX Gn (hfa _ (List.mem_append_left _ (List.mem_map.mpr ⟨d, hd, rfl⟩)))
  have fun_ : ∀ d ∈ ds, ∃ fd, FunD K d.name d.name (defArgs d.st) (defBody d.st) (defScope d.st) [] [] (He.fAd K (d.name, none)) fd := fun d hd =>
    hfn d.he (List.mem_map.mpr ⟨d, hd, rfl⟩)
  obtain ⟨fd, F⟩ := fun_ L hL
  have e : fa = He.fAd K (L.name, none) := by
    have h1 := glo h mg KX Gn L hL
    rw [hd] at hmg0
    rw [hmg0] at h1
    exact Value.ref.inj (Option.some.inj h1)
  subst e
  refine ⟨K, fd, spC ⟨K, l.prog, w⟩ EX0 ⟨callN G W k, G.con, W⟩ L.g L.ps.length, KX, fun s v => ?_, fun H a ns hl hb hO hS => law_sp (by rw [hps]; rfl) hO hS (law ns hl hb), fun base KB GB => ?_⟩
  · have g := hgood L hL
    unfold DI.good at g
    simp only [Bool.and_eq_true] at g
    have b := F.bindsA (ps := L.ps) (fun kV doc pm an cdv ct us hl => bind_plain g.1.1.1.2 rfl hl) s [v] (by rw [hps]; rfl)
    rw [hps] at b
    exact b
  · have := fnok_all (P := l.prog) (w := w) (K := K) (mg := mg) (base := base) (cons := []) (W := W) hgood (fun d hd => by
      obtain ⟨fd, F⟩ := fun_ d hd
      exact ⟨_, fd, glo base mg KB GB d hd, F⟩) hG (fun x g h => nomatch h) (fun x hx => He.free_ok KB GB (hfa _ (List.mem_append_right _ (List.mem_map.mpr ⟨x, hx, rfl⟩)))) k L hL _ fd F
    rw [hps] at this ⊢
    exact this
end Ev

namespace Ev.Code
open PySem Ev
def w_pen : Fn where
  params := 1
  slots := 1
  body := (.ret (.lst (.cons (.blt .list (.cons (.slc false true (.var 0) .non (.int 63)) .nil)) (.cons (.int 0) (.cons (.int 0) .nil)))))

def w_fresh : Fn where
  params := 1
  slots := 7
  body := (.asg (.gnm 1) (.idx (.var 0) (.int 1))
  (.asg (.gsub (.var 0) (.int 1)) (.bin .add (.var 1) (.int 1))
  (.asg (.gnm 2) (.int 0)
  (.ifs (.tcmp .ne (.idx (.var 0) (.int 0)) (.lst .nil))
  (.asg (.gnm 2) (.idx (.idx (.var 0) (.int 0)) (.bin .mod (.blt .int (.cons (.var 1) .nil)) (.blt .len (.cons (.idx (.var 0) (.int 0)) .nil))))
  .skip)
  .skip
  (.ifs (.tand (.tcmp .lt (.var 1) (.blt .len (.cons (.idx (.var 0) (.int 0)) .nil))) (.tcmp .ge (.var 2) (.bin .pow (.int 10) (.int 18))))
  (.ret (.bin .sub (.var 2) (.bin .pow (.int 10) (.int 18))))
  .skip
  (.asg (.gnm 3) (.int 2305843009213693951)
  (.asg (.gnm 4) (.bin .mod (.blt .int (.cons (.bin .add (.bin .add (.bin .mul (.var 2) (.int 48271)) (.bin .mul (.int 40692) (.var 1))) (.int 31)) .nil)) (.var 3))
  (.asg (.gnm 5) (.var 4)
  (.for_ (.gnm 6) (.irng (.int 6))
  (.asg (.gnm 4) (.bin .mod (.blt .int (.cons (.bin .add (.bin .add (.bin .mul (.var 4) (.var 4)) (.bin .mul (.bin .mul (.int 69621) (.bin .add (.var 6) (.int 1))) (.bin .add (.var 1) (.int 1)))) (.var 2)) .nil)) (.var 3))
  (.asg (.gnm 5) (.bin .add (.bin .mul (.var 5) (.var 3)) (.var 4))
  .skip))
  (.ret (.var 5)))))))))))

def w_draw : Fn where
  params := 2
  slots := 3
  body := (.ifs (.tcmp .lt (.idx (.var 0) (.int 2)) (.var 1))
  (.asg (.gsub (.var 0) (.int 2)) (.call 1 (.cons (.var 0) .nil))
  .skip)
  .skip
  (.asg (.gnm 2) (.bin .mod (.blt .int (.cons (.idx (.var 0) (.int 2)) .nil)) (.var 1))
  (.asg (.gsub (.var 0) (.int 2)) (.bin .fdiv (.blt .int (.cons (.idx (.var 0) (.int 2)) .nil)) (.var 1))
  (.ret (.var 2)))))

def w_one_of : Fn where
  params := 2
  slots := 2
  body := (.ret (.idx (.var 1) (.call 2 (.cons (.var 0) (.cons (.blt .len (.cons (.var 1) .nil)) .nil)))))

def w_step_drawn : Fn where
  params := 3
  slots := 8
  body := (.asg (.gnm 3) (.call 2 (.cons (.var 0) (.cons (.blt .len (.cons (.var 1) .nil)) .nil)))
  (.asg (.gnm 4) (.lc [6, 7] (.var 6) (.gtup (.gcons (.gnm 6) (.gcons (.gnm 7) .gnil))) (.ienum (.var 1)) (.tand (.tcmp .ne (.var 6) (.var 3)) (.tcmp .eq (.var 7) (.idx (.var 1) (.var 3)))))
  (.asg (.gnm 5) (.call 2 (.cons (.var 0) (.cons (.int 7) .nil)))
  (.ifs (.tand (.tcmp .gt (.var 2) (.int 0)) (.tcmp .lt (.var 5) (.int 2)))
  (.ret (.tup (.cons (.str "when") (.cons (.var 3) (.cons (.call 2 (.cons (.var 0) (.cons (.idx (.var 1) (.var 3)) .nil))) (.cons (.call 3 (.cons (.var 0) (.cons (.var 1) (.cons (.bin .sub (.var 2) (.int 1)) .nil)))) .nil))))))
  .skip
  (.ifs (.tand (.tcmp .ne (.var 4) (.lst .nil)) (.tcmp .lt (.var 5) (.int 5)))
  (.ret (.tup (.cons (.idx (.lst (.cons (.str "copy") (.cons (.str "swap") .nil))) (.call 2 (.cons (.var 0) (.cons (.int 2) .nil)))) (.cons (.var 3) (.cons (.call 4 (.cons (.var 0) (.cons (.var 4) .nil))) .nil)))))
  .skip
  (.ifs (.tcmp .eq (.var 5) (.int 5))
  (.ret (.tup (.cons (.str "set") (.cons (.var 3) (.cons (.call 2 (.cons (.var 0) (.cons (.idx (.var 1) (.var 3)) .nil))) .nil)))))
  .skip
  (.ret (.tup (.cons (.str "add") (.cons (.var 3) (.cons (.bin .add (.int 1) (.call 2 (.cons (.var 0) (.cons (.bin .sub (.idx (.var 1) (.var 3)) (.int 1)) .nil)))) .nil)))))))))))

def w_nodes_drawn : Fn where
  params := 3
  slots := 9
  body := (.asg (.gnm 3) (.lst .nil)
  (.for_ (.gnm 4) (.irng (.var 2))
  (.ifs (.tor (.tcmp .lt (.bin .sub (.var 2) (.var 4)) (.int 3)) (.tcmp .eq (.call 2 (.cons (.var 0) (.cons (.int 6) .nil))) (.int 0)))
  (.exp (.bmt .append (.var 3) (.cons (.tup (.cons (.str "answer") (.cons (.call 4 (.cons (.var 0) (.cons (.lst (.cons (.int 0) (.cons (.int 1) (.cons (.int 2) (.cons (.int 2) (.cons (.int 9) .nil)))))) .nil))) .nil))) .nil))
  .skip)
  (.asg (.gtup (.gcons (.gnm 5) (.gcons (.gnm 6) .gnil))) (.tup (.cons (.call 2 (.cons (.var 0) (.cons (.blt .len (.cons (.var 1) .nil)) .nil))) (.cons (.bin .sub (.bin .sub (.var 2) (.var 4)) (.int 1)) .nil)))
  (.asg (.gnm 7) (.lc [8] (.bin .add (.bin .add (.var 4) (.int 1)) (.call 2 (.cons (.var 0) (.cons (.var 6) .nil)))) (.gnm 8) (.irng (.idx (.var 1) (.var 5))) .ttrue)
  (.exp (.bmt .append (.var 3) (.cons (.tup (.cons (.str "look") (.cons (.var 5) (.cons (.blt .tuple (.cons (.var 7) .nil)) .nil)))) .nil))
  .skip)))
  .skip)
  (.ret (.blt .tuple (.cons (.var 3) .nil)))))

def w_house : Fn where
  params := 4
  slots := 8
  body := (.par [4, 5] (.cons (.lst (.cons (.bin .mul (.call 2 (.cons (.var 0) (.cons (.var 2) .nil))) (.call 2 (.cons (.var 0) (.cons (.int 2) .nil)))) .nil)) (.cons (.lst .nil) .nil))
  (.for_ (.gnm 6) (.irng (.call 2 (.cons (.var 0) (.cons (.int 3) .nil))))
  (.exp (.bmt .append (.var 4) (.cons (.call 2 (.cons (.var 0) (.cons (.var 2) .nil))) .nil))
  .skip)
  (.for_ (.gnm 6) (.irng (.var 3))
  (.exp (.bmt .append (.var 5) (.cons (.blt .tuple (.cons (.lc [7] (.call 3 (.cons (.var 0) (.cons (.var 1) (.cons (.int 3) .nil)))) (.gnm 7) (.irng (.call 2 (.cons (.var 0) (.cons (.int 4) .nil)))) .ttrue) .nil)) .nil))
  .skip)
  (.ret (.tup (.cons (.var 1) (.cons (.call 5 (.cons (.var 0) (.cons (.var 1) (.cons (.var 2) .nil)))) (.cons (.blt .tuple (.cons (.var 4) .nil)) (.cons (.blt .tuple (.cons (.var 5) .nil)) .nil)))))))))

end Ev.Code
namespace Ev
open PySem Ev.Code
def Ret {α : Type} (r : R α) (Φ : α → Hea → Prop) : Prop := ∃ a h, r = .ok a h ∧ Φ a h
theorem Ret.bind {α β : Type} {r : R α} {f : α → Hea → R β} {Φ : β → Hea → Prop} (h : Ret r fun a h => Ret (f a h) Φ) : Ret (r.bind f) Φ := by
  obtain ⟨a, h', e, q⟩ := h
  rw [e]; exact q
theorem Ret.ok {α : Type} {a : α} {h : Hea} {Φ : α → Hea → Prop} (q : Φ a h) : Ret (.ok a h) Φ := ⟨a, h, rfl, q⟩
theorem Ret.imp {α : Type} {r : R α} {Φ Ψ : α → Hea → Prop} (h : Ret r Φ) (k : ∀ a h, Φ a h → Ψ a h) : Ret r Ψ := by
  obtain ⟨a, h', e, q⟩ := h
  exact ⟨a, h', e, k a h' q⟩
theorem Ret.seq {α β : Type} {r : R α} {f : α → Hea → R β} {Φ : α → Hea → Prop} {Ψ : β → Hea → Prop} (h : Ret r Φ) (k : ∀ a h, Φ a h → Ret (f a h) Ψ) : Ret (r.bind f) Ψ := Ret.bind (h.imp k)
theorem Ret.of {α : Type} {o : Option α} {h : Hea} {Φ : α → Hea → Prop} {a : α} (e : o = some a) (q : Φ a h) : Ret (R.of o h) Φ := by
  subst e; exact ⟨a, h, rfl, q⟩
theorem ret_forL {w : List (Nat × O)} {f : P → Slots → Hea → R (Flow × Slots)} (I : Nat → Slots → Hea → Prop) (its : List P) (hold : ∀ i s h, I i s h → Wk.holds w h = true)
    (step : ∀ i p s h, its[i]? = some p → I i s h → Ret (f p s h) fun r h' => r.1 = .nx ∧ I (i + 1) r.2 h') {s : Slots} {h : Hea} (i0 : I 0 s h) :
    Ret (forL w f its s h) fun r h' => r.1 = .nx ∧ I its.length r.2 h' := by
  suffices ∀ (k : Nat) (rest : List P) (s : Slots) (h : Hea), its.drop k = rest → k ≤ its.length → I k s h → Ret (forL w f rest s h) fun r h' => r.1 = .nx ∧ I its.length r.2 h' from this 0 its s h rfl (Nat.zero_le _) i0
  intro k rest
  induction rest generalizing k with
  | nil =>
    intro s h e hk i
    have : k = its.length := by
      have := congrArg List.length e
      simp at this; omega
    subst this
    unfold forL
    rw [if_pos (hold _ s h i)]
    exact .ok ⟨rfl, i⟩
  | cons p ps ih =>
    intro s h e hk i
    have hlt : k < its.length := by
      have := congrArg List.length e
      simp at this; omega
    have e2 := List.drop_eq_getElem_cons hlt
    rw [e] at e2
    cases e2
    unfold forL
    rw [if_pos (hold _ s h i)]
    refine Ret.seq (step k _ s h (List.getElem?_eq_getElem hlt) i) fun r h' ⟨q1, q2⟩ => ?_
    rw [q1]
    exact ih (k + 1) _ _ rfl hlt q2
theorem ret_lcL {w : List (Nat × O)} {f : P → Hea → R (Option P)} (I : Nat → List P → Hea → Prop) (its : List P) (hn : its.length ≤ SZ) (hold : ∀ i s h, I i s h → Wk.holds w h = true)
    (step : ∀ i p acc h, its[i]? = some p → I i acc h → Ret (f p h) fun r h' => match r with | some v => I (i + 1) (acc ++ [v]) h' | none => I (i + 1) acc h') {h : Hea} (i0 : I 0 [] h) :
    Ret (lcL w f its [] h) fun vs h' => I its.length vs h' ∧ vs.length ≤ its.length := by
  suffices ∀ (k : Nat) (rest acc : List P) (h : Hea), its.drop k = rest → k ≤ its.length → acc.length ≤ k → I k acc h → Ret (lcL w f rest acc h) fun vs h' => I its.length vs h' ∧ vs.length ≤ its.length from this 0 its [] h rfl (Nat.zero_le _) (Nat.zero_le _) i0
  intro k rest
  induction rest generalizing k with
  | nil =>
    intro acc h e hk ha i
    have : k = its.length := by
      have := congrArg List.length e
      simp at this; omega
    subst this
    unfold lcL
    rw [if_pos (hold _ acc h i)]
    exact .ok ⟨i, ha⟩
  | cons p ps ih =>
    intro acc h e hk ha i
    have hlt : k < its.length := by
      have := congrArg List.length e
      simp at this; omega
    have e2 := List.drop_eq_getElem_cons hlt
    rw [e] at e2
    cases e2
    unfold lcL
    rw [if_pos (hold _ acc h i)]
    refine Ret.seq (step k _ acc h (List.getElem?_eq_getElem hlt) i) fun r h' q => ?_
    cases r with
    | some v =>
      show Ret (if acc.length < SZ then _ else _) _
      rw [if_pos (by omega)]
      exact ih (k + 1) _ _ rfl hlt (by simp; omega) q
    | none => exact ih (k + 1) _ _ rfl hlt (by omega) q

structure Pen (h : Hea) (n : Nat) : Prop where
  ex : ∃ (cells : List Int) (k : Nat) (left : Int), h[1]? = some (.lst (cells.map .int)) ∧ h[2]? = some (.lst [.ref 1, .int k, .int left]) ∧ (∀ z ∈ cells, Builtin.Int.intBits z ≤ 1048576) ∧ cells.length ≤ 63 ∧ k ≤ n ∧ 0 ≤ left
structure Keep (h h' : Hea) : Prop where
  len : h.length ≤ h'.length
  at_ : ∀ l o, l ≠ 2 → h[l]? = some o → h'[l]? = some o
theorem Keep.refl {h : Hea} : Keep h h := ⟨Nat.le_refl _, fun _ _ _ e => e⟩
theorem Keep.trans {h h1 h2 : Hea} (a : Keep h h1) (b : Keep h1 h2) : Keep h h2 := ⟨Nat.le_trans a.len b.len, fun l o n e => b.at_ l o n (a.at_ l o n e)⟩
theorem Keep.push {h r : Hea} : Keep h (h ++ r) := ⟨by simp, fun l o _ e => by rw [List.getElem?_append_left (List.getElem?_eq_some_iff.mp e).1]; exact e⟩
theorem Keep.set2 {h : Hea} {o : O} : Keep h (h.set 2 o) := ⟨by simp, fun l u n e => by rw [List.getElem?_set_ne (Ne.symm n)]; exact e⟩
theorem Pen.mono {h : Hea} {n m : Nat} (p : Pen h n) (hm : n ≤ m) : Pen h m := by
  obtain ⟨c, k, l, h1, h2, h3, h4, h5, h6⟩ := p.ex
  exact ⟨c, k, l, h1, h2, h3, h4, by omega, h6⟩
theorem Pen.push {h r : Hea} {n : Nat} (p : Pen h n) : Pen (h ++ r) n := by
  obtain ⟨c, k, l, h1, h2, h3, h4, h5, h6⟩ := p.ex
  refine ⟨c, k, l, ?_, ?_, h3, h4, h5, h6⟩
  · rw [List.getElem?_append_left (List.getElem?_eq_some_iff.mp h1).1]; exact h1
  · rw [List.getElem?_append_left (List.getElem?_eq_some_iff.mp h2).1]; exact h2
theorem Pen.put {h : Hea} {n l : Nat} {o : O} (p : Pen h n) (hl : 2 < l) : Pen (h.set l o) n := by
  obtain ⟨c, k, lf, h1, h2, h3, h4, h5, h6⟩ := p.ex
  refine ⟨c, k, lf, ?_, ?_, h3, h4, h5, h6⟩
  · rw [List.getElem?_set_ne (by omega)]; exact h1
  · rw [List.getElem?_set_ne (by omega)]; exact h2
structure HasPen (G : Prog) : Prop where
  f6 : G.fn 6 = some w_pen
  f1 : G.fn 1 = some w_fresh
  f2 : G.fn 2 = some w_draw
theorem ints_data (h : Hea) (f : Nat → Option PyData) : ∀ zs : List Int, dataWs f (zs.map P.int) = some (zs.map PyData.int)
  | [] => rfl
  | z :: zs => by simp only [List.map_cons, dataWs, dataW]; rw [ints_data h f zs]; rfl
theorem bits_le (i : Int) (b : Nat) (h : Builtin.Int.intBits i ≤ b) : bits i ≤ b := by
  unfold Builtin.Int.intBits at h
  unfold bits
  split at h
  · have : i.natAbs = 0 := by simp_all
    rw [this]; simp
  · omega
theorem call_fn {G : Prog} {W d g : Nat} {f : Fn} {as : List P} {h : Hea} (e : G.fn g = some f) : callN G W (d + 1) g as h = runFn ⟨callN G W d, G.con, W⟩ f as h := by
  show (match G.fn g with | some f => runFn _ f as h | none => .stk) = _
  rw [e]
end Ev

namespace Ev
open PySem Ev.Code
section
variable {C : Cfg} {s : Slots} {h : Hea}
section
variable {Φ : P → Hea → Prop}
theorem r_var {i : Nat} {p : P} (e : s[i]? = some (some p)) (q : Φ p h) : Ret (ev C (.var i) () s h) Φ := by
  unfold ev; rw [e]; exact ⟨p, h, rfl, q⟩
theorem r_non (q : Φ .non h) : Ret (ev C .non () s h) Φ := by unfold ev; exact ⟨_, h, rfl, q⟩
theorem r_bl {b : Bool} (q : Φ (.bl b) h) : Ret (ev C (.bl b) () s h) Φ := by unfold ev; exact ⟨_, h, rfl, q⟩
theorem r_int {i : Int} (q : Φ (.int i) h) : Ret (ev C (.int i) () s h) Φ := by unfold ev; exact ⟨_, h, rfl, q⟩
theorem r_str {x : Str} (q : Φ (.str x) h) : Ret (ev C (.str x) () s h) Φ := by unfold ev; exact ⟨_, h, rfl, q⟩
theorem r_tup {as : T .a} (q : Ret (ev C as () s h) fun ps h => ps.length ≤ SZ ∧ Φ (.tup ps) h) : Ret (ev C (.tup as) () s h) Φ := by
  unfold ev
  refine Ret.seq q fun ps h ⟨hl, q⟩ => ?_
  unfold mkTup; rw [if_pos hl]; exact .ok q
theorem r_lst {as : T .a} (q : Ret (ev C as () s h) fun ps h => ps.length ≤ SZ ∧ Φ (.ref h.length) (h ++ [.lst ps])) : Ret (ev C (.lst as) () s h) Φ := by
  unfold ev
  refine Ret.seq q fun ps h ⟨hl, q⟩ => ?_
  unfold mkLst; rw [if_pos hl]; exact .ok q
theorem r_bin {o : Bop} {a b : T .e} (q : Ret (ev C a () s h) fun x h => Ret (ev C b () s h) fun y h => Ret (binV o x y h) Φ) : Ret (ev C (.bin o a b) () s h) Φ := by
  unfold ev; exact Ret.seq q fun x h q => Ret.seq q fun y h q => q
theorem r_notv {a : T .e} (q : Ret (ev C a () s h) fun x h => ∃ k, truV x h = some k ∧ Φ (.bl (!k)) h) : Ret (ev C (.notv a) () s h) Φ := by
  unfold ev; exact Ret.seq q fun x h ⟨k, e, q⟩ => Ret.seq (Ret.of e q) fun k h q => .ok q
theorem r_cmp {o : Cop} {a b : T .e} (q : Ret (ev C a () s h) fun x h => Ret (ev C b () s h) fun y h => ∃ k, cmpV o x y h = some k ∧ Φ (.bl k) h) : Ret (ev C (.cmp o a b) () s h) Φ := by
  unfold ev; exact Ret.seq q fun x h q => Ret.seq q fun y h ⟨k, e, q⟩ => Ret.seq (Ret.of e q) fun k h q => .ok q
theorem r_ife {c : T .t} {a b : T .e} (q : Ret (ev C c () s h) fun k h => (k = true → Ret (ev C a () s h) Φ) ∧ (k = false → Ret (ev C b () s h) Φ)) : Ret (ev C (.ife c a b) () s h) Φ := by
  unfold ev
  refine Ret.seq q fun k h ⟨q1, q2⟩ => ?_
  cases k with
  | true => exact q1 rfl
  | false => exact q2 rfl
theorem r_idx {a i : T .e} (q : Ret (ev C a () s h) fun x h => Ret (ev C i () s h) fun y h => ∃ v, idxV x y h = some v ∧ Φ v h) : Ret (ev C (.idx a i) () s h) Φ := by
  unfold ev; exact Ret.seq q fun x h q => Ret.seq q fun y h ⟨k, e, q⟩ => Ret.of e q
theorem r_call {g : Nat} {as : T .a} (q : Ret (ev C as () s h) fun xs h => Ret (C.call g xs h) Φ) : Ret (ev C (.call g as) () s h) Φ := by
  unfold ev; exact Ret.seq q fun x h q => q
theorem r_blt {b : Blt} {as : T .a} (q : Ret (ev C as () s h) fun xs h => Ret (bltV b xs h) Φ) : Ret (ev C (.blt b as) () s h) Φ := by
  unfold ev; exact Ret.seq q fun x h q => q
theorem r_bmt {m : Bmt} {o : T .e} {as : T .a} (q : Ret (ev C o () s h) fun x h => rcvOk m x h = true ∧ Ret (ev C as () s h) fun xs h => Ret (bmtV m x xs h) Φ) : Ret (ev C (.bmt m o as) () s h) Φ := by
  unfold ev
  refine Ret.seq q fun x h ⟨e, q⟩ => ?_
  rw [if_pos e]
  exact Ret.seq q fun x h q => q
theorem r_slcT {a hi lo : T .e} (q : Ret (ev C a () s h) fun x h => Ret (ev C lo () s h) fun p h => ∃ i, p = .int i ∧ Ret (ev C hi () s h) fun q h => ∃ j, q = .int j ∧ Ret (slcV x (some i) (some j) h) Φ) : Ret (ev C (.slc true true a lo hi) () s h) Φ := by
  unfold ev
  exact Ret.seq q fun x h q => Ret.seq q fun p h ⟨i, e, q⟩ => Ret.seq (Φ := fun u h' => u = some i ∧ h' = h) (Ret.of (by rw [e]; rfl) ⟨rfl, rfl⟩) fun u h' ⟨e1, e2⟩ => by
    subst e1 e2
    exact Ret.seq q fun w h ⟨j, e, q⟩ => Ret.seq (Φ := fun u h' => u = some j ∧ h' = h) (Ret.of (by rw [e]; rfl) ⟨rfl, rfl⟩) fun u h' ⟨e1, e2⟩ => by
      subst e1 e2; exact q
theorem r_slcH {a hi : T .e} (q : Ret (ev C a () s h) fun x h => Ret (ev C hi () s h) fun q h => ∃ j, q = .int j ∧ Ret (slcV x none (some j) h) Φ) : Ret (ev C (.slc false true a .non hi) () s h) Φ := by
  unfold ev
  refine Ret.seq q fun x h q => ?_
  have e0 : ev C .non () s h = .ok P.non h := by unfold ev; rfl
  rw [e0]
  show Ret ((ev C hi () s h).bind fun q h => (R.of (bndV true q) h).bind fun u h => slcV x none u h) Φ
  exact Ret.seq q fun w h ⟨j, e, q⟩ => Ret.seq (Φ := fun u h' => u = some j ∧ h' = h) (Ret.of (by rw [e]; rfl) ⟨rfl, rfl⟩) fun u h' ⟨e1, e2⟩ => by
    subst e1 e2; exact q
theorem r_lc {own : List Nat} {elt : T .e} {g : T .g} {i : T .i} {c : T .t} (q : Ret (ev C i () s h) fun w h => Ret (lcL w.stay (fun p h => (ev C g p (wipe s own) h).bind fun s' h => (ev C c () s' h).bind fun b h => if b then (ev C elt () s' h).bind fun v h => .ok (some v) h else .ok none h) w.its [] h) fun vs h => vs.length ≤ SZ ∧ Φ (.ref h.length) (h ++ [.lst vs])) :
    Ret (ev C (.lc own elt g i c) () s h) Φ := by
  unfold ev
  refine Ret.seq q fun w h q => ?_
  obtain ⟨vs, h', e, hl, q⟩ := q
  rw [e]
  show Ret (mkLst vs h') Φ
  unfold mkLst; rw [if_pos hl]; exact .ok q
end
section
variable {Φ : Bool → Hea → Prop}
theorem r_tcmp {o : Cop} {a b : T .e} (q : Ret (ev C a () s h) fun x h => Ret (ev C b () s h) fun y h => ∃ k, cmpV o x y h = some k ∧ Φ k h) : Ret (ev C (.tcmp o a b) () s h) Φ := by
  unfold ev; exact Ret.seq q fun x h q => Ret.seq q fun y h ⟨k, e, q⟩ => Ret.of e q
theorem r_tand {a b : T .t} (q : Ret (ev C a () s h) fun k h => (k = true → Ret (ev C b () s h) Φ) ∧ (k = false → Φ false h)) : Ret (ev C (.tand a b) () s h) Φ := by
  unfold ev
  refine Ret.seq q fun k h ⟨q1, q2⟩ => ?_
  cases k with
  | true => exact q1 rfl
  | false => exact .ok (q2 rfl)
theorem r_tor {a b : T .t} (q : Ret (ev C a () s h) fun k h => (k = true → Φ true h) ∧ (k = false → Ret (ev C b () s h) Φ)) : Ret (ev C (.tor a b) () s h) Φ := by
  unfold ev
  refine Ret.seq q fun k h ⟨q1, q2⟩ => ?_
  cases k with
  | true => exact .ok (q1 rfl)
  | false => exact q2 rfl
theorem r_tnot {a : T .t} (q : Ret (ev C a () s h) fun k h => Φ (!k) h) : Ret (ev C (.tnot a) () s h) Φ := by
  unfold ev; exact Ret.seq q fun k h q => .ok q
theorem r_tval {a : T .e} (q : Ret (ev C a () s h) fun x h => ∃ k, truV x h = some k ∧ Φ k h) : Ret (ev C (.tval a) () s h) Φ := by
  unfold ev; exact Ret.seq q fun x h ⟨k, e, q⟩ => Ret.of e q
theorem r_ttrue (q : Φ true h) : Ret (ev C .ttrue () s h) Φ := by unfold ev; exact .ok q
end
section
variable {Φ : List P → Hea → Prop}
theorem r_nil (q : Φ [] h) : Ret (ev C .nil () s h) Φ := by unfold ev; exact .ok q
theorem r_cons {a : T .e} {as : T .a} (q : Ret (ev C a () s h) fun x h => Ret (ev C as () s h) fun xs h => Φ (x :: xs) h) : Ret (ev C (.cons a as) () s h) Φ := by
  unfold ev; exact Ret.seq q fun x h q => Ret.seq q fun xs h q => .ok q
end
section
variable {Φ : Slots → Hea → Prop}
theorem r_gnm {i : Nat} {p : P} (q : Φ (s.set i (some p)) h) : Ret (ev C (.gnm i) p s h) Φ := by unfold ev; exact .ok q
theorem r_gtup {gs : T .gs} {ps : List P} (hl : ps.length = glen gs) (q : Ret (ev C (k := .gs) gs ps s h) Φ) : Ret (ev C (.gtup gs) (.tup ps) s h) Φ := by
  unfold ev; simp only [hl, if_true]; exact q
theorem r_gnil (q : Φ s h) : Ret (ev C .gnil [] s h) Φ := by unfold ev; exact .ok q
theorem r_gcons {g : T .g} {gs : T .gs} {p : P} {ps : List P} (q : Ret (ev C (k := .g) g p s h) fun s h => Ret (ev C (k := .gs) gs ps s h) Φ) : Ret (ev C (.gcons g gs) (p :: ps) s h) Φ := by
  unfold ev; exact Ret.seq q fun s h q => q
theorem r_gsub {o i : T .e} {p : P} (q : Ret (ev C o () s h) fun x h => Ret (ev C i () s h) fun y h => Ret (setV x y p h) fun _ h => Φ s h) : Ret (ev C (.gsub o i) p s h) Φ := by
  unfold ev; exact Ret.seq q fun x h q => Ret.seq q fun y h q => Ret.seq q fun _ h q => .ok q
end
section
variable {Φ : Wk → Hea → Prop}
theorem r_isq {a : T .e} (q : Ret (ev C a () s h) fun x h => Ret (walkSeq x h) Φ) : Ret (ev C (.isq a) () s h) Φ := by
  unfold ev; exact Ret.seq q fun x h q => q
theorem r_irng {a : T .e} (q : Ret (ev C a () s h) fun x h => ∃ j : Int, x = .int j ∧ -4611686018427387904 ≤ j ∧ j < 4611686018427387904 ∧ Φ ⟨(List.range j.toNat).map fun i => .int (0 + (i : Nat)), []⟩ h) : Ret (ev C (.irng a) () s h) Φ := by
  unfold ev
  refine Ret.seq q fun x h ⟨j, e, h1, h2, q⟩ => ?_
  subst e
  show Ret (if _ then _ else _) _
  rw [if_pos ⟨h1, h2⟩]; exact .ok q
theorem r_ienum {a : T .e} (q : Ret (ev C a () s h) fun x h => Ret (walkSeq x h) fun w h => Φ ⟨w.its.zipIdx.map fun x => .tup [.int (x.2 : Nat), x.1], w.stay⟩ h) : Ret (ev C (.ienum a) () s h) Φ := by
  unfold ev; exact Ret.seq q fun x h q => Ret.seq q fun w h q => .ok q
end
section
variable {Φ : Flow × Slots → Hea → Prop}
theorem r_skip (q : Φ (.nx, s) h) : Ret (ev C .skip () s h) Φ := by unfold ev; exact .ok q
theorem r_asg {g : T .g} {a : T .e} {k : T .s} (q : Ret (ev C a () s h) fun x h => Ret (ev C g x s h) fun s h => Ret (ev C k () s h) Φ) : Ret (ev C (.asg g a k) () s h) Φ := by
  unfold ev; exact Ret.seq q fun x h q => Ret.seq q fun s h q => q
theorem r_par {is : List Nat} {as : T .a} {k : T .s} (q : Ret (ev C as () s h) fun xs h => xs.length = is.length ∧ Ret (ev C k () (setAll s is xs) h) Φ) : Ret (ev C (.par is as k) () s h) Φ := by
  unfold ev
  refine Ret.seq q fun x h ⟨e, q⟩ => ?_
  rw [if_pos e]; exact q
theorem r_exp {a : T .e} {k : T .s} (q : Ret (ev C a () s h) fun _ h => Ret (ev C k () s h) Φ) : Ret (ev C (.exp a k) () s h) Φ := by
  unfold ev; exact Ret.seq q fun x h q => q
theorem r_ret {a : T .e} (q : Ret (ev C a () s h) fun x h => Φ (.rt x, s) h) : Ret (ev C (.ret a) () s h) Φ := by
  unfold ev; exact Ret.seq q fun x h q => .ok q
theorem r_ifs {c : T .t} {a b k : T .s} (q : Ret (ev C c () s h) fun z h => (z = true → Ret (ev C a () s h) fun r h => (r.1 = .nx ∧ Ret (ev C k () r.2 h) Φ) ∨ (r.1 ≠ .nx ∧ Φ r h)) ∧ (z = false → Ret (ev C b () s h) fun r h => (r.1 = .nx ∧ Ret (ev C k () r.2 h) Φ) ∨ (r.1 ≠ .nx ∧ Φ r h))) : Ret (ev C (.ifs c a b k) () s h) Φ := by
  unfold ev
  refine Ret.seq q fun z h ⟨q1, q2⟩ => ?_
  have : Ret (if z then ev C a () s h else ev C b () s h) fun r h => (r.1 = .nx ∧ Ret (ev C k () r.2 h) Φ) ∨ (r.1 ≠ .nx ∧ Φ r h) := by
    cases z with
    | true => exact q1 rfl
    | false => exact q2 rfl
  refine Ret.seq this fun r h q => ?_
  obtain ⟨fl, s'⟩ := r
  rcases q with ⟨e, q⟩ | ⟨e, q⟩
  · simp only at e; subst e; exact q
  · cases fl with
    | nx => exact absurd rfl e
    | _ => exact .ok q
theorem r_for {g : T .g} {i : T .i} {b k : T .s} (q : Ret (ev C i () s h) fun w h => Ret (forL w.stay (fun p s h => (ev C g p s h).bind fun s h => ev C b () s h) w.its s h) fun r h => (r.1 = .nx ∧ Ret (ev C k () r.2 h) Φ) ∨ (r.1 ≠ .nx ∧ Φ r h)) : Ret (ev C (.for_ g i b k) () s h) Φ := by
  unfold ev
  refine Ret.seq q fun w h q => Ret.seq q fun r h q => ?_
  obtain ⟨fl, s'⟩ := r
  rcases q with ⟨e, q⟩ | ⟨e, q⟩
  · simp only at e; subst e; exact q
  · cases fl with
    | nx => exact absurd rfl e
    | _ => exact .ok q
end
section
variable {Φ : P → Hea → Prop}
theorem v_add {i j : Int} (q : Φ (.int (i + j)) h) : Ret (binV .add (.int i) (.int j) h) Φ := ⟨_, _, rfl, q⟩
theorem v_sub {i j : Int} (q : Φ (.int (i - j)) h) : Ret (binV .sub (.int i) (.int j) h) Φ := ⟨_, _, rfl, q⟩
theorem v_mul {i j : Int} (hb : bits i + bits j < 100000000) (q : Φ (.int (i * j)) h) : Ret (binV .mul (.int i) (.int j) h) Φ := by
  show Ret (if _ then _ else _) Φ
  rw [if_pos hb]; exact .ok q
theorem v_mod {i j : Int} (hj : 0 < j) (q : Φ (.int (i % j)) h) : Ret (binV .mod (.int i) (.int j) h) Φ := by
  show Ret (if _ then _ else _) Φ
  rw [if_pos hj]; exact .ok q
theorem v_fdiv {i j : Int} (hj : 0 < j) (hb : bits j < 9000) (q : Φ (.int (i / j)) h) : Ret (binV .fdiv (.int i) (.int j) h) Φ := by
  show Ret (if _ then _ else _) Φ
  rw [if_pos ⟨hj, hb⟩]; exact .ok q
theorem v_pow {i j : Int} (c : 0 ≤ j ∧ j ≤ 1000000 ∧ i.natAbs < 18446744073709551616) (q : Φ (.int (i ^ j.toNat)) h) : Ret (binV .pow (.int i) (.int j) h) Φ := by
  show Ret (if _ then _ else _) Φ
  rw [if_pos c]; exact .ok q
theorem v_lenT {xs : List P} (q : Φ (.int xs.length) h) : Ret (bltV .len [.tup xs] h) Φ := ⟨_, _, rfl, q⟩
theorem v_lenL {l : Nat} {xs : List P} (e : h[l]? = some (.lst xs)) (q : Φ (.int xs.length) h) : Ret (bltV .len [.ref l] h) Φ := by
  simp only [bltV, e]; exact .ok q
theorem v_int {i : Int} (q : Φ (.int i) h) : Ret (bltV .int [.int i] h) Φ := ⟨_, _, rfl, q⟩
theorem v_tupL {l : Nat} {xs : List P} (e : h[l]? = some (.lst xs)) (q : Φ (.tup xs) h) : Ret (bltV .tuple [.ref l] h) Φ := by
  simp only [bltV, e]; exact .ok q
theorem v_append {l : Nat} {xs : List P} {y : P} (e : h[l]? = some (.lst xs)) (hl : xs.length < SZ) (q : Φ .non (h.set l (.lst (xs ++ [y])))) : Ret (bmtV .append (.ref l) [y] h) Φ := by
  simp only [bmtV, e]; rw [if_pos hl]; exact .ok q
theorem rcv_append {l : Nat} {xs : List P} (e : h[l]? = some (.lst xs)) : rcvOk .append (.ref l) h = true := by
  simp only [rcvOk, e]
end
theorem v_set {Φ : Unit → Hea → Prop} {l : Nat} {xs : List P} {i : Int} {j : Nat} {v : P} (e : h[l]? = some (.lst xs)) (hj : L2.ixN xs.length i = some j) (q : Φ () (h.set l (.lst (xs.set j v)))) : Ret (setV (.ref l) (.int i) v h) Φ := by
  simp only [setV, e, hj]; exact .ok q
theorem idx_lst {l : Nat} {xs : List P} {i : Int} {v : P} (e : h[l]? = some (.lst xs)) (hi : L2.atI xs i = some v) : idxV (.ref l) (.int i) h = some v := by
  simp only [idxV, e]; exact hi
theorem atI_nat {xs : List P} {i : Nat} {v : P} (e : xs[i]? = some v) : L2.atI xs (i : Int) = some v := by
  have hlt : i < xs.length := (List.getElem?_eq_some_iff.mp e).1
  unfold L2.atI
  have : L2.ixN xs.length (i : Int) = some i := by
    unfold L2.ixN
    rw [if_pos (by omega), if_pos (by omega), Int.toNat_natCast]
  rw [this]; exact e
theorem atI_in {xs : List P} {i : Int} {v : P} (h0 : 0 ≤ i) (e : xs[i.toNat]? = some v) : L2.atI xs i = some v := by
  have := atI_nat e
  rwa [Int.toNat_of_nonneg h0] at this
theorem run_ret {f : Fn} {as : List P} {Φ : P → Hea → Prop} (hl : as.length = f.params)
    (k : Ret (ev C f.body () (as.map some ++ List.replicate (f.slots - f.params) none) h) fun r h' => ∃ v, r.1 = .rt v ∧ Φ v h') : Ret (runFn C f as h) Φ := by
  unfold runFn
  rw [if_pos hl]
  refine Ret.seq k fun r h' ⟨v, e, q⟩ => ?_
  rw [e]
  exact .ok q
end
end Ev

set_option exponentiation.threshold 1000
namespace Ev
open PySem Ev.Code
local macro_rules | `(tactic| array_mem_dec) => `(tactic| repeat (first | with_reducible refine r_asg ?_ | with_reducible refine r_bin ?_ | with_reducible refine r_int ?_ | with_reducible refine r_str ?_ | with_reducible refine r_non ?_ | with_reducible refine r_bl ?_ | with_reducible refine r_blt ?_ | with_reducible refine r_call ?_ | with_reducible refine r_cons ?_ | with_reducible refine r_nil ?_ | with_reducible refine v_int ?_ | with_reducible refine v_add ?_ | with_reducible refine v_sub ?_ | with_reducible refine r_gnm ?_ | with_reducible refine r_tcmp ?_ | with_reducible refine r_idx ?_ | with_reducible refine r_gsub ?_ | with_reducible refine r_exp ?_ | with_reducible refine r_ret ?_ | with_reducible refine r_tup ?_ | with_reducible refine v_lenT ?_ | ((with_reducible apply r_var); exact rfl) | with_reducible refine v_mul (by omega) ?_ | with_reducible refine v_mod (by decide) ?_))
theorem bitsLt {x : Int} {n : Nat} (h : x.natAbs < 2 ^ n) : bits x ≤ n := by
  unfold bits
  by_cases e : x.natAbs = 0
  · rw [e]; simp
  · exact Nat.le_of_lt ((Nat.log2_lt e).mpr h)
theorem lay_ints : ∀ zs : List Int, PyData.canLayAll0 (zs.map PyData.int) = true
  | [] => rfl
  | z :: zs => by simp [PyData.canLayAll0, PyData.canLay0, lay_ints zs]
theorem dep_ints : ∀ zs : List Int, PyData.depthAll (zs.map PyData.int) = 0
  | [] => rfl
  | z :: zs => by simp [PyData.depthAll, PyData.depth, dep_ints zs]
theorem shaped_ints (zs : List Int) : SeqAt.shaped (.list (zs.map PyData.int)) = true := by
  simp [SeqAt.shaped, PyData.canLay0, lay_ints, PyData.depth, dep_ints]
theorem ne_nil {h : Hea} {a b : Nat} {zs : List Int} (ea : h[a]? = some (.lst (zs.map .int))) (eb : h[b]? = some (.lst [])) : cmpV .ne (.ref a) (.ref b) h = some (!zs.isEmpty) := by
  have da : dataOf h (.ref a) = some (.list (zs.map PyData.int)) := by
    unfold dataOf dataW locData
    simp only [ea]
    rw [ints_data h]; rfl
  have db : dataOf h (.ref b) = some (.list []) := by
    unfold dataOf dataW locData
    simp only [eb]; rfl
  show (eqV h _ _).map _ = _
  unfold eqV eqD
  rw [da, db]
  simp only [Option.bind_some, shaped_ints]
  cases zs with
  | nil => rfl
  | cons z zs => rfl
set_option maxHeartbeats 4000000 in
theorem fresh_spec {G : Prog} (hG : HasPen G) {W d n : Nat} {h : Hea} (p : Pen h n) (hn : n < 18446744073709551616) :
    Ret (callN G W (d + 1) 1 [.ref 2] h) fun v h' => (∃ x : Int, v = .int x ∧ 0 ≤ x) ∧ Pen h' (n + 1) ∧ Keep h h' := by
  rw [call_fn hG.f1]
  refine run_ret rfl ?_
  obtain ⟨cells, k, left, h1, h2, hb, hc, hk, hl⟩ := p.ex
  have l2 : 2 < h.length := (List.getElem?_eq_some_iff.mp h2).1
  unfold w_fresh
  refine r_asg (r_idx (r_var rfl (r_int ⟨_, idx_lst h2 rfl, r_gnm ?_⟩)))
  refine r_asg (r_bin (r_var rfl (r_int (v_add (r_gsub (r_var rfl (r_int (v_set h2 (j := 1) rfl ?_))))))))
  generalize hA : h.set 2 (.lst [.ref 1, .int ((k : Int) + 1), .int left]) = A
  have a1 : A[1]? = some (.lst (cells.map .int)) := by rw [← hA, List.getElem?_set_ne (by decide)]; exact h1
  have a2 : A[2]? = some (.lst [.ref 1, .int ((k : Int) + 1), .int left]) := by rw [← hA, List.getElem?_set_self l2]
  have ka : Keep h A := by rw [← hA]; exact Keep.set2
  show Ret (ev _ (.asg (.gnm 2) _ _) () _ (h.set 2 (.lst [.ref 1, .int ((k : Int) + 1), .int left]))) _
  rw [hA]
  refine r_asg (r_int (r_gnm ?_))
  generalize hB : A ++ [.lst []] = B
  have b1 : B[1]? = some (.lst (cells.map .int)) := by rw [← hB]; exact (Keep.push (h := A)).at_ 1 _ (by decide) a1
  have b2 : B[2]? = some (.lst [.ref 1, .int ((k : Int) + 1), .int left]) := by
    rw [← hB, List.getElem?_append_left (List.getElem?_eq_some_iff.mp a2).1]; exact a2
  have b3 : B[A.length]? = some (.lst []) := by rw [← hB]; simp
  have kb : Keep h B := by rw [← hB]; exact ka.trans Keep.push
  have pb : Pen B (n + 1) := ⟨cells, k + 1, left, b1, b2, hb, hc, by omega, hl⟩
  refine r_ifs (r_tcmp (r_idx (r_var rfl (r_int ⟨_, idx_lst a2 rfl, r_lst (r_nil ⟨by decide, ?_⟩)⟩))))
  rw [hB]
  refine ⟨_, ne_nil b1 b3, ?_⟩
  have cont : ∀ c : Int, bits c ≤ 1048576 → Ret (ev ⟨callN G W d, G.con, W⟩
      (.ifs (.tand (.tcmp .lt (.var 1) (.blt .len (.cons (.idx (.var 0) (.int 0)) .nil))) (.tcmp .ge (.var 2) (.bin .pow (.int 10) (.int 18))))
  (.ret (.bin .sub (.var 2) (.bin .pow (.int 10) (.int 18))))
  .skip
  (.asg (.gnm 3) (.int 2305843009213693951)
  (.asg (.gnm 4) (.bin .mod (.blt .int (.cons (.bin .add (.bin .add (.bin .mul (.var 2) (.int 48271)) (.bin .mul (.int 40692) (.var 1))) (.int 31)) .nil)) (.var 3))
  (.asg (.gnm 5) (.var 4)
  (.for_ (.gnm 6) (.irng (.int 6))
  (.asg (.gnm 4) (.bin .mod (.blt .int (.cons (.bin .add (.bin .add (.bin .mul (.var 4) (.var 4)) (.bin .mul (.bin .mul (.int 69621) (.bin .add (.var 6) (.int 1))) (.bin .add (.var 1) (.int 1)))) (.var 2)) .nil)) (.var 3))
  (.asg (.gnm 5) (.bin .add (.bin .mul (.var 5) (.var 3)) (.var 4))
  .skip))
  (.ret (.var 5))))))) () [some (.ref 2), some (.int k), some (.int c), none, none, none, none] B)
      fun r h' => ∃ v, r.1 = .rt v ∧ (∃ x : Int, v = .int x ∧ 0 ≤ x) ∧ Pen h' (n + 1) ∧ Keep h h' := by
    intro c hc'
    have bk : bits (k : Int) ≤ 64 := bitsLt (by rw [Int.natAbs_natCast]; omega)
    have b40 : bits 40692 = 15 := by decide +kernel
    have b48 : bits 48271 = 15 := by decide +kernel
    have b69 : bits 69621 = 16 := by decide +kernel
    have bp : bits 2305843009213693951 = 60 := by decide +kernel
    have rest : Ret (ev ⟨callN G W d, G.con, W⟩
      (.asg (.gnm 3) (.int 2305843009213693951)
  (.asg (.gnm 4) (.bin .mod (.blt .int (.cons (.bin .add (.bin .add (.bin .mul (.var 2) (.int 48271)) (.bin .mul (.int 40692) (.var 1))) (.int 31)) .nil)) (.var 3))
  (.asg (.gnm 5) (.var 4)
  (.for_ (.gnm 6) (.irng (.int 6))
  (.asg (.gnm 4) (.bin .mod (.blt .int (.cons (.bin .add (.bin .add (.bin .mul (.var 4) (.var 4)) (.bin .mul (.bin .mul (.int 69621) (.bin .add (.var 6) (.int 1))) (.bin .add (.var 1) (.int 1)))) (.var 2)) .nil)) (.var 3))
  (.asg (.gnm 5) (.bin .add (.bin .mul (.var 5) (.var 3)) (.var 4))
  .skip))
  (.ret (.var 5)))))) () [some (.ref 2), some (.int k), some (.int c), none, none, none, none] B)
      fun r h' => ∃ v, r.1 = .rt v ∧ (∃ x : Int, v = .int x ∧ 0 ≤ x) ∧ Pen h' (n + 1) ∧ Keep h h' := by
      array_mem_dec
      generalize hst : (c * 48271 + 40692 * (k : Int) + 31) % 2305843009213693951 = st
      have s0 : 0 ≤ st := by rw [← hst]; exact Int.emod_nonneg _ (by decide)
      have s1 : st < 2305843009213693951 := by rw [← hst]; exact Int.emod_lt_of_pos _ (by decide)
      refine r_for (r_irng (r_int ⟨_, rfl, by decide, by decide, ?_⟩))
      refine (ret_forL (I := fun i s h => h = B ∧ ∃ (st fd : Int) (pt : Option P), s = [some (.ref 2), some (.int k), some (.int c), some (.int 2305843009213693951), some (.int st), some (.int fd), pt] ∧ 0 ≤ st ∧ st < 2305843009213693951 ∧ 0 ≤ fd ∧ fd < 2305843009213693951 ^ (i + 1)) _ (fun i s h _ => rfl) ?_ ⟨rfl, st, st, none, rfl, s0, s1, s0, by simpa using s1⟩).imp fun r h' ⟨e, eh, st, fd, pt, es, _, _, f0, _⟩ => .inl ⟨e, ?_⟩
      · rintro i p s h hp ⟨rfl, st, fd, pt, rfl, s0, s1, f0, f1⟩
        have hi : i < 6 := by
          have := (List.getElem?_eq_some_iff.mp hp).1
          simpa using this
        have hp' : p = .int (0 + (i : Int)) := by
          rw [List.getElem?_map, List.getElem?_range (by simpa using hi)] at hp
          exact (Option.some.inj hp).symm
        subst hp'
        have bst : bits st ≤ 61 := bitsLt (by omega)
        have bi : bits (0 + (i : Int) + 1) ≤ 3 := bitsLt (by omega)
        have bm : bits (69621 * (0 + (i : Int) + 1)) ≤ 20 := bitsLt (by omega)
        have bk1 : bits ((k : Int) + 1) ≤ 65 := bitsLt (by omega)
        have bf : bits fd ≤ 427 := bitsLt (by
          have : (2305843009213693951 : Int) ^ (i + 1) ≤ 2305843009213693951 ^ 6 := by
            have h6 : i = 0 ∨ i = 1 ∨ i = 2 ∨ i = 3 ∨ i = 4 ∨ i = 5 := by omega
            rcases h6 with z | z | z | z | z | z <;> subst z <;> decide
          have : (2305843009213693951 : Int) ^ 6 < 2 ^ 427 := by decide +kernel
          omega)
        refine Ret.seq (Φ := fun s' h' => s' = [some (.ref 2), some (.int k), some (.int c), some (.int 2305843009213693951), some (.int st), some (.int fd), some (.int (0 + (i : Int)))] ∧ h' = h) (r_gnm ⟨rfl, rfl⟩) fun s' h' ⟨e1, e2⟩ => ?_
        subst e1 e2
        array_mem_dec
        generalize hst' : (st * st + 69621 * (0 + (i : Int) + 1) * ((k : Int) + 1) + c) % 2305843009213693951 = st'
        have t0 : 0 ≤ st' := by rw [← hst']; exact Int.emod_nonneg _ (by decide)
        have t1 : st' < 2305843009213693951 := by rw [← hst']; exact Int.emod_lt_of_pos _ (by decide)
        refine r_skip ⟨rfl, rfl, st', _, _, rfl, t0, t1, ?_, ?_⟩
        · have := Int.mul_nonneg f0 (show (0 : Int) ≤ 2305843009213693951 by decide)
          omega
        · have e : (2305843009213693951 : Int) ^ (i + 1 + 1) = 2305843009213693951 ^ (i + 1) * 2305843009213693951 := Int.pow_succ ..
          have : fd + 1 ≤ 2305843009213693951 ^ (i + 1) := f1
          have := Int.mul_le_mul_of_nonneg_right this (show (0 : Int) ≤ 2305843009213693951 by decide)
          rw [e]; omega
      · obtain ⟨fl, s'⟩ := r
        simp only at es
        subst es eh
        exact r_ret (r_var rfl ⟨_, rfl, ⟨_, rfl, f0⟩, pb, kb⟩)
    refine r_ifs (r_tand (r_tcmp (r_var rfl (r_blt (r_cons (r_idx (r_var rfl (r_int ⟨_, idx_lst b2 rfl, r_nil (v_lenL b1 ⟨_, rfl, fun _ => ?_, fun _ => ?_⟩)⟩))))))))
    · refine r_tcmp (r_var rfl (r_bin (r_int (r_int (v_pow (by decide) ⟨_, rfl, fun hge => ?_, fun _ => ?_⟩)))))
      · refine r_ret (r_bin (r_var rfl (r_bin (r_int (r_int (v_pow (by decide) (v_sub (.inr ⟨by simp, _, rfl, ⟨_, rfl, ?_⟩, pb, kb⟩))))))))
        have := of_decide_eq_true hge
        omega
      · exact r_skip (.inl ⟨rfl, rest⟩)
    · exact ⟨(fun z => nomatch z), fun _ => r_skip (.inl ⟨rfl, rest⟩)⟩
  constructor
  · intro hne
    refine r_asg (r_idx (r_idx (r_var rfl (r_int ⟨_, idx_lst b2 rfl, ?_⟩))))
    have hne' : 0 < cells.length := by cases cells with | nil => simp at hne | cons _ _ => simp
    array_mem_dec
    refine ⟨_, idx_lst b2 rfl, r_nil (v_lenL b1 (v_mod ?_ ?_))⟩
    · rw [List.length_map]; omega
    · rw [List.length_map]
      have hm : k % cells.length < cells.length := Nat.mod_lt _ hne'
      refine ⟨.int cells[k % cells.length], idx_lst b1 ?_, r_gnm (r_skip (.inl ⟨rfl, ?_⟩))⟩
      · have e : ((k : Int) % (cells.length : Int)) = ((k % cells.length : Nat) : Int) := rfl
        rw [e]
        exact atI_nat (by rw [List.getElem?_map, List.getElem?_eq_getElem hm]; rfl)
      · exact cont _ (bits_le _ _ (hb _ (List.getElem_mem hm)))
  · intro _
    exact r_skip (.inl ⟨rfl, cont 0 (by decide)⟩)
end Ev

namespace Ev
open PySem Ev.Code
local macro_rules | `(tactic| array_mem_dec) => `(tactic| repeat (first | with_reducible refine r_asg ?_ | with_reducible refine r_bin ?_ | with_reducible refine r_int ?_ | with_reducible refine r_str ?_ | with_reducible refine r_non ?_ | with_reducible refine r_bl ?_ | with_reducible refine r_blt ?_ | with_reducible refine r_call ?_ | with_reducible refine r_cons ?_ | with_reducible refine r_nil ?_ | with_reducible refine v_int ?_ | with_reducible refine v_add ?_ | with_reducible refine v_sub ?_ | with_reducible refine r_gnm ?_ | with_reducible refine r_tcmp ?_ | with_reducible refine r_idx ?_ | with_reducible refine r_gsub ?_ | with_reducible refine r_exp ?_ | with_reducible refine r_ret ?_ | with_reducible refine r_tup ?_ | with_reducible refine v_lenT ?_ | ((with_reducible apply r_var); exact rfl) | with_reducible refine v_mul (by omega) ?_ | with_reducible refine v_mod (by decide) ?_))
set_option maxHeartbeats 4000000 in
theorem draw_spec {G : Prog} (hG : HasPen G) {W d n : Nat} {h : Hea} (p : Pen h n) (hn : n < 18446744073709551616) {many : Int} (hm : 0 < many) (hb : bits many < 9000) :
    Ret (callN G W (d + 2) 2 [.ref 2, .int many] h) fun v h' => (∃ x : Int, v = .int x ∧ 0 ≤ x ∧ x < many) ∧ Pen h' (n + 1) ∧ Keep h h' := by
  rw [call_fn hG.f2]
  refine run_ret rfl ?_
  have cont : ∀ (h1 : Hea), Pen h1 (n + 1) → Keep h h1 → Ret (ev ⟨callN G W (d + 1), G.con, W⟩
      (.asg (.gnm 2) (.bin .mod (.blt .int (.cons (.idx (.var 0) (.int 2)) .nil)) (.var 1))
  (.asg (.gsub (.var 0) (.int 2)) (.bin .fdiv (.blt .int (.cons (.idx (.var 0) (.int 2)) .nil)) (.var 1))
  (.ret (.var 2)))) () [some (.ref 2), some (.int many), none] h1) fun r h' => ∃ v, r.1 = .rt v ∧ (∃ x : Int, v = .int x ∧ 0 ≤ x ∧ x < many) ∧ Pen h' (n + 1) ∧ Keep h h' := by
    intro h1 p1 k1
    obtain ⟨cells, k, left, c1, c2, c3, c4, c5, c6⟩ := p1.ex
    have l2 : 2 < h1.length := (List.getElem?_eq_some_iff.mp c2).1
    array_mem_dec
    refine ⟨_, idx_lst c2 rfl, r_nil (v_int (r_var rfl (v_mod hm ?_)))⟩
    array_mem_dec
    refine ⟨_, idx_lst c2 rfl, r_nil (v_int (r_var rfl (v_fdiv hm hb ?_)))⟩
    array_mem_dec
    refine v_set c2 (j := 2) rfl ?_
    array_mem_dec
    refine ⟨_, rfl, ⟨_, rfl, Int.emod_nonneg _ (by omega), Int.emod_lt_of_pos _ hm⟩, ⟨cells, k, left / many, ?_, ?_, c3, c4, c5, Int.ediv_nonneg c6 (by omega)⟩, k1.trans Keep.set2⟩
    · rw [List.getElem?_set_ne (by decide)]; exact c1
    · rw [List.getElem?_set_self l2]; rfl
  obtain ⟨cells, k, left, c1, c2, c3, c4, c5, c6⟩ := p.ex
  unfold w_draw
  refine r_ifs ?_
  array_mem_dec
  refine ⟨_, idx_lst c2 rfl, r_var rfl ⟨_, rfl, fun _ => ?_, fun _ => ?_⟩⟩
  · array_mem_dec
    refine (fresh_spec hG p hn).imp fun v h' ⟨⟨x, e, x0⟩, p', k'⟩ => ?_
    subst e
    obtain ⟨cells, k, left, c1, c2, c3, c4, c5, c6⟩ := p'.ex
    have l2 : 2 < h'.length := (List.getElem?_eq_some_iff.mp c2).1
    array_mem_dec
    refine v_set c2 (j := 2) rfl (r_skip (.inl ⟨rfl, cont _ ⟨cells, k, x, ?_, ?_, c3, c4, c5, x0⟩ (k'.trans Keep.set2)⟩))
    · rw [List.getElem?_set_ne (by decide)]; exact c1
    · rw [List.getElem?_set_self l2]; rfl
  · exact r_skip (.inl ⟨rfl, cont _ (p.mono (by omega)) .refl⟩)
theorem one_of_spec {G : Prog} (hG : HasPen G) (h4 : G.fn 4 = some w_one_of) {W d n : Nat} {h : Hea} (p : Pen h n) (hn : n < 18446744073709551616) {rows : P} {xs : List P} (hr : (∃ l, rows = .ref l ∧ l ≠ 2 ∧ h[l]? = some (.lst xs)) ∨ rows = .tup xs) (hx : 0 < xs.length) (hz : xs.length < 1000000) :
    Ret (callN G W (d + 3) 4 [.ref 2, rows] h) fun v h' => v ∈ xs ∧ Pen h' (n + 1) ∧ Keep h h' := by
  rw [call_fn h4]
  refine run_ret rfl ?_
  unfold w_one_of
  have fin : Ret (callN G W (d + 2) 2 [.ref 2, .int xs.length] h) fun v h' => (∃ x : Int, v = .int x ∧ 0 ≤ x ∧ x < xs.length) ∧ Pen h' (n + 1) ∧ Keep h h' := draw_spec hG p hn (by omega) (Nat.lt_of_le_of_lt (bitsLt (n := 20) (by rw [Int.natAbs_natCast]; omega)) (by decide))
  rcases hr with ⟨l, rfl, l2, hl⟩ | rfl
  · array_mem_dec
    refine v_lenL hl ?_
    array_mem_dec
    refine fin.imp fun v h' ⟨⟨x, e, x0, x1⟩, p', k'⟩ => ?_
    subst e
    have hlt : x.toNat < xs.length := by omega
    exact ⟨_, idx_lst (k'.at_ l _ l2 hl) (atI_in x0 (List.getElem?_eq_getElem hlt)), _, rfl, List.getElem_mem hlt, p', k'⟩
  · array_mem_dec
    refine fin.imp fun v h' ⟨⟨x, e, x0, x1⟩, p', k'⟩ => ?_
    subst e
    have hlt : x.toNat < xs.length := by omega
    exact ⟨_, atI_in x0 (List.getElem?_eq_getElem hlt), _, rfl, List.getElem_mem hlt, p', k'⟩
end Ev

namespace Ev
open PySem PyProof.Rows
structure Tx (p : P) (B D : Nat) : Prop where
  clo : Clo p
  dat : ∃ d : PyData, (∀ f, dataW f p = some d) ∧ d.showable = true ∧ d.hasDict = false ∧ d.depth ≤ D ∧ d.shown.length ≤ B
theorem Tx.mono {p : P} {B D B' D' : Nat} (h : Tx p B D) (hB : B ≤ B') (hD : D ≤ D') : Tx p B' D' := by
  obtain ⟨d, h1, h2, h3, h4, h5⟩ := h.dat
  exact ⟨h.clo, d, h1, h2, h3, by omega, by omega⟩
theorem small_shown : ∀ i : Fin 64, (PyData.shown (.int ((i.val : Nat) : Int))).length ≤ 10 ∧ PyData.showable (.int ((i.val : Nat) : Int)) = true := by decide +kernel
theorem Tx.int {i : Int} (h0 : 0 ≤ i) (h1 : i < 64) : Tx (.int i) 10 0 := by
  have := small_shown ⟨i.toNat, by omega⟩
  simp only [Int.toNat_of_nonneg h0] at this
  exact ⟨fun _ => rfl, .int i, fun _ => rfl, this.2, rfl, Nat.le_refl _, this.1⟩
theorem Tx.str {x : Str} {B : Nat} (h : (PyData.shown (.str x)).length ≤ B) : Tx (.str x) B 0 :=
  ⟨fun _ => rfl, .str x, fun _ => rfl, rfl, rfl, Nat.le_refl _, h⟩
theorem tx_all {B D : Nat} : ∀ {ps : List P}, (∀ p ∈ ps, Tx p B D) → (∀ n, shs n ps = ps) ∧ ∃ ds : List PyData, (∀ f, dataWs f ps = some ds) ∧ PyData.showableAll ds = true ∧ PyData.hasDictAll ds = false ∧ PyData.depthAll ds ≤ D ∧ piled (PyData.shownAll ds) ≤ ps.length * (B + 2)
  | [], _ => ⟨fun _ => rfl, [], fun _ => rfl, rfl, rfl, Nat.zero_le _, by simp [PyData.shownAll, piled]⟩
  | p :: ps, h => by
    obtain ⟨d, h1, h2, h3, h4, h5⟩ := (h p List.mem_cons_self).dat
    obtain ⟨c, ds, g1, g2, g3, g4, g5⟩ := tx_all fun q hq => h q (List.mem_cons_of_mem _ hq)
    refine ⟨fun n => by rw [shs, (h p List.mem_cons_self).clo n, c n], d :: ds, fun f => ?_, ?_, ?_, ?_, ?_⟩
    · simp only [dataWs]; rw [h1 f, g1 f]; rfl
    · simp only [PyData.showableAll, h2, g2, Bool.and_self]
    · simp only [PyData.hasDictAll, h3, g3, Bool.or_self]
    · simp only [PyData.depthAll]; omega
    · simp only [PyData.shownAll, piled_cons, List.length_cons, Nat.add_mul]; omega
theorem Tx.tup {ps : List P} {B D n : Nat} (h : ∀ p ∈ ps, Tx p B D) (hn : ps.length ≤ n) : Tx (.tup ps) (n * (B + 2) + 2) (D + 1) := by
  obtain ⟨c, ds, g1, g2, g3, g4, g5⟩ := tx_all h
  refine ⟨fun n => by rw [sh, c n], .tuple ds, fun f => by simp only [dataW]; rw [g1 f]; rfl, ?_, ?_, ?_, ?_⟩
  · simp only [PyData.showable]; exact g2
  · simp only [PyData.hasDict]; exact g3
  · simp only [PyData.depth]; omega
  · simp only [PyData.shown]
    have := fmt_text (PyData.shownAll ds)
    have := Nat.mul_le_mul_right (B + 2) hn
    omega
theorem Tx.repr {p : P} {B D : Nat} (h : Tx p B D) (hB : B ≤ 16777216) (hD : D ≤ 150) (hs : seqP p = true) : ∃ t : Str, ∀ g : Hea, bltV .repr [p] g = .ok (.str t) g := by
  obtain ⟨d, h1, h2, h3, h4, h5⟩ := h.dat
  refine ⟨d.shown, fun g => ?_⟩
  simp only [bltV]
  rw [if_pos hs]
  unfold dataOf
  rw [h1]
  simp only [h2, h3, Bool.not_false, Bool.and_true, Bool.true_and]
  rw [if_pos]
  simp only [Bool.and_eq_true, decide_eq_true_eq]
  exact ⟨by omega, by show _ ≤ SZ; unfold SZ; omega⟩
structure Sizes (zs : List Int) : Prop where
  ne : 0 < zs.length
  few : zs.length ≤ 3
  at_ : ∀ z ∈ zs, 2 ≤ z ∧ z ≤ 4
end Ev

namespace Ev
open PySem Ev.Code
local macro_rules | `(tactic| array_mem_dec) => `(tactic| repeat (first | with_reducible refine r_asg ?_ | with_reducible refine r_bin ?_ | with_reducible refine r_int ?_ | with_reducible refine r_str ?_ | with_reducible refine r_non ?_ | with_reducible refine r_bl ?_ | with_reducible refine r_blt ?_ | with_reducible refine r_call ?_ | with_reducible refine r_cons ?_ | with_reducible refine r_nil ?_ | with_reducible refine v_int ?_ | with_reducible refine v_add ?_ | with_reducible refine v_sub ?_ | with_reducible refine r_gnm ?_ | with_reducible refine r_tcmp ?_ | with_reducible refine r_idx ?_ | with_reducible refine r_gsub ?_ | with_reducible refine r_exp ?_ | with_reducible refine r_ret ?_ | with_reducible refine r_tup ?_ | with_reducible refine v_lenT ?_ | ((with_reducible apply r_var); exact rfl) | with_reducible refine v_mul (by omega) ?_ | with_reducible refine v_mod (by decide) ?_))
theorem eq_int {a b : Int} {h : Hea} : cmpV .eq (.int a) (.int b) h = some (decide (a = b)) := by
  show (if (SeqAt.shaped (.int a) && SeqAt.shaped (.int b)) = true then some (PyData.eqv (.int a) (.int b)) else none) = _
  rw [if_pos (by simp [SeqAt.shaped, PyData.canLay0, PyData.depth])]
  congr 1
theorem ne_int {a b : Int} {h : Hea} : cmpV .ne (.int a) (.int b) h = some (!decide (a = b)) := by
  show (cmpV .eq (.int a) (.int b) h).map _ = _
  rw [eq_int]; rfl
inductive StepV (zs : List Int) : Nat → P → Prop
  | whn {w c : Nat} {z v : Int} {s : P} : zs[c]? = some z → 0 ≤ v → v < z → StepV zs w s → StepV zs (w + 1) (.tup [.str "when", .int c, .int v, s])
  | cps {w c a : Nat} {z : Int} {x : Str} : x = "copy" ∨ x = "swap" → zs[c]? = some z → zs[a]? = some z → a ≠ c → StepV zs w (.tup [.str x, .int c, .int a])
  | set {w c : Nat} {z v : Int} : zs[c]? = some z → 0 ≤ v → v < z → StepV zs w (.tup [.str "set", .int c, .int v])
  | add {w c : Nat} {z v : Int} : zs[c]? = some z → 1 ≤ v → v < z → StepV zs w (.tup [.str "add", .int c, .int v])
theorem sizes_get {zs : List Int} (hz : Sizes zs) {c : Int} (h0 : 0 ≤ c) (h1 : c < zs.length) : ∃ (i : Nat) (z : Int), c = (i : Int) ∧ zs[i]? = some z ∧ 2 ≤ z ∧ z ≤ 4 ∧ L2.atI (zs.map P.int) c = some (.int z) := by
  have hlt : c.toNat < zs.length := by omega
  have e := List.getElem?_eq_getElem hlt
  obtain ⟨a, b⟩ := hz.at_ _ (List.getElem_mem hlt)
  exact ⟨c.toNat, zs[c.toNat], (Int.toNat_of_nonneg h0).symm, e, a, b, atI_in h0 (by rw [List.getElem?_map, e]; rfl)⟩
structure HasHouse (G : Prog) : Prop where
  pen : HasPen G
  f4 : G.fn 4 = some w_one_of
  f3 : G.fn 3 = some w_step_drawn
  f5 : G.fn 5 = some w_nodes_drawn
  f7 : G.fn 7 = some w_house
set_option maxHeartbeats 8000000 in
theorem step_spec {G : Prog} (hG : HasHouse G) {W : Nat} {zs : List Int} (hz : Sizes zs) : ∀ (w d n : Nat) (h : Hea), Pen h n → n + 6 * (w + 1) < 18446744073709551616 → w ≤ 3 →
    Ret (callN G W (d + w + 4) 3 [.ref 2, .tup (zs.map .int), .int w] h) fun v h' => StepV zs w v ∧ Pen h' (n + 6 * (w + 1)) ∧ Keep h h' := by
  have hP := hG.pen
  have hl3 := hz.few
  have hl0 := hz.ne
  have bz : ∀ z : Int, 0 ≤ z → z < 64 → bits z < 9000 := fun z h0 h1 => Nat.lt_of_le_of_lt (bitsLt (n := 6) (by omega)) (by decide)
  intro w
  induction w using Nat.strongRecOn with
  | ind w ih =>
    intro d n h p hn hw
    rw [call_fn hG.f3]
    refine run_ret rfl ?_
    unfold w_step_drawn
    show Ret (ev (k := .s) _ _ () [some (.ref 2), some (.tup (zs.map .int)), some (.int _), none, none, none, none, none] h) _
    array_mem_dec
    refine (draw_spec (d := _) hP p (by omega) (by rw [List.length_map]; omega) (by rw [List.length_map]; exact bz _ (by omega) (by omega))).imp fun v h1 ⟨⟨c, e, c0, c1⟩, p1, k1⟩ => ?_
    subst e
    rw [List.length_map] at c1
    obtain ⟨ci, z, rfl, hzc, z2, z4, hat⟩ := sizes_get hz c0 c1
    array_mem_dec
    refine r_lc (r_ienum (r_var rfl ⟨_, _, rfl, ?_⟩))
    refine (ret_lcL (I := fun i acc h => h = h1 ∧ ∃ as : List Nat, acc = (as.map fun a : Nat => (a : Int)).map P.int ∧ ∀ a ∈ as, zs[a]? = some z ∧ a ≠ ci) _ (by simp [SZ]; omega) (fun _ _ _ _ => rfl) ?_ ⟨rfl, [], rfl, fun _ h => nomatch h⟩).imp fun vs h' ⟨⟨eh, as, ea, hall⟩, hlen⟩ => ?_
    · rintro i p acc h hp ⟨rfl, as, rfl, hall⟩
      obtain ⟨y, hy, rfl⟩ : ∃ y, zs[i]? = some y ∧ p = .tup [.int (i : Nat), .int y] := by
        rw [List.getElem?_map, List.getElem?_zipIdx, List.getElem?_map] at hp
        cases hq : zs[i]? with
        | none => rw [hq] at hp; cases hp
        | some y => rw [hq] at hp; exact ⟨y, rfl, by simpa using hp.symm⟩
      refine Ret.bind (r_gtup rfl (r_gcons (r_gnm (r_gcons (r_gnm (r_gnil ?_))))))
      refine Ret.bind (r_tand (r_tcmp (r_var rfl (r_var rfl ⟨_, ne_int, fun q1 => ?_, fun _ => ?_⟩))))
      · refine r_tcmp (r_var rfl (r_idx (r_var rfl (r_var rfl ⟨_, hat, _, eq_int, ?_⟩))))
        cases hyz : decide (y = z) with
        | false => exact .ok ⟨rfl, as, rfl, hall⟩
        | true =>
          have e := of_decide_eq_true hyz
          subst e
          rw [if_pos rfl]
          refine Ret.bind (r_var rfl (.ok ⟨rfl, as ++ [i], by simp, fun a ha => ?_⟩))
          rcases List.mem_append.mp ha with ha | ha
          · exact hall a ha
          · have ea : a = i := by simpa using ha
            subst ea
            refine ⟨hy, fun z => ?_⟩
            subst z
            simp at q1
      · exact .ok ⟨rfl, as, rfl, hall⟩
    subst eh ea
    have hal : as.length ≤ 3 := by simp at hlen; omega
    refine ⟨by simp [SZ]; omega, r_gnm ?_⟩
    have p2 := p1.push (r := [.lst ((as.map fun a : Nat => (a : Int)).map P.int)])
    have k2 := k1.trans (Keep.push (r := [.lst ((as.map fun a : Nat => (a : Int)).map P.int)]))
    have hAt : (h' ++ [.lst ((as.map fun a : Nat => (a : Int)).map P.int)])[h'.length]? = some (.lst ((as.map fun a : Nat => (a : Int)).map P.int)) := by simp
    have hL2 : h'.length ≠ 2 := by
      obtain ⟨_, _, _, _, e2, _⟩ := p1.ex
      have := (List.getElem?_eq_some_iff.mp e2).1
      omega
    generalize hla : h'.length = la at hAt hL2 ⊢
    array_mem_dec
    refine (draw_spec hP p2 (by omega) (by decide) (by decide +kernel)).imp fun v h3 ⟨⟨kd, e, kd0, kd1⟩, p3, k3⟩ => ?_
    subst e
    have hAt := k3.at_ _ _ hL2 hAt
    have k3' := k2.trans k3
    refine r_gnm ?_
    refine r_ifs (Ret.imp (Φ := fun z h' => h' = h3 ∧ (z = true → (0 : Int) < (w : Int))) ?_ fun z h' ⟨e, hz'⟩ => ⟨fun zt => ?_, fun _ => r_skip (.inl ⟨rfl, ?_⟩)⟩)
    · refine r_tand (r_tcmp (r_var rfl (r_int ⟨_, rfl, fun q1 => ?_, fun _ => ⟨rfl, fun z => nomatch z⟩⟩)))
      exact r_tcmp (r_var rfl (r_int ⟨_, rfl, rfl, fun _ => of_decide_eq_true q1⟩))
    · have hw0 := hz' zt
      subst e
      obtain ⟨w', rfl⟩ : ∃ w', w = w' + 1 := ⟨w - 1, by omega⟩
      array_mem_dec
      refine ⟨_, hat, ?_⟩
      array_mem_dec
      refine (draw_spec hP p3 (by omega) (by omega) (bz _ (by omega) (by omega))).imp fun v h4 ⟨⟨x, e, x0, x1⟩, p4, k4⟩ => ?_
      subst e
      array_mem_dec
      rw [show ((w' + 1 : Nat) : Int) - 1 = (w' : Int) by omega]
      refine (ih w' (by omega) d _ h4 p4 (by omega) (by omega)).imp fun sv h5 ⟨hsv, p5, k5⟩ => ?_
      array_mem_dec
      exact ⟨by simp [SZ], .inr ⟨by simp, _, rfl, .whn hzc x0 x1 hsv, p5.mono (by omega), (k3'.trans k4).trans k5⟩⟩
    subst e
    -- copy, swap
    have hAs := (Keep.push (h := h') (r := [.lst []])).at_ _ _ hL2 hAt
    have hNil : (h' ++ [.lst []])[h'.length]? = some (.lst []) := by simp
    have p3s := p3.push (r := [.lst []])
    have k3s := k3'.trans (Keep.push (r := [.lst []]))
    refine r_ifs (Ret.imp (Φ := fun z h' => (Pen h' (n + 1 + 1) ∧ Keep h h' ∧ h'[la]? = some (.lst ((as.map fun a : Nat => (a : Int)).map P.int))) ∧ (z = true → 0 < as.length)) ?_ fun z h6 ⟨⟨p6, k6, a6⟩, hz'⟩ => ⟨fun zt => ?_, fun _ => r_skip (.inl ⟨rfl, ?_⟩)⟩)
    · refine r_tand (r_tcmp (r_var rfl (r_lst (r_nil ⟨by decide, _, ne_nil hAs hNil, fun q1 => ?_, fun _ => ⟨⟨p3s, k3s, hAs⟩, fun z => nomatch z⟩⟩))))
      refine r_tcmp (r_var rfl (r_int ⟨_, rfl, ⟨p3s, k3s, hAs⟩, fun _ => ?_⟩))
      cases as with
      | nil => simp at q1
      | cons _ _ => simp
    · have ha0 := hz' zt
      have hl6 : h6.length ≠ 2 := by
        obtain ⟨_, _, _, _, e2, _⟩ := p6.ex
        have := (List.getElem?_eq_some_iff.mp e2).1
        omega
      array_mem_dec
      refine r_lst ?_
      array_mem_dec
      refine ⟨by simp [SZ], ?_⟩
      array_mem_dec
      refine (draw_spec hP (p6.push (r := [.lst [.str "copy", .str "swap"]])) (by omega) (by decide) (by decide +kernel)).imp fun v h8 ⟨⟨x, e, x0, x1⟩, p8, k8⟩ => ?_
      subst e
      have w8 := k8.at_ h6.length (.lst [.str "copy", .str "swap"]) hl6 (by simp)
      have a8 := k8.at_ _ _ hL2 ((Keep.push (h := h6) (r := [.lst [.str "copy", .str "swap"]])).at_ _ _ hL2 a6)
      obtain ⟨wd, hwd, hix⟩ : ∃ wd : Str, (wd = "copy" ∨ wd = "swap") ∧ idxV (.ref h6.length) (.int x) h8 = some (.str wd) := by
        have : x = 0 ∨ x = 1 := by omega
        rcases this with rfl | rfl
        · exact ⟨_, .inl rfl, idx_lst w8 rfl⟩
        · exact ⟨_, .inr rfl, idx_lst w8 rfl⟩
      refine ⟨_, hix, ?_⟩
      array_mem_dec
      refine (one_of_spec hP hG.f4 p8 (by omega) (.inl ⟨la, rfl, hL2, a8⟩) (by simpa using ha0) (by simp; omega)).imp fun v h9 ⟨hv, p9, k9⟩ => ?_
      obtain ⟨a, ha, rfl⟩ : ∃ a : Nat, a ∈ as ∧ v = .int a := by simpa [eq_comm] using hv
      array_mem_dec
      exact ⟨by simp [SZ], .inr ⟨by simp, _, rfl, .cps hwd hzc (hall a ha).1 (hall a ha).2, p9.mono (by omega), ((k6.trans Keep.push).trans k8).trans k9⟩⟩
    · refine r_ifs (r_tcmp (r_var rfl (r_int ⟨_, eq_int, fun _ => ?_, fun _ => r_skip (.inl ⟨rfl, ?_⟩)⟩)))
      · array_mem_dec
        refine ⟨_, hat, ?_⟩
        array_mem_dec
        refine (draw_spec hP p6 (by omega) (by omega) (bz _ (by omega) (by omega))).imp fun v h8 ⟨⟨x, e, x0, x1⟩, p8, k8⟩ => ?_
        subst e
        array_mem_dec
        exact ⟨by simp [SZ], .inr ⟨by simp, _, rfl, .set hzc x0 x1, p8.mono (by omega), k6.trans k8⟩⟩
      · array_mem_dec
        refine ⟨_, hat, ?_⟩
        array_mem_dec
        refine (draw_spec hP p6 (by omega) (by omega) (bz _ (by omega) (by omega))).imp fun v h8 ⟨⟨x, e, x0, x1⟩, p8, k8⟩ => ?_
        subst e
        array_mem_dec
        exact ⟨by simp [SZ], _, rfl, .add hzc (by omega) (by omega), p8.mono (by omega), k6.trans k8⟩
end Ev

namespace Ev
open PySem Ev.Code
local macro_rules | `(tactic| array_mem_dec) => `(tactic| repeat (first | with_reducible refine r_asg ?_ | with_reducible refine r_bin ?_ | with_reducible refine r_int ?_ | with_reducible refine r_str ?_ | with_reducible refine r_non ?_ | with_reducible refine r_bl ?_ | with_reducible refine r_blt ?_ | with_reducible refine r_call ?_ | with_reducible refine r_cons ?_ | with_reducible refine r_nil ?_ | with_reducible refine v_int ?_ | with_reducible refine v_add ?_ | with_reducible refine v_sub ?_ | with_reducible refine r_gnm ?_ | with_reducible refine r_tcmp ?_ | with_reducible refine r_idx ?_ | with_reducible refine r_gsub ?_ | with_reducible refine r_exp ?_ | with_reducible refine r_ret ?_ | with_reducible refine r_tup ?_ | with_reducible refine v_lenT ?_ | ((with_reducible apply r_var); exact rfl) | with_reducible refine v_mul (by omega) ?_ | with_reducible refine v_mod (by decide) ?_))
inductive NodeV (zs : List Int) (m i : Nat) : P → Prop
  | ans {v : Int} : v = 0 ∨ v = 1 ∨ v = 2 ∨ v = 9 → NodeV zs m i (.tup [.str "answer", .int v])
  | look {c : Nat} {z : Int} {gs : List Int} : zs[c]? = some z → (∀ g ∈ gs, (i : Int) < g ∧ g < m) → gs.length = z.toNat → NodeV zs m i (.tup [.str "look", .int c, .tup (gs.map .int)])
def NodesV (zs : List Int) (m : Nat) (ps : List P) : Prop := ∀ (i : Nat) (q : P), ps[i]? = some q → NodeV zs m i q
theorem NodesV.push {zs : List Int} {m : Nat} {ps : List P} {x : P} (h : NodesV zs m ps) (hx : NodeV zs m ps.length x) : NodesV zs m (ps ++ [x]) := by
  intro i q e
  by_cases hi : i < ps.length
  · rw [List.getElem?_append_left hi] at e; exact h i q e
  · have := (List.getElem?_eq_some_iff.mp e).1
    simp at this
    have e1 : i = ps.length := by omega
    subst e1
    simp at e
    subst e; exact hx
theorem pen_len {h : Hea} {n : Nat} (p : Pen h n) : h.length ≠ 2 := by
  obtain ⟨_, _, _, _, e2, _⟩ := p.ex
  have := (List.getElem?_eq_some_iff.mp e2).1
  omega
theorem Keep.put {h h' : Hea} {l : Nat} {o : O} (k : Keep h h') (hl : h.length ≤ l) : Keep h (h'.set l o) :=
  ⟨by simpa using k.len, fun i u n e => by
    have := (List.getElem?_eq_some_iff.mp e).1
    rw [List.getElem?_set_ne (by omega)]; exact k.at_ i u n e⟩
set_option maxHeartbeats 8000000 in
theorem nodes_spec {G : Prog} (hG : HasHouse G) {W : Nat} {zs : List Int} (hz : Sizes zs) {d n : Nat} {h : Hea} {m : Nat} (p : Pen h n) (hn : n + 100 < 18446744073709551616) (hm : m ≤ 12) :
    Ret (callN G W (d + 4) 5 [.ref 2, .tup (zs.map .int), .int m] h) fun v h' => (∃ ps, v = .tup ps ∧ ps.length = m ∧ NodesV zs m ps) ∧ Pen h' (n + 7 * m) ∧ Keep h h' := by
  have hP := hG.pen
  have hl3 := hz.few
  have hl0 := hz.ne
  have bz : ∀ z : Int, 0 ≤ z → z < 64 → bits z < 9000 := fun z h0 h1 => Nat.lt_of_le_of_lt (bitsLt (n := 6) (by omega)) (by decide)
  rw [call_fn hG.f5]
  refine run_ret rfl ?_
  unfold w_nodes_drawn
  show Ret (ev (k := .s) _ _ () [some (.ref 2), some (.tup (zs.map .int)), some (.int m), none, none, none, none, none, none] h) _
  array_mem_dec
  refine r_lst ?_
  array_mem_dec
  refine ⟨by simp [SZ], ?_⟩
  array_mem_dec
  have hl2 := pen_len p
  have hgt : 2 < h.length := by
    obtain ⟨_, _, _, _, e2, _⟩ := p.ex
    exact (List.getElem?_eq_some_iff.mp e2).1
  generalize hla : h.length = la at hl2 hgt ⊢
  refine r_for (r_irng (r_var rfl ⟨_, rfl, by omega, by omega, ?_⟩))
  refine (ret_forL (I := fun i s h1 => ∃ ps, (∃ o4 o5 o6 o7 o8, s = [some (.ref 2), some (.tup (zs.map .int)), some (.int m), some (.ref la), o4, o5, o6, o7, o8]) ∧ h1[la]? = some (.lst ps) ∧ ps.length = i ∧ NodesV zs m ps ∧ Pen h1 (n + 7 * i) ∧ Keep h h1) _ (fun i s h _ => rfl) ?_ ?_).imp fun r h1 ⟨e, ps, ⟨o4, o5, o6, o7, o8, es⟩, hp, hlen, hall, p1, k1⟩ => .inl ⟨e, ?_⟩
  · rintro i q s h1 hq ⟨ps, ⟨o4, o5, o6, o7, o8, rfl⟩, hp, hlen, hall, p1, k1⟩
    have hi : i < m := by
      have := (List.getElem?_eq_some_iff.mp hq).1
      simpa using this
    have hq' : q = .int (0 + (i : Int)) := by
      rw [List.getElem?_map, List.getElem?_range (by simpa using hi)] at hq
      exact (Option.some.inj hq).symm
    subst hq'
    refine Ret.bind (r_gnm ?_)
    show Ret (ev (k := .s) _ _ () [some (.ref 2), some (.tup (zs.map .int)), some (.int m), some (.ref la), some (.int (0 + (i : Int))), o5, o6, o7, o8] h1) _
    refine r_ifs (Ret.imp (Φ := fun z h2 => (Pen h2 (n + 7 * i + 1) ∧ Keep h1 h2) ∧ (z = false → i + 3 ≤ m)) ?_ fun z h2 ⟨⟨p2, k2⟩, hz2⟩ => ⟨fun _ => ?_, fun zf => ?_⟩)
    · refine r_tor ?_
      array_mem_dec
      refine ⟨_, rfl, fun _ => ⟨⟨p1.mono (by omega), .refl⟩, fun z => (nomatch z)⟩, fun q1 => ?_⟩
      array_mem_dec
      refine (draw_spec hP p1 (by omega) (by decide) (by decide +kernel)).imp fun v h3 ⟨⟨x, e, x0, x1⟩, p3, k3⟩ => ?_
      subst e
      array_mem_dec
      have := of_decide_eq_false q1
      exact ⟨_, eq_int, ⟨p3, k3⟩, fun _ => by omega⟩
    · have a2 := k2.at_ _ _ hl2 hp
      have hl2' := pen_len p2
      array_mem_dec
      refine r_bmt (r_var rfl ⟨rcv_append a2, ?_⟩)
      array_mem_dec
      refine r_lst ?_
      array_mem_dec
      refine ⟨by simp [SZ], ?_⟩
      array_mem_dec
      refine (one_of_spec hP hG.f4 (xs := [.int 0, .int 1, .int 2, .int 2, .int 9]) (p2.push (r := [.lst [.int 0, .int 1, .int 2, .int 2, .int 9]])) (by omega) (.inl ⟨h2.length, rfl, hl2', by simp⟩) (by decide) (by decide)).imp fun v h3 ⟨hv, p3, k3⟩ => ?_
      obtain ⟨x, rfl, hx⟩ : ∃ x : Int, v = .int x ∧ (x = 0 ∨ x = 1 ∨ x = 2 ∨ x = 9) := by
        simp only [List.mem_cons, List.not_mem_nil, or_false] at hv
        rcases hv with rfl | rfl | rfl | rfl | rfl
        · exact ⟨0, rfl, by decide⟩
        · exact ⟨1, rfl, by decide⟩
        · exact ⟨2, rfl, by decide⟩
        · exact ⟨2, rfl, by decide⟩
        · exact ⟨9, rfl, by decide⟩
      have a3 := (Keep.push.trans k3).at_ _ _ hl2 a2
      array_mem_dec
      refine ⟨by simp [SZ], ?_⟩
      array_mem_dec
      refine v_append a3 (by simp [SZ]; omega) (r_skip (.inl ⟨rfl, r_skip ⟨rfl, ps ++ [.tup [.str "answer", .int x]], ⟨_, o5, o6, o7, o8, rfl⟩, ?_, by simp [hlen], hall.push (.ans hx), (p3.put hgt).mono (by omega), (((k1.trans k2).trans Keep.push).trans k3).put (by omega)⟩⟩))
      rw [List.getElem?_set_self (List.getElem?_eq_some_iff.mp a3).1]
    · have hz3 := hz2 zf
      have a2 := k2.at_ _ _ hl2 hp
      array_mem_dec
      rw [List.length_map]
      refine (draw_spec hP p2 (by omega) (by omega) (bz _ (by omega) (by omega))).imp fun v h3 ⟨⟨c, e, c0, c1⟩, p3, k3⟩ => ?_
      subst e
      obtain ⟨ci, z, rfl, hzc, z2, z4, hat⟩ := sizes_get hz c0 c1
      array_mem_dec
      refine ⟨by simp [SZ], r_gtup rfl (r_gcons (r_gnm (r_gcons (r_gnm (r_gnil ?_)))))⟩
      show Ret (ev (k := .s) _ _ () [some (.ref 2), some (.tup (zs.map .int)), some (.int m), some (.ref la), some (.int (0 + (i : Int))), some (.int ci), some (.int ((m : Int) - (0 + (i : Int)) - 1)), o7, o8] h3) _
      array_mem_dec
      refine r_lc (r_irng ?_)
      array_mem_dec
      refine ⟨_, hat, _, rfl, by omega, by omega, ?_⟩
      refine (ret_lcL (I := fun j acc h4 => (∃ gs : List Int, acc = gs.map P.int ∧ gs.length = j ∧ ∀ g ∈ gs, (i : Int) < g ∧ g < m) ∧ Pen h4 (n + 7 * i + 1 + 1 + j) ∧ Keep h3 h4) _ (by simp [SZ]; omega) (fun _ _ _ _ => rfl) ?_ ⟨⟨[], rfl, rfl, fun _ h => nomatch h⟩, p3, .refl⟩).imp fun vs h5 ⟨⟨⟨gs, eg, gl, hg⟩, p5, k5⟩, hlen'⟩ => ?_
      · rintro j q acc h4 hq ⟨⟨gs, rfl, gl, hg⟩, p4, k4⟩
        have hj : j < z.toNat := by
          have := (List.getElem?_eq_some_iff.mp hq).1
          simpa using this
        refine Ret.bind (r_gnm (Ret.bind (r_ttrue ?_)))
        rw [if_pos rfl]
        refine Ret.bind ?_
        show Ret (ev (k := .e) _ _ () [some (.ref 2), some (.tup (zs.map .int)), some (.int m), some (.ref la), some (.int (0 + (i : Int))), some (.int ci), some (.int ((m : Int) - (0 + (i : Int)) - 1)), o7, some q] h4) _
        array_mem_dec
        refine (draw_spec hP p4 (by omega) (by omega) (bz _ (by omega) (by omega))).imp fun v h6 ⟨⟨x, e, x0, x1⟩, p6, k6⟩ => ?_
        subst e
        array_mem_dec
        refine .ok ⟨⟨gs ++ [0 + (i : Int) + 1 + x], by simp, by simp [gl], fun g hgm => ?_⟩, p6.mono (by omega), k4.trans k6⟩
        rcases List.mem_append.mp hgm with hgm | hgm
        · exact hg g hgm
        · rw [List.mem_singleton.mp hgm]; omega
      · subst eg
        have gl' : gs.length = z.toNat := by simpa using gl
        have a5 := ((k3.trans k5).trans (Keep.push (r := [.lst (gs.map .int)]))).at_ _ _ hl2 a2
        have p5' := p5.push (r := [.lst (gs.map .int)])
        refine ⟨by simp [SZ]; omega, ?_⟩
        array_mem_dec
        refine r_bmt (r_var rfl ⟨rcv_append a5, ?_⟩)
        array_mem_dec
        refine v_tupL (xs := gs.map .int) (by simp) ?_
        array_mem_dec
        refine ⟨by simp [SZ], ?_⟩
        array_mem_dec
        refine v_append a5 (by simp [SZ]; omega) (r_skip (.inl ⟨rfl, r_skip ⟨rfl, ps ++ [.tup [.str "look", .int ci, .tup (gs.map .int)]], ⟨_, _, _, _, _, rfl⟩, ?_, by simp [hlen], hall.push (.look hzc (by rw [hlen]; exact hg) gl'), (p5'.put hgt).mono (by simp at *; omega), ((((k1.trans k2).trans k3).trans k5).trans Keep.push).put (by omega)⟩⟩))
        rw [List.getElem?_set_self (List.getElem?_eq_some_iff.mp a5).1]
  · exact ⟨[], ⟨none, none, none, none, none, rfl⟩, by rw [← hla]; simp, rfl, fun i q e => by simp at e, p.push, Keep.push⟩
  · obtain ⟨fl, s'⟩ := r
    simp only at es
    subst es
    array_mem_dec
    refine v_tupL hp ?_
    exact ⟨_, rfl, ⟨ps, rfl, by simpa using hlen, hall⟩, by simpa using p1, k1⟩
end Ev

namespace Ev
open PySem Ev.Code
local macro_rules | `(tactic| array_mem_dec) => `(tactic| repeat (first | with_reducible refine r_asg ?_ | with_reducible refine r_bin ?_ | with_reducible refine r_int ?_ | with_reducible refine r_str ?_ | with_reducible refine r_non ?_ | with_reducible refine r_bl ?_ | with_reducible refine r_blt ?_ | with_reducible refine r_call ?_ | with_reducible refine r_cons ?_ | with_reducible refine r_nil ?_ | with_reducible refine v_int ?_ | with_reducible refine v_add ?_ | with_reducible refine v_sub ?_ | with_reducible refine r_gnm ?_ | with_reducible refine r_tcmp ?_ | with_reducible refine r_idx ?_ | with_reducible refine r_gsub ?_ | with_reducible refine r_exp ?_ | with_reducible refine r_ret ?_ | with_reducible refine r_tup ?_ | with_reducible refine v_lenT ?_ | ((with_reducible apply r_var); exact rfl) | with_reducible refine v_mul (by omega) ?_ | with_reducible refine v_mod (by decide) ?_))
def HouseV (zs : List Int) (m e : Nat) (v : P) : Prop := ∃ (nodes : List P) (qs : List Int) (rows : List P), v = .tup [.tup (zs.map .int), .tup nodes, .tup (qs.map .int), .tup rows] ∧ nodes.length = m ∧ NodesV zs m nodes ∧
  (0 < qs.length ∧ qs.length ≤ 3 ∧ ∀ q ∈ qs, 0 ≤ q ∧ q < m) ∧ rows.length = e ∧ ∀ r ∈ rows, ∃ ss, r = .tup ss ∧ ss.length ≤ 3 ∧ ∀ s ∈ ss, StepV zs 3 s
theorem range_item {m : Int} {i : Nat} {q : P} (hq : ((List.range m.toNat).map fun i : Nat => P.int (0 + (i : Int)))[i]? = some q) : (i : Int) < m ∧ q = .int (0 + (i : Int)) := by
  have hi : i < m.toNat := by
    have := (List.getElem?_eq_some_iff.mp hq).1
    simpa using this
  rw [List.getElem?_map, List.getElem?_range hi] at hq
  exact ⟨by omega, (Option.some.inj hq).symm⟩
set_option maxHeartbeats 8000000 in
theorem house_spec {G : Prog} (hG : HasHouse G) {W : Nat} {zs : List Int} (hz : Sizes zs) {d n : Nat} {h : Hea} {m e : Nat} (p : Pen h n) (hn : n + 1000 < 18446744073709551616) (hm0 : 1 ≤ m) (hm : m ≤ 12) (he : e ≤ 6) :
    Ret (callN G W (d + 8) 7 [.ref 2, .tup (zs.map .int), .int m, .int e] h) fun v h' => HouseV zs m e v ∧ Pen h' (n + 1000) ∧ Keep h h' := by
  have hP := hG.pen
  have bz : ∀ z : Int, 0 ≤ z → z < 64 → bits z < 9000 := fun z h0 h1 => Nat.lt_of_le_of_lt (bitsLt (n := 6) (by omega)) (by decide)
  have bz6 : ∀ z : Int, 0 ≤ z → z < 64 → bits z ≤ 6 := fun z h0 h1 => bitsLt (n := 6) (by omega)
  rw [call_fn hG.f7]
  refine run_ret rfl ?_
  unfold w_house
  show Ret (ev (k := .s) _ _ () [some (.ref 2), some (.tup (zs.map .int)), some (.int m), some (.int e), none, none, none, none] h) _
  refine r_par (r_cons (r_lst ?_))
  array_mem_dec
  refine (draw_spec hP p (by omega) (by omega) (bz _ (by omega) (by omega))).imp fun v h1 ⟨⟨x, ex, x0, x1⟩, p1, k1⟩ => ?_
  subst ex
  array_mem_dec
  refine (draw_spec hP p1 (by omega) (by decide) (by decide +kernel)).imp fun v h2 ⟨⟨y, ey, y0, y1⟩, p2, k2⟩ => ?_
  subst ey
  refine v_mul (by have := bz6 x x0 (by omega); have := bz6 y y0 (by omega); omega) ?_
  array_mem_dec
  have hxy : 0 ≤ x * y ∧ x * y < m := by
    have : y = 0 ∨ y = 1 := by omega
    rcases this with rfl | rfl
    · simp; omega
    · simp; omega
  refine ⟨by simp [SZ], ?_⟩
  refine r_cons (r_lst ?_)
  array_mem_dec
  refine ⟨by simp [SZ], ?_⟩
  array_mem_dec
  refine ⟨rfl, ?_⟩
  generalize hA : h2 ++ [.lst [.int (x * y)]] = A
  have kA : Keep h A := by rw [← hA]; exact (k1.trans k2).trans Keep.push
  have pA : Pen A (n + 1 + 1) := by rw [← hA]; exact p2.push
  have lA : A.length = h2.length + 1 := by rw [← hA]; simp
  have aA : A[h2.length]? = some (.lst (([x * y] : List Int).map .int)) := by rw [← hA]; simp
  have g2 : 2 < h2.length := by
    obtain ⟨_, _, _, _, e2, _⟩ := p2.ex
    exact (List.getElem?_eq_some_iff.mp e2).1
  have gk := (k1.trans k2).len
  generalize hla : h2.length = la at aA g2 lA gk ⊢
  generalize hB : A ++ [.lst []] = B
  have kB : Keep h B := by rw [← hB]; exact kA.trans Keep.push
  have pB : Pen B (n + 2) := by rw [← hB]; exact pA.push
  have aB : B[la]? = some (.lst (([x * y] : List Int).map .int)) := by rw [← hB]; exact Keep.push.at_ _ _ (by omega) aA
  have bB : B[la + 1]? = some (.lst []) := by rw [← hB, ← lA]; simp
  rw [lA]
  show Ret (ev (k := .s) _ _ () [some (.ref 2), some (.tup (zs.map .int)), some (.int m), some (.int e), some (.ref la), some (.ref (la + 1)), none, none] B) _
  refine r_for (r_irng ?_)
  array_mem_dec
  refine (draw_spec hP pB (by omega) (by decide) (by decide +kernel)).imp fun v h3 ⟨⟨c, ec, c0, c1⟩, p3, k3⟩ => ⟨c, ec, by omega, by omega, ?_⟩
  refine (ret_forL (I := fun i s h4 => ∃ qs : List Int, (∃ o6 o7, s = [some (.ref 2), some (.tup (zs.map .int)), some (.int m), some (.int e), some (.ref la), some (.ref (la + 1)), o6, o7]) ∧ h4[la]? = some (.lst (qs.map .int)) ∧ qs.length = i + 1 ∧ (∀ q ∈ qs, 0 ≤ q ∧ q < m) ∧ h4[la + 1]? = some (.lst []) ∧ Pen h4 (n + 3 + i) ∧ Keep h h4) _ (fun i s h _ => rfl) ?_ ?_).imp fun r h5 ⟨er, qs, ⟨o6, o7, es⟩, a5, l5, q5, b5, p5, k5⟩ => .inl ⟨er, ?_⟩
  · rintro i s q h4 hq ⟨qs, ⟨o6, o7, rfl⟩, a4, l4, q4, b4, p4, k4⟩
    obtain ⟨hi, rfl⟩ := range_item hq
    refine Ret.bind (r_gnm ?_)
    show Ret (ev (k := .s) _ _ () [some (.ref 2), some (.tup (zs.map .int)), some (.int m), some (.int e), some (.ref la), some (.ref (la + 1)), some (.int (0 + (i : Int))), o7] h4) _
    array_mem_dec
    refine r_bmt (r_var rfl ⟨rcv_append a4, ?_⟩)
    array_mem_dec
    refine (draw_spec hP p4 (by omega) (by omega) (bz _ (by omega) (by omega))).imp fun v h5 ⟨⟨x', ex, x0, x1⟩, p5, k5⟩ => ?_
    subst ex
    array_mem_dec
    have a5 := k5.at_ _ _ (by omega) a4
    have b5 := k5.at_ _ _ (by omega) b4
    refine v_append a5 (by simp [SZ]; omega) (r_skip ⟨rfl, qs ++ [x'], ⟨_, _, rfl⟩, ?_, by simp [l4], fun q hq => ?_, ?_, (p5.put g2).mono (by omega), (k4.trans k5).put gk⟩)
    · rw [List.getElem?_set_self (List.getElem?_eq_some_iff.mp a5).1]; simp
    · rcases List.mem_append.mp hq with hq | hq
      · exact q4 q hq
      · rw [List.mem_singleton.mp hq]; exact ⟨x0, x1⟩
    · rw [List.getElem?_set_ne (by omega)]; exact b5
  · exact ⟨[x * y], ⟨none, none, rfl⟩, k3.at_ _ _ (by omega) aB, rfl, fun q hq => by rw [List.mem_singleton.mp hq]; exact hxy, k3.at_ _ _ (by omega) bB, p3, kB.trans k3⟩
  · obtain ⟨fl, s'⟩ := r
    simp only at es
    subst es
    have l5' : qs.length = c.toNat + 1 := by simpa using l5
    have p5' : Pen h5 (n + 6) := p5.mono (by simp; omega)
    show Ret (ev (k := .s) _ _ () [some (.ref 2), some (.tup (zs.map .int)), some (.int m), some (.int e), some (.ref la), some (.ref (la + 1)), o6, o7] h5) _
    refine r_for (r_irng (r_var rfl ⟨_, rfl, by omega, by omega, ?_⟩))
    refine (ret_forL (I := fun i s h4 => ∃ rows : List P, (∃ o6 o7, s = [some (.ref 2), some (.tup (zs.map .int)), some (.int m), some (.int e), some (.ref la), some (.ref (la + 1)), o6, o7]) ∧ h4[la]? = some (.lst (qs.map .int)) ∧ h4[la + 1]? = some (.lst rows) ∧ rows.length = i ∧ (∀ r ∈ rows, ∃ ss, r = .tup ss ∧ ss.length ≤ 3 ∧ ∀ s ∈ ss, StepV zs 3 s) ∧ Pen h4 (n + 6 + 100 * i) ∧ Keep h h4) _ (fun i s h _ => rfl) ?_ ⟨[], ⟨_, _, rfl⟩, a5, b5, rfl, fun _ h => (nomatch h), p5', k5⟩).imp fun r h6 ⟨er, rows, ⟨o6, o7, es⟩, a6, b6, l6, q6, p6, k6⟩ => .inl ⟨er, ?_⟩
    · rintro i s q h4 hq ⟨rows, ⟨o6, o7, rfl⟩, a4, b4, l4, q4, p4, k4⟩
      obtain ⟨hi, rfl⟩ := range_item hq
      refine Ret.bind (r_gnm ?_)
      show Ret (ev (k := .s) _ _ () [some (.ref 2), some (.tup (zs.map .int)), some (.int m), some (.int e), some (.ref la), some (.ref (la + 1)), some (.int (0 + (i : Int))), o7] h4) _
      array_mem_dec
      refine r_bmt (r_var rfl ⟨rcv_append b4, ?_⟩)
      array_mem_dec
      refine r_lc (r_irng ?_)
      array_mem_dec
      refine (draw_spec hP p4 (by omega) (by decide) (by decide +kernel)).imp fun v h7 ⟨⟨c', ec', c0', c1'⟩, p7, k7⟩ => ⟨c', ec', by omega, by omega, ?_⟩
      refine (ret_lcL (I := fun j acc h8 => acc.length = j ∧ (∀ s ∈ acc, StepV zs 3 s) ∧ Pen h8 (n + 6 + 100 * i + 1 + 24 * j) ∧ Keep h7 h8) _ (by simp [SZ]; omega) (fun _ _ _ _ => rfl) ?_ ⟨rfl, fun _ h => (nomatch h), p7, .refl⟩).imp fun vs h9 ⟨⟨vl, hv, p9, k9⟩, hlen'⟩ => ?_
      · rintro j q acc h8 hq ⟨al, ha, p8, k8⟩
        obtain ⟨hj, rfl⟩ := range_item hq
        refine Ret.bind (r_gnm (Ret.bind (r_ttrue ?_)))
        rw [if_pos rfl]
        refine Ret.bind ?_
        show Ret (ev (k := .e) _ _ () [some (.ref 2), some (.tup (zs.map .int)), some (.int m), some (.int e), some (.ref la), some (.ref (la + 1)), some (.int (0 + (i : Int))), some (.int (0 + (j : Int)))] h8) _
        array_mem_dec
        refine (step_spec hG hz 3 d _ h8 p8 (by omega) (by omega)).imp fun v h10 ⟨sv, p10, k10⟩ => ?_
        refine .ok ⟨by simp [al], fun s hs => ?_, p10.mono (by omega), k8.trans k10⟩
        rcases List.mem_append.mp hs with hs | hs
        · exact ha s hs
        · rw [List.mem_singleton.mp hs]; exact sv
      · have hv3 : vs.length ≤ 3 := by simp at hlen'; omega
        have a9 := ((k7.trans k9).trans (Keep.push (r := [.lst vs]))).at_ _ _ (by omega) a4
        have b9 := ((k7.trans k9).trans (Keep.push (r := [.lst vs]))).at_ _ _ (by omega) b4
        refine ⟨by simp [SZ]; omega, ?_⟩
        array_mem_dec
        refine v_tupL (xs := vs) (by simp) ?_
        array_mem_dec
        refine v_append b9 (by simp [SZ]; omega) (r_skip ⟨rfl, rows ++ [.tup vs], ⟨_, _, rfl⟩, ?_, ?_, by simp [l4], fun r hr => ?_, ((p9.push (r := [.lst vs])).put (by omega)).mono (by simp at *; omega), (((k4.trans k7).trans k9).trans Keep.push).put (by omega)⟩)
        · rw [List.getElem?_set_ne (by omega)]; exact a9
        · rw [List.getElem?_set_self (List.getElem?_eq_some_iff.mp b9).1]
        · rcases List.mem_append.mp hr with hr | hr
          · exact q4 r hr
          · rw [List.mem_singleton.mp hr]; exact ⟨vs, rfl, hv3, hv⟩
    · obtain ⟨fl, s'⟩ := r
      simp only at es
      subst es
      have l6' : rows.length = e := by simpa using l6
      have p6' : Pen h6 (n + 700) := p6.mono (by simp; omega)
      show Ret (ev (k := .s) _ _ () [some (.ref 2), some (.tup (zs.map .int)), some (.int m), some (.int e), some (.ref la), some (.ref (la + 1)), o6, o7] h6) _
      array_mem_dec
      refine (nodes_spec hG hz p6' (by omega) hm).imp fun v h7 ⟨⟨ns, en, nl, hn'⟩, p7, k7⟩ => ?_
      subst en
      array_mem_dec
      refine v_tupL (k7.at_ _ _ (by omega) a6) ?_
      array_mem_dec
      refine v_tupL (k7.at_ _ _ (by omega) b6) ?_
      array_mem_dec
      exact ⟨by simp [SZ], _, rfl, ⟨ns, qs, rows, rfl, nl, hn', ⟨by omega, by omega, q5⟩, l6', q6⟩, p7.mono (by omega), k6.trans k7⟩
end Ev

namespace Ev
open PySem Ev.Code
theorem idx_small {zs : List Int} (hz : Sizes zs) {c : Nat} {z : Int} (h : zs[c]? = some z) : c < 3 ∧ z ≤ 4 := by
  have h1 := (List.getElem?_eq_some_iff.mp h).1
  have := hz.few
  exact ⟨by omega, (hz.at_ z (List.mem_of_getElem? h)).2⟩
theorem tx_word {x : Str} (h : x = "when" ∨ x = "copy" ∨ x = "swap" ∨ x = "set" ∨ x = "add" ∨ x = "answer" ∨ x = "look") : Tx (.str x) 10 0 := by
  refine Tx.str ?_
  rcases h with rfl | rfl | rfl | rfl | rfl | rfl | rfl <;> decide +kernel
theorem mem3 {p q r s : P} (h : s ∈ [p, q, r]) : s = p ∨ s = q ∨ s = r := by simpa using h
theorem step_tx {zs : List Int} (hz : Sizes zs) {w : Nat} {s : P} (h : StepV zs w s) : Tx s (50 * 5 ^ w) (w + 1) := by
  have pos : ∀ w : Nat, 1 ≤ 5 ^ w := fun w => Nat.pow_pos (by decide)
  have base : ∀ {w c : Nat} {x : Str} {v : Int}, Tx (.str x) 10 0 → c < 3 → 0 ≤ v → v < 64 → Tx (.tup [.str x, .int c, .int v]) (50 * 5 ^ w) (w + 1) := fun {w c x v} hx hc h0 h1 => by
    refine (Tx.tup (B := 10) (D := 0) (n := 3) (fun p hp => ?_) (by simp)).mono (by have := pos w; omega) (by omega)
    rcases mem3 hp with rfl | rfl | rfl
    · exact hx
    · exact Tx.int (by omega) (by omega)
    · exact Tx.int h0 h1
  induction h with
  | @whn w c z v s hc h0 h1 hs ih =>
    obtain ⟨c3, z4⟩ := idx_small hz hc
    refine (Tx.tup (B := 50 * 5 ^ w) (D := w + 1) (n := 4) (fun p hp => ?_) (by simp)).mono (by have := pos w; rw [Nat.pow_succ]; omega) (by omega)
    have hp' : p = .str "when" ∨ p = .int c ∨ p = .int v ∨ p = s := by simpa using hp
    have := pos w
    rcases hp' with rfl | rfl | rfl | rfl
    · exact (tx_word (.inl rfl)).mono (by omega) (by omega)
    · exact (Tx.int (by omega) (by omega)).mono (by omega) (by omega)
    · exact (Tx.int (by omega) (by omega)).mono (by omega) (by omega)
    · exact ih
  | @cps w c a z x hx hc ha hne =>
    have h1 := idx_small hz hc
    have h2 := idx_small hz ha
    exact base (tx_word (by rcases hx with rfl | rfl <;> simp)) h1.1 (by omega) (by omega)
  | @set w c z v hc h0 h1 =>
    have h2 := idx_small hz hc
    exact base (tx_word (by simp)) h2.1 h0 (by omega)
  | @add w c z v hc h0 h1 =>
    have h2 := idx_small hz hc
    exact base (tx_word (by simp)) h2.1 (by omega) (by omega)
theorem ints_tx {gs : List Int} {k : Nat} (h : ∀ g ∈ gs, 0 ≤ g ∧ g < 64) (hl : gs.length ≤ k) : Tx (.tup (gs.map .int)) (k * 12 + 2) 1 := by
  refine Tx.tup (B := 10) (D := 0) (n := k) (fun p hp => ?_) (by simpa using hl)
  obtain ⟨g, hg, rfl⟩ := List.mem_map.mp hp
  exact Tx.int (h g hg).1 (h g hg).2
theorem node_tx {zs : List Int} (hz : Sizes zs) {q : P} {m i : Nat} (hm : m ≤ 12) (h : NodeV zs m i q) : Tx q 200 2 := by
  cases h with
  | @ans v hv =>
    refine (Tx.tup (B := 10) (D := 0) (n := 2) (fun p hp => ?_) (by simp)).mono (by omega) (by omega)
    have hp' : p = .str "answer" ∨ p = .int v := by simpa using hp
    rcases hp' with rfl | rfl
    · exact tx_word (by simp)
    · exact Tx.int (by omega) (by omega)
  | @look c z gs hc hg gl =>
    have h1 := idx_small hz hc
    refine (Tx.tup (B := 50) (D := 1) (n := 3) (fun p hp => ?_) (by simp)).mono (by omega) (by omega)
    rcases mem3 hp with rfl | rfl | rfl
    · exact (tx_word (by simp)).mono (by omega) (by omega)
    · exact (Tx.int (by omega) (by omega)).mono (by omega) (by omega)
    · exact (ints_tx (k := 4) (fun g h => by have := hg g h; omega) (by omega)).mono (by omega) (by omega)
theorem house_tx {zs : List Int} (hz : Sizes zs) {m e : Nat} (hm : m ≤ 12) (he : e ≤ 6) {v : P} (h : HouseV zs m e v) : Tx v 500000 10 := by
  obtain ⟨ns, qs, rows, rfl, nl, hn, ⟨q0, q3, hq⟩, rl, hr⟩ := h
  refine (Tx.tup (B := 120000) (D := 9) (n := 4) (fun p hp => ?_) (by simp)).mono (by omega) (by omega)
  have hp' : p = .tup (zs.map .int) ∨ p = .tup ns ∨ p = .tup (qs.map .int) ∨ p = .tup rows := by simpa using hp
  rcases hp' with rfl | rfl | rfl | rfl
  · exact (ints_tx (k := 3) (fun g h => by have := hz.at_ g h; omega) hz.few).mono (by omega) (by omega)
  · exact (Tx.tup (B := 200) (D := 2) (n := 12) (fun p hp => by
      obtain ⟨i, hi, e⟩ := List.getElem_of_mem hp
      exact node_tx hz hm (hn i p (by rw [List.getElem?_eq_getElem hi, e]))) (by omega)).mono (by omega) (by omega)
  · exact (ints_tx (k := 3) (fun g h => by have := hq g h; omega) q3).mono (by omega) (by omega)
  · refine (Tx.tup (B := 19000) (D := 5) (n := 6) (fun p hp => ?_) (by omega)).mono (by omega) (by omega)
    obtain ⟨ss, rfl, sl, hs⟩ := hr p hp
    exact (Tx.tup (B := 50 * 5 ^ 3) (D := 4) (n := 3) (fun p hp => step_tx hz (hs p hp)) sl).mono (by decide) (by omega)
end Ev

namespace Ev.Code
open PySem Ev
def f_asked : Fn where
  params := 3
  slots := 5
  body := (.par [3, 4] (.cons (.idx (.idx (.var 0) (.int 1)) (.idx (.idx (.var 0) (.int 2)) (.var 1))) (.cons (.tup .nil) .nil))
  (.whl (.tcmp .eq (.idx (.var 3) (.int 0)) (.str "look"))
  (.asg (.gnm 4) (.bin .add (.var 4) (.tup (.cons (.idx (.var 3) (.int 1)) .nil)))
  (.asg (.gnm 3) (.idx (.idx (.var 0) (.int 1)) (.idx (.idx (.var 3) (.int 2)) (.idx (.var 2) (.idx (.var 3) (.int 1)))))
  .skip))
  (.ret (.tup (.cons (.var 4) (.cons (.idx (.var 3) (.int 1)) .nil))))))

def f_verdict : Fn where
  params := 3
  slots := 5
  body := (.asg (.gnm 3) (.idx (.call 22 (.cons (.var 0) (.cons (.var 1) (.cons (.idx (.var 2) (.int 0)) .nil)))) (.int 1))
  (.for_ (.gnm 4) (.isq (.slc true false (.var 2) (.int 1) .non))
  (.ifs (.tcmp .ne (.idx (.call 22 (.cons (.var 0) (.cons (.var 1) (.cons (.var 4) .nil)))) (.int 1)) (.var 3))
  (.ret .non)
  .skip
  .skip)
  (.ret (.var 3))))

def f_with_value : Fn where
  params := 3
  slots := 3
  body := (.ret (.bin .add (.bin .add (.slc false true (.var 0) .non (.var 1)) (.tup (.cons (.var 2) .nil))) (.slc true false (.var 0) (.bin .add (.var 1) (.int 1)) .non)))

def f_behind_step : Fn where
  params := 3
  slots := 7
  body := (.asg (.gtup (.gcons (.gnm 3) (.gcons (.gnm 4) (.gcons (.gnm 5) .gnil)))) (.slc false true (.var 1) .non (.int 3))
  (.ifs (.tcmp .eq (.var 3) (.str "when"))
  (.ret (.ife (.tcmp .eq (.idx (.var 2) (.var 4)) (.var 5)) (.call 10 (.cons (.var 0) (.cons (.idx (.var 1) (.int 3)) (.cons (.var 2) .nil)))) (.var 2)))
  .skip
  (.ifs (.tcmp .eq (.var 3) (.str "set"))
  (.ret (.call 11 (.cons (.var 2) (.cons (.var 4) (.cons (.var 5) .nil)))))
  .skip
  (.ifs (.tcmp .eq (.var 3) (.str "add"))
  (.ret (.call 11 (.cons (.var 2) (.cons (.var 4) (.cons (.bin .mod (.bin .add (.idx (.var 2) (.var 4)) (.var 5)) (.idx (.var 0) (.var 4))) .nil)))))
  .skip
  (.asg (.gnm 6) (.call 11 (.cons (.var 2) (.cons (.var 4) (.cons (.idx (.var 2) (.var 5)) .nil))))
  (.ret (.ife (.tcmp .eq (.var 3) (.str "copy")) (.var 6) (.call 11 (.cons (.var 6) (.cons (.var 5) (.cons (.idx (.var 2) (.var 4)) .nil)))))))))))

def f_carried : Fn where
  params := 3
  slots := 4
  body := (.for_ (.gnm 3) (.isq (.idx (.idx (.var 0) (.int 3)) (.var 1)))
  (.asg (.gnm 2) (.call 10 (.cons (.idx (.var 0) (.int 0)) (.cons (.var 3) (.cons (.var 2) .nil))))
  .skip)
  (.ret (.var 2)))

def f_as_set : Fn where
  params := 1
  slots := 2
  body := (.ret (.blt .tuple (.cons (.blt .sorted (.cons (.blt .list (.cons (.dc [1] (.var 1) (.bl true) (.gnm 1) (.isq (.var 0)) .ttrue) .nil)) .nil)) .nil)))

def f_image : Fn where
  params := 3
  slots := 4
  body := (.ret (.call 12 (.cons (.lc [3] (.call 13 (.cons (.var 0) (.cons (.var 1) (.cons (.var 3) .nil)))) (.gnm 3) (.isq (.var 2)) .ttrue) .nil)))

def f_maybe : Fn where
  params := 3
  slots := 3
  body := (.ret (.call 12 (.cons (.bin .add (.var 2) (.call 19 (.cons (.var 0) (.cons (.var 1) (.cons (.var 2) .nil))))) .nil)))

def f_stirred : Fn where
  params := 3
  slots := 6
  body := (.asg (.gnm 3) (.lst .nil)
  (.for_ (.gnm 4) (.isq (.var 2))
  (.exp (.bmt .extend (.var 3) (.cons (.lc [5] (.call 11 (.cons (.var 4) (.cons (.var 1) (.cons (.var 5) .nil)))) (.gnm 5) (.irng (.idx (.idx (.var 0) (.int 0)) (.var 1))) .ttrue) .nil))
  .skip)
  (.ret (.call 12 (.cons (.var 3) .nil)))))

def f_left_behind : Fn where
  params := 3
  slots := 4
  body := (.ifs (.tcmp .eq (.idx (.var 2) (.int 0)) (.str "saw"))
  (.ret (.blt .tuple (.cons (.lc [3] (.var 3) (.gnm 3) (.isq (.var 1)) (.tcmp .eq (.idx (.var 3) (.idx (.var 2) (.int 1))) (.idx (.var 2) (.int 2)))) .nil)))
  .skip
  (.ifs (.tcmp .eq (.idx (.var 2) (.int 0)) (.str "deed"))
  (.ret (.call 19 (.cons (.var 0) (.cons (.idx (.var 2) (.int 1)) (.cons (.var 1) .nil)))))
  .skip
  (.ifs (.tcmp .eq (.idx (.var 2) (.int 0)) (.str "perhaps"))
  (.ret (.call 27 (.cons (.var 0) (.cons (.idx (.var 2) (.int 1)) (.cons (.var 1) .nil)))))
  .skip
  (.ret (.ife (.tcmp .eq (.idx (.var 2) (.int 0)) (.str "stir")) (.call 28 (.cons (.var 0) (.cons (.idx (.var 2) (.int 1)) (.cons (.var 1) .nil)))) (.var 1))))))

def f_go_on : Fn where
  params := 4
  slots := 8
  body := (.asg (.gtup (.gcons (.gnm 4) (.gcons (.gnm 5) .gnil))) (.idx (.var 1) (.var 2))
  (.ifs (.tand (.tcmp .eq (.idx (.var 4) (.int 0)) (.str "ask")) (.tcmp .isN (.call 24 (.cons (.var 0) (.cons (.idx (.var 4) (.int 1)) (.cons (.var 3) .nil)))) .non))
  (.ret .non)
  .skip
  (.asg (.gnm 6) (.call 29 (.cons (.var 0) (.cons (.var 3) (.cons (.var 4) .nil))))
  (.ret (.blt .tuple (.cons (.lc [7] (.tup (.cons (.var 7) (.cons (.var 6) .nil))) (.gnm 7) (.isq (.var 5)) .ttrue) .nil))))))

def w_cells_drawn : Fn where
  params := 1
  slots := 1
  body := (.ret (.call 4 (.cons (.var 0) (.cons (.lst (.cons (.tup (.cons (.int 2) .nil)) (.cons (.tup (.cons (.int 2) (.cons (.int 2) .nil))) (.cons (.tup (.cons (.int 2) (.cons (.int 2) .nil))) (.cons (.tup (.cons (.int 3) .nil)) (.cons (.tup (.cons (.int 2) (.cons (.int 3) .nil))) (.cons (.tup (.cons (.int 3) (.cons (.int 2) .nil))) (.cons (.tup (.cons (.int 2) (.cons (.int 2) (.cons (.int 2) .nil)))) (.cons (.tup (.cons (.int 4) .nil)) (.cons (.tup (.cons (.int 4) (.cons (.int 2) .nil))) (.cons (.tup (.cons (.int 2) (.cons (.int 4) .nil))) .nil))))))))))) .nil))))

def w_some_house : Fn where
  params := 1
  slots := 3
  body := (.par [1, 2] (.cons (.call 14 (.cons (.var 0) .nil)) (.cons (.call 4 (.cons (.var 0) (.cons (.lst (.cons (.int 3) (.cons (.int 4) (.cons (.int 5) (.cons (.int 6) (.cons (.int 7) (.cons (.int 12) .nil))))))) .nil))) .nil))
  (.ret (.call 7 (.cons (.var 0) (.cons (.var 1) (.cons (.var 2) (.cons (.call 4 (.cons (.var 0) (.cons (.lst (.cons (.int 0) (.cons (.int 1) (.cons (.int 2) (.cons (.int 3) (.cons (.int 6) .nil)))))) .nil))) .nil)))))))

def w_contents : Fn where
  params := 1
  slots := 6
  body := (.asg (.gnm 1) (.lst (.cons (.tup .nil) .nil))
  (.for_ (.gnm 2) (.isq (.idx (.var 0) (.int 0)))
  (.asg (.gnm 3) (.lst .nil)
  (.for_ (.gnm 4) (.isq (.var 1))
  (.exp (.bmt .extend (.var 3) (.cons (.lc [5] (.bin .add (.var 4) (.tup (.cons (.var 5) .nil))) (.gnm 5) (.irng (.var 2)) .ttrue) .nil))
  .skip)
  (.asg (.gnm 1) (.var 3)
  .skip)))
  (.ret (.var 1))))

def w_done : Fn where
  params := 3
  slots := 6
  body := (.asg (.gnm 3) (.blt .list (.cons (.var 2) .nil))
  (.for_ (.gnm 4) (.isq (.idx (.idx (.var 0) (.int 3)) (.var 1)))
  (.asg (.gnm 5) (.var 4)
  (.whl (.tand (.tcmp .eq (.idx (.var 5) (.int 0)) (.str "when")) (.tcmp .eq (.idx (.var 3) (.idx (.var 5) (.int 1))) (.idx (.var 5) (.int 2))))
  (.asg (.gnm 5) (.idx (.var 5) (.int 3))
  .skip)
  (.ifs (.tcmp .eq (.idx (.var 5) (.int 0)) (.str "set"))
  (.asg (.gsub (.var 3) (.idx (.var 5) (.int 1))) (.idx (.var 5) (.int 2))
  .skip)
  .skip
  (.ifs (.tcmp .eq (.idx (.var 5) (.int 0)) (.str "copy"))
  (.asg (.gsub (.var 3) (.idx (.var 5) (.int 1))) (.idx (.var 3) (.idx (.var 5) (.int 2)))
  .skip)
  .skip
  (.ifs (.tcmp .eq (.idx (.var 5) (.int 0)) (.str "swap"))
  (.asg (.gtup (.gcons (.gsub (.var 3) (.idx (.var 5) (.int 1))) (.gcons (.gsub (.var 3) (.idx (.var 5) (.int 2))) .gnil))) (.tup (.cons (.idx (.var 3) (.idx (.var 5) (.int 2))) (.cons (.idx (.var 3) (.idx (.var 5) (.int 1))) .nil)))
  .skip)
  .skip
  (.ifs (.tcmp .eq (.idx (.var 5) (.int 0)) (.str "add"))
  (.asg (.gsub (.var 3) (.idx (.var 5) (.int 1))) (.bin .mod (.blt .int (.cons (.bin .add (.idx (.var 3) (.idx (.var 5) (.int 1))) (.idx (.var 5) (.int 2))) .nil)) (.idx (.idx (.var 0) (.int 0)) (.idx (.var 5) (.int 1))))
  .skip)
  .skip
  .skip))))))
  (.ret (.blt .tuple (.cons (.var 3) .nil)))))

def w_answered : Fn where
  params := 3
  slots := 7
  body := (.par [3, 4] (.cons (.idx (.idx (.var 0) (.int 2)) (.var 1)) (.cons (.lst .nil) .nil))
  (.whl (.tcmp .eq (.idx (.idx (.idx (.var 0) (.int 1)) (.var 3)) (.int 0)) (.str "look"))
  (.asg (.gtup (.gcons (.gnm 5) (.gcons (.gnm 6) .gnil))) (.slc true false (.idx (.idx (.var 0) (.int 1)) (.var 3)) (.int 1) .non)
  (.exp (.bmt .append (.var 4) (.cons (.var 5) .nil))
  (.asg (.gnm 3) (.idx (.var 6) (.idx (.var 2) (.var 5)))
  .skip)))
  (.ret (.tup (.cons (.blt .tuple (.cons (.var 4) .nil)) (.cons (.idx (.idx (.idx (.var 0) (.int 1)) (.var 3)) (.int 1)) .nil))))))

def w_sure : Fn where
  params := 3
  slots := 5
  body := (.asg (.gnm 3) (.lc [4] (.idx (.call 23 (.cons (.var 0) (.cons (.var 1) (.cons (.var 4) .nil)))) (.int 1)) (.gnm 4) (.isq (.var 2)) .ttrue)
  (.ret (.ife (.tcmp .eq (.bmt .count (.var 3) (.cons (.idx (.var 3) (.int 0)) .nil)) (.blt .len (.cons (.var 3) .nil))) (.idx (.var 3) (.int 0)) .non)))

def w_set : Fn where
  params := 2
  slots := 5
  body := (.asg (.gnm 2) (.call 15 (.cons (.var 1) .nil))
  (.asg (.gnm 3) (.lc [4] (.var 4) (.gnm 4) (.isq (.var 2)) (.tcmp .eq (.call 2 (.cons (.var 0) (.cons (.int 2) .nil))) (.int 0)))
  (.ret (.blt .tuple (.cons (.ife (.tor (.tcmp .eq (.var 3) (.lst .nil)) (.tcmp .eq (.call 2 (.cons (.var 0) (.cons (.int 4) .nil))) (.int 0))) (.var 2) (.var 3)) .nil)))))

def w_behind : Fn where
  params := 3
  slots := 7
  body := (.ifs (.tcmp .eq (.idx (.var 1) (.int 0)) (.str "deed"))
  (.ret (.blt .tuple (.cons (.sset (.lc [4] (.call 17 (.cons (.var 0) (.cons (.idx (.var 1) (.int 1)) (.cons (.var 4) .nil)))) (.gnm 4) (.isq (.var 2)) .ttrue)) .nil)))
  .skip
  (.ifs (.tcmp .eq (.idx (.var 1) (.int 0)) (.str "perhaps"))
  (.ret (.blt .tuple (.cons (.sset (.bin .add (.blt .list (.cons (.var 2) .nil)) (.lc [4] (.call 17 (.cons (.var 0) (.cons (.idx (.var 1) (.int 1)) (.cons (.var 4) .nil)))) (.gnm 4) (.isq (.var 2)) .ttrue))) .nil)))
  .skip
  (.ifs (.tcmp .eq (.idx (.var 1) (.int 0)) (.str "stir"))
  (.asg (.gnm 3) (.lst .nil)
  (.for_ (.gnm 4) (.isq (.var 2))
  (.asg (.gnm 5) (.lc [6] (.bin .add (.bin .add (.slc false true (.var 4) .non (.idx (.var 1) (.int 1))) (.tup (.cons (.var 6) .nil))) (.slc true false (.var 4) (.bin .add (.idx (.var 1) (.int 1)) (.int 1)) .non)) (.gnm 6) (.irng (.idx (.idx (.var 0) (.int 0)) (.idx (.var 1) (.int 1)))) .ttrue)
  (.exp (.bmt .extend (.var 3) (.cons (.var 5) .nil))
  .skip))
  (.ret (.blt .tuple (.cons (.sset (.var 3)) .nil)))))
  .skip
  (.ret (.var 2)))))

def w_nexts : Fn where
  params := 4
  slots := 7
  body := (.asg (.gtup (.gcons (.gnm 4) (.gcons (.gnm 5) .gnil))) (.idx (.var 1) (.var 2))
  (.ifs (.tand (.tcmp .eq (.idx (.var 4) (.int 0)) (.str "ask")) (.tcmp .isN (.call 25 (.cons (.var 0) (.cons (.idx (.var 4) (.int 1)) (.cons (.var 3) .nil)))) .non))
  (.ret .non)
  .skip
  (.ret (.lc [6] (.tup (.cons (.var 6) (.cons (.call 30 (.cons (.var 0) (.cons (.var 4) (.cons (.var 3) .nil)))) .nil))) (.gnm 6) (.isq (.var 5)) .ttrue))))

def f_seen_parts : Fn where
  params := 3
  slots := 7
  body := (.asg (.gnm 3) (.lst .nil)
  (.for_ (.gnm 4) (.irng (.idx (.idx (.var 0) (.int 0)) (.var 2)))
  (.asg (.gnm 5) (.blt .tuple (.cons (.lc [6] (.var 6) (.gnm 6) (.isq (.var 1)) (.tcmp .eq (.idx (.var 6) (.var 2)) (.var 4))) .nil))
  (.ifs (.tcmp .ne (.var 5) (.tup .nil))
  (.exp (.bmt .append (.var 3) (.cons (.tup (.cons (.var 4) (.cons (.var 5) .nil))) .nil))
  .skip)
  .skip
  .skip))
  (.ret (.blt .tuple (.cons (.var 3) .nil)))))

def w_parted : Fn where
  params := 3
  slots := 7
  body := (.asg (.gnm 3) (.lst .nil)
  (.for_ (.gnm 4) (.irng (.idx (.idx (.var 0) (.int 0)) (.var 2)))
  (.asg (.gnm 5) (.blt .tuple (.cons (.lc [6] (.var 6) (.gnm 6) (.isq (.var 1)) (.tcmp .eq (.idx (.var 6) (.var 2)) (.var 4))) .nil))
  (.exp (.bmt .extend (.var 3) (.cons (.ife (.tcmp .ne (.var 5) (.tup .nil)) (.lst (.cons (.tup (.cons (.var 4) (.cons (.var 5) .nil))) .nil)) (.lst .nil)) .nil))
  .skip))
  (.ret (.var 3))))

def f_known_after : Fn where
  params := 3
  slots := 4
  body := (.for_ (.gnm 3) (.isq (.var 2))
  (.asg (.gnm 1) (.call 29 (.cons (.var 0) (.cons (.var 1) (.cons (.var 3) .nil))))
  .skip)
  (.ret (.var 1)))

def w_left : Fn where
  params := 3
  slots := 5
  body := (.for_ (.gnm 3) (.isq (.var 2))
  (.ifs (.tcmp .eq (.idx (.var 3) (.int 0)) (.str "saw"))
  (.asg (.gnm 1) (.blt .tuple (.cons (.lc [4] (.var 4) (.gnm 4) (.isq (.var 1)) (.tcmp .eq (.idx (.var 4) (.idx (.var 3) (.int 1))) (.idx (.var 3) (.int 2)))) .nil))
  .skip)
  (.ifs (.tcmp .ne (.var 1) (.tup .nil))
  (.asg (.gnm 1) (.call 30 (.cons (.var 0) (.cons (.var 3) (.cons (.var 1) .nil))))
  .skip)
  .skip
  .skip)
  .skip)
  (.ret (.var 1)))

def w_events : Fn where
  params := 3
  slots := 7
  body := (.asg (.gnm 3) (.lst .nil)
  (.for_ (.gnm 4) (.irng (.call 2 (.cons (.var 0) (.cons (.bin .add (.var 2) (.int 1)) .nil))))
  (.par [5, 6] (.cons (.call 2 (.cons (.var 0) (.cons (.blt .len (.cons (.idx (.var 1) (.int 0)) .nil)) .nil))) (.cons (.call 2 (.cons (.var 0) (.cons (.int 6) .nil))) .nil))
  (.ifs (.tand (.tcmp .ne (.idx (.var 1) (.int 3)) (.tup .nil)) (.tcmp .lt (.var 6) (.int 3)))
  (.exp (.bmt .append (.var 3) (.cons (.tup (.cons (.idx (.lst (.cons (.str "deed") (.cons (.str "deed") (.cons (.str "perhaps") .nil)))) (.var 6)) (.cons (.call 2 (.cons (.var 0) (.cons (.blt .len (.cons (.idx (.var 1) (.int 3)) .nil)) .nil))) .nil))) .nil))
  .skip)
  (.ifs (.tcmp .lt (.var 6) (.int 5))
  (.exp (.bmt .append (.var 3) (.cons (.tup (.cons (.str "saw") (.cons (.var 5) (.cons (.call 2 (.cons (.var 0) (.cons (.idx (.idx (.var 1) (.int 0)) (.var 5)) .nil))) .nil)))) .nil))
  .skip)
  (.exp (.bmt .append (.var 3) (.cons (.tup (.cons (.str "stir") (.cons (.var 5) .nil))) .nil))
  .skip)
  .skip)
  .skip))
  (.ret (.blt .tuple (.cons (.var 3) .nil)))))

end Ev.Code

namespace Ev
open PySem Ev.Code
local macro_rules | `(tactic| array_mem_dec) => `(tactic| repeat (first | with_reducible refine r_asg ?_ | with_reducible refine r_bin ?_ | with_reducible refine r_int ?_ | with_reducible refine r_str ?_ | with_reducible refine r_non ?_ | with_reducible refine r_bl ?_ | with_reducible refine r_blt ?_ | with_reducible refine r_call ?_ | with_reducible refine r_cons ?_ | with_reducible refine r_nil ?_ | with_reducible refine v_int ?_ | with_reducible refine v_add ?_ | with_reducible refine v_sub ?_ | with_reducible refine r_gnm ?_ | with_reducible refine r_tcmp ?_ | with_reducible refine r_idx ?_ | with_reducible refine r_gsub ?_ | with_reducible refine r_exp ?_ | with_reducible refine r_ret ?_ | with_reducible refine r_tup ?_ | with_reducible refine v_lenT ?_ | ((with_reducible apply r_var); exact rfl) | with_reducible refine v_mul (by omega) ?_ | with_reducible refine v_mod (by decide) ?_))
section
variable {C : Cfg} {s : Slots} {h : Hea}
theorem r_whl {Φ : Flow × Slots → Hea → Prop} {c : T .t} {b k : T .s} (q : Ret (whileL (fun s h => ev C c () s h) (fun s h => ev C b () s h) C.W s h) fun r h => (r.1 = .nx ∧ Ret (ev C k () r.2 h) Φ) ∨ (r.1 ≠ .nx ∧ Φ r h)) : Ret (ev C (.whl c b k) () s h) Φ := by
  unfold ev
  refine Ret.seq q fun r h q => ?_
  obtain ⟨fl, s'⟩ := r
  rcases q with ⟨e, q⟩ | ⟨e, q⟩
  · simp only at e; subst e; exact q
  · cases fl with
    | nx => exact absurd rfl e
    | _ => exact .ok q
theorem eq_str {a b : Str} {h : Hea} : cmpV .eq (.str a) (.str b) h = some (decide (a = b)) := rfl
theorem ne_str {a b : Str} {h : Hea} : cmpV .ne (.str a) (.str b) h = some (!decide (a = b)) := by
  show (cmpV .eq (.str a) (.str b) h).map _ = _
  rw [eq_str]; rfl
theorem pen_spec {G : Prog} (hG : HasPen G) {W d : Nat} {ns : List Int} (hl : ns.length ≤ 63) (hb : ∀ z ∈ ns, Builtin.Int.intBits z ≤ 1048576) : Ret (callN G W (d + 1) 6 [.kls (ns.map .int)] []) fun v h => v = .ref 2 ∧ Pen h 0 := by
  rw [call_fn hG.f6]
  refine run_ret rfl ?_
  unfold w_pen
  refine r_ret (r_lst (r_cons (r_blt (r_cons (r_slcH (r_var rfl (r_int ⟨_, rfl, ?_⟩)))))))
  refine ⟨_, _, rfl, r_nil ?_⟩
  refine ⟨_, _, rfl, ?_⟩
  array_mem_dec
  have e : cut (ns.map P.int) none (some 63) = ns.map P.int := by
    unfold cut
    have : HT.sIx (ns.map P.int).length (ns.map P.int).length (some 63) = (ns.map P.int).length := by
      unfold HT.sIx
      simp
      omega
    rw [this]
    have : HT.sIx (ns.map P.int).length 0 none = 0 := rfl
    rw [this]
    simp only [List.drop_zero, Nat.sub_zero]
    exact List.take_length
  exact ⟨by simp [SZ], _, rfl, rfl, ns, 0, 0, by simp [e], by simp, hb, hl, by simp, by simp⟩
end
def t0 : P → Bool
  | .int i => decide (0 ≤ i) && decide (i < 64)
  | _ => false
def tt (f : P → Bool) : P → Bool
  | .tup xs => decide (xs.length ≤ 64) && xs.all f
  | _ => false
end Ev

namespace Ev
open PySem Ev.Code
local macro_rules | `(tactic| array_mem_dec) => `(tactic| repeat (first | with_reducible refine r_asg ?_ | with_reducible refine r_bin ?_ | with_reducible refine r_int ?_ | with_reducible refine r_str ?_ | with_reducible refine r_non ?_ | with_reducible refine r_bl ?_ | with_reducible refine r_blt ?_ | with_reducible refine r_call ?_ | with_reducible refine r_cons ?_ | with_reducible refine r_nil ?_ | with_reducible refine v_int ?_ | with_reducible refine v_add ?_ | with_reducible refine v_sub ?_ | with_reducible refine r_gnm ?_ | with_reducible refine r_tcmp ?_ | with_reducible refine r_idx ?_ | with_reducible refine r_gsub ?_ | with_reducible refine r_exp ?_ | with_reducible refine r_ret ?_ | with_reducible refine r_tup ?_ | with_reducible refine v_lenT ?_ | ((with_reducible apply r_var); exact rfl) | with_reducible refine v_mul (by omega) ?_ | with_reducible refine v_mod (by decide) ?_))
section
variable {C : Cfg} {s : Slots} {h : Hea}
theorem r_walkT {Φ : Wk → Hea → Prop} {xs : List P} (q : Φ ⟨xs, []⟩ h) : Ret (walkSeq (.tup xs) h) Φ := .ok q
theorem r_walkL {Φ : Wk → Hea → Prop} {l : Nat} {xs : List P} (e : h[l]? = some (.lst xs)) (q : Φ ⟨xs, [(l, .lst xs)]⟩ h) : Ret (walkSeq (.ref l) h) Φ := by
  unfold walkSeq
  simp only [e]
  exact .ok q
section
variable {Φ : P → Hea → Prop}
theorem r_slcL {a lo : T .e} (q : Ret (ev C a () s h) fun x h => Ret (ev C lo () s h) fun p h => ∃ i, p = .int i ∧ Ret (slcV x (some i) none h) Φ) : Ret (ev C (.slc true false a lo .non) () s h) Φ := by
  unfold ev
  refine Ret.seq q fun x h q => Ret.seq q fun p h ⟨i, e, q⟩ => Ret.seq (Φ := fun u h' => u = some i ∧ h' = h) (Ret.of (by rw [e]; rfl) ⟨rfl, rfl⟩) fun u h' ⟨e1, e2⟩ => ?_
  subst e1 e2
  have e0 : ev C .non () s h' = .ok P.non h' := by unfold ev; rfl
  rw [e0]
  exact q
theorem v_cat {a b : List P} (hl : a.length + b.length ≤ SZ) (q : Φ (.tup (a ++ b)) h) : Ret (binV .add (.tup a) (.tup b) h) Φ := by
  show Ret (if _ then _ else _) Φ
  rw [if_pos (by rw [List.length_append]; exact hl)]; exact .ok q
theorem v_slcT {xs : List P} {l u : Option Int} (q : Φ (.tup (cut xs l u)) h) : Ret (slcV (.tup xs) l u h) Φ := ⟨_, _, rfl, q⟩
theorem v_listT {xs : List P} (q : Φ (.ref h.length) (h ++ [.lst xs])) : Ret (bltV .list [.tup xs] h) Φ := ⟨_, _, rfl, q⟩
end
theorem r_no {Φ : Flow × Slots → Hea → Prop} {i : Nat} {x y : Str} {a k : T .s} (e : s[i]? = some (some (.str y))) (hne : decide (y = x) = false) (q : Ret (ev C k () s h) Φ) : Ret (ev C (.ifs (.tcmp .eq (.var i) (.str x)) a .skip k) () s h) Φ := by
  refine r_ifs (r_tcmp (r_var e (r_str ⟨_, eq_str, fun z => ?_, fun _ => r_skip (.inl ⟨rfl, q⟩)⟩)))
  rw [hne] at z; cases z
theorem r_yes {Φ : Flow × Slots → Hea → Prop} {i : Nat} {x : Str} {a k : T .s} (e : s[i]? = some (some (.str x))) (q : Ret (ev C a () s h) fun r h => (r.1 = .nx ∧ Ret (ev C k () r.2 h) Φ) ∨ (r.1 ≠ .nx ∧ Φ r h)) : Ret (ev C (.ifs (.tcmp .eq (.var i) (.str x)) a .skip k) () s h) Φ := by
  refine r_ifs (r_tcmp (r_var e (r_str ⟨_, eq_str, fun _ => q, fun z => ?_⟩)))
  simp at z
theorem cutH {xs : List P} {c : Nat} : cut xs none (some (c : Int)) = xs.take c := by
  unfold cut
  rw [HT.sIx_nat]
  show (xs.drop 0).take (min c xs.length - 0) = _
  rw [List.drop_zero, Nat.sub_zero]
  by_cases h : c ≤ xs.length
  · rw [Nat.min_eq_left h]
  · rw [Nat.min_eq_right (by omega), List.take_of_length_le (by omega), List.take_of_length_le (by omega)]
theorem cutL {xs : List P} {c : Nat} : cut xs (some (c : Int)) none = xs.drop c := by
  unfold cut
  rw [HT.sIx_nat]
  show (xs.drop (min c xs.length)).take (xs.length - min c xs.length) = _
  rw [List.take_of_length_le (by rw [List.length_drop]; omega)]
  by_cases h : c ≤ xs.length
  · rw [Nat.min_eq_left h]
  · rw [Nat.min_eq_right (by omega), List.drop_of_length_le (by omega), List.drop_of_length_le (by omega)]
end
theorem cat_set {l : List Int} {c : Nat} {v : Int} (hc : c < l.length) : (((l.map P.int).take c ++ [P.int v]) ++ (l.map P.int).drop (c + 1)) = (l.set c v).map P.int := by
  rw [List.map_set, List.set_eq_take_append_cons_drop, if_pos (by simpa using hc)]
  simp
theorem atR {l : List Int} {c : Nat} {v : Int} (h : l[c]? = some v) : L2.atI (l.map P.int) (c : Int) = some (.int v) := atI_nat (by rw [List.getElem?_map, h]; rfl)

theorem Ret.imp' {G : Prog} {W d d' g : Nat} {as : List P} {h : Hea} {Φ Ψ : P → Hea → Prop} (q : Ret (callN G W d g as h) Φ) (e : d = d') (k : ∀ a h, Φ a h → Ψ a h) : Ret (callN G W d' g as h) Ψ := by
  subst e; exact q.imp k

inductive Stp where
  | set (c : Nat) (v : Int)
  | add (c : Nat) (v : Int)
  | copy (c d : Nat)
  | swap (c d : Nat)
  | whn (c : Nat) (v : Int) (s : Stp)
def Stp.enc : Stp → P
  | .set c v => .tup [.str "set", .int c, .int v]
  | .add c v => .tup [.str "add", .int c, .int v]
  | .copy c d => .tup [.str "copy", .int c, .int d]
  | .swap c d => .tup [.str "swap", .int c, .int d]
  | .whn c v s => .tup [.str "when", .int c, .int v, s.enc]
def Stp.ok (zs : List Int) : Nat → Stp → Prop
  | _, .set c v => ∃ z, zs[c]? = some z ∧ 0 ≤ v ∧ v < z
  | _, .add c v => ∃ z, zs[c]? = some z ∧ 1 ≤ v ∧ v < z
  | _, .copy c d => ∃ z, zs[c]? = some z ∧ zs[d]? = some z ∧ d ≠ c
  | _, .swap c d => ∃ z, zs[c]? = some z ∧ zs[d]? = some z ∧ d ≠ c
  | 0, .whn _ _ _ => False
  | w + 1, .whn c v s => (∃ z, zs[c]? = some z ∧ 0 ≤ v ∧ v < z) ∧ s.ok zs w
theorem StepV.stp {zs : List Int} {w : Nat} {p : P} (h : StepV zs w p) : ∃ s : Stp, p = s.enc ∧ s.ok zs w := by
  induction h with
  | whn h1 h2 h3 _ ih =>
    obtain ⟨s, rfl, hs⟩ := ih
    exact ⟨.whn _ _ s, rfl, ⟨_, h1, h2, h3⟩, hs⟩
  | @cps w c a z x hx h1 h2 h3 =>
    rcases hx with rfl | rfl
    · exact ⟨.copy c a, rfl, by cases w <;> exact ⟨z, h1, h2, h3⟩⟩
    · exact ⟨.swap c a, rfl, by cases w <;> exact ⟨z, h1, h2, h3⟩⟩
  | @set w c z v h1 h2 h3 => exact ⟨.set c v, rfl, by cases w <;> exact ⟨z, h1, h2, h3⟩⟩
  | @add w c z v h1 h2 h3 => exact ⟨.add c v, rfl, by cases w <;> exact ⟨z, h1, h2, h3⟩⟩
def doStep (zs : List Int) : Stp → List Int → List Int
  | .set c v, l => l.set c v
  | .add c v, l => l.set c ((l.getD c 0 + v) % zs.getD c 0)
  | .copy c d, l => l.set c (l.getD d 0)
  | .swap c d, l => (l.set c (l.getD d 0)).set d (l.getD c 0)
  | .whn c v s, l => if l.getD c 0 = v then doStep zs s l else l
def doDeed (zs : List Int) (ss : List Stp) (l : List Int) : List Int := ss.foldl (fun l s => doStep zs s l) l
structure Ct (zs l : List Int) : Prop where
  len : l.length = zs.length
  at_ : ∀ (i : Nat) (z v : Int), zs[i]? = some z → l[i]? = some v → 0 ≤ v ∧ v < z
theorem Ct.get {zs l : List Int} (h : Ct zs l) {c : Nat} {z : Int} (hz : zs[c]? = some z) : c < l.length ∧ l[c]? = some (l.getD c 0) ∧ 0 ≤ l.getD c 0 ∧ l.getD c 0 < z := by
  have hc : c < zs.length := (List.getElem?_eq_some_iff.mp hz).1
  have hl : c < l.length := by rw [h.len]; exact hc
  have e : l[c]? = some (l.getD c 0) := by rw [List.getD_eq_getElem?_getD, List.getElem?_eq_getElem hl]; rfl
  exact ⟨hl, e, h.at_ c z _ hz e⟩
theorem Ct.set {zs l : List Int} (h : Ct zs l) {c : Nat} {z v : Int} (hz : zs[c]? = some z) (h0 : 0 ≤ v) (h1 : v < z) : Ct zs (l.set c v) := by
  refine ⟨by rw [List.length_set, h.len], fun i y u hy hu => ?_⟩
  by_cases e : i = c
  · subst e
    rw [hz] at hy; cases hy
    have hl : i < l.length := by
      have := (List.getElem?_eq_some_iff.mp hu).1
      simpa using this
    rw [List.getElem?_set_self hl] at hu
    cases hu; exact ⟨h0, h1⟩
  · rw [List.getElem?_set_ne (Ne.symm e)] at hu
    exact h.at_ i y u hy hu
theorem Ct.step {zs l : List Int} (hz : Sizes zs) (h : Ct zs l) : ∀ {w : Nat} {s : Stp}, s.ok zs w → Ct zs (doStep zs s l)
  | w, .set c v, o => by
    have o : ∃ z, zs[c]? = some z ∧ 0 ≤ v ∧ v < z := by cases w <;> exact o
    obtain ⟨z, h1, h2, h3⟩ := o
    exact h.set h1 h2 h3
  | w, .add c v, o => by
    have o : ∃ z, zs[c]? = some z ∧ 1 ≤ v ∧ v < z := by cases w <;> exact o
    obtain ⟨z, h1, h2, h3⟩ := o
    have e : zs.getD c 0 = z := by rw [List.getD_eq_getElem?_getD, h1]; rfl
    show Ct zs (l.set c ((l.getD c 0 + v) % zs.getD c 0))
    rw [e]
    exact h.set h1 (Int.emod_nonneg _ (by omega)) (Int.emod_lt_of_pos _ (by omega))
  | w, .copy c d, o => by
    have o : ∃ z, zs[c]? = some z ∧ zs[d]? = some z ∧ d ≠ c := by cases w <;> exact o
    obtain ⟨z, h1, h2, h3⟩ := o
    obtain ⟨_, _, k1, k2⟩ := h.get h2
    exact h.set h1 k1 k2
  | w, .swap c d, o => by
    have o : ∃ z, zs[c]? = some z ∧ zs[d]? = some z ∧ d ≠ c := by cases w <;> exact o
    obtain ⟨z, h1, h2, h3⟩ := o
    obtain ⟨_, _, k1, k2⟩ := h.get h2
    obtain ⟨_, _, k3, k4⟩ := h.get h1
    exact (h.set h1 k1 k2).set h2 k3 k4
  | 0, .whn c v s, o => o.elim
  | w + 1, .whn c v s, o => by
    show Ct zs (if l.getD c 0 = v then doStep zs s l else l)
    split
    · exact h.step hz o.2
    · exact h
theorem Ct.deed {zs : List Int} (hz : Sizes zs) {w : Nat} : ∀ {ss : List Stp} {l : List Int}, Ct zs l → (∀ s ∈ ss, s.ok zs w) → Ct zs (doDeed zs ss l)
  | [], _, h, _ => h
  | s :: ss, l, h, hs => Ct.deed (ss := ss) (l := doStep zs s l) hz (h.step hz (hs s List.mem_cons_self)) fun t ht => hs t (List.mem_cons_of_mem _ ht)
structure HasDeeds (G : Prog) : Prop where
  f11 : G.fn 11 = some f_with_value
  f10 : G.fn 10 = some f_behind_step
  f13 : G.fn 13 = some f_carried
theorem with_value_spec {G : Prog} (hG : HasDeeds G) {W d : Nat} {l : List Int} {c : Nat} {v : Int} {h : Hea} (hc : c < l.length) (hl : l.length ≤ 3) :
    Ret (callN G W (d + 1) 11 [encR l, .int c, .int v] h) fun p h' => p = encR (l.set c v) ∧ h' = h := by
  rw [call_fn hG.f11]
  refine run_ret rfl ?_
  unfold f_with_value
  array_mem_dec
  refine r_slcH (r_var rfl (r_var rfl ⟨_, rfl, v_slcT ?_⟩))
  array_mem_dec
  refine ⟨by simp [SZ], v_cat (by rw [cutH]; simp [SZ]; omega) ?_⟩
  refine r_slcL (r_var rfl ?_)
  array_mem_dec
  refine ⟨_, rfl, v_slcT (v_cat ?_ ⟨_, rfl, ?_, rfl⟩)⟩
  · rw [cutH, show (c : Int) + 1 = ((c + 1 : Nat) : Int) by omega, cutL]; simp [SZ]; omega
  · rw [cutH, show (c : Int) + 1 = ((c + 1 : Nat) : Int) by omega, cutL, cat_set hc]
set_option maxHeartbeats 4000000 in
theorem behind_step_spec {G : Prog} (hG : HasDeeds G) {W : Nat} {zs l : List Int} (hz : Sizes zs) (hl : Ct zs l) {h : Hea} : ∀ (w d : Nat) (s : Stp), s.ok zs w →
    Ret (callN G W (d + w + 2) 10 [.tup (zs.map .int), s.enc, encR l] h) fun p h' => p = encR (doStep zs s l) ∧ h' = h := by
  have hl3 : l.length ≤ 3 := by rw [hl.len]; exact hz.few
  intro w
  induction w using Nat.strongRecOn with
  | ind w ih =>
    intro d s ok
    rw [call_fn hG.f10]
    refine run_ret rfl ?_
    unfold f_behind_step
    have start : ∀ (a b c : P) (r : List P) (Φ : Flow × Slots → Hea → Prop) (k : T .s), Ret (ev (k := .s) ⟨callN G W (d + w + 1), G.con, W⟩ k () [some (.tup (zs.map .int)), some (.tup (a :: b :: c :: r)), some (encR l), some a, some b, some c, none] h) Φ →
        Ret (ev (k := .s) ⟨callN G W (d + w + 1), G.con, W⟩ (.asg (.gtup (.gcons (.gnm 3) (.gcons (.gnm 4) (.gcons (.gnm 5) .gnil)))) (.slc false true (.var 1) .non (.int 3)) k) () [some (.tup (zs.map .int)), some (.tup (a :: b :: c :: r)), some (encR l), none, none, none, none] h) Φ := by
      intro a b c r Φ k q
      refine r_asg (r_slcH (r_var rfl (r_int ⟨3, rfl, v_slcT ?_⟩)))
      rw [show (3 : Int) = ((3 : Nat) : Int) from rfl, cutH]
      exact r_gtup rfl (r_gcons (r_gnm (r_gcons (r_gnm (r_gcons (r_gnm (r_gnil q)))))))
    cases s with
    | whn c v s =>
      cases w with
      | zero => exact ok.elim
      | succ w =>
        obtain ⟨⟨z, hzc, v0, v1⟩, ok⟩ := ok
        obtain ⟨hc, hat, _, _⟩ := hl.get hzc
        refine start _ _ _ _ _ _ ?_
        refine r_yes rfl ?_
        refine r_ret (r_ife (r_tcmp (r_idx (r_var rfl (r_var rfl ⟨_, atR hat, r_var rfl ⟨_, eq_int, fun q => ?_, fun q => ?_⟩⟩)))))
        · refine r_call (r_cons (r_var rfl (r_cons (r_idx (r_var rfl (r_int ⟨s.enc, rfl, ?_⟩))))))
          refine r_cons (r_var rfl (r_nil ?_))
          refine (ih w (by omega) d s ok).imp' (by omega) fun p h' ⟨e1, e2⟩ => ?_
          refine .inr ⟨by simp, _, rfl, ?_, e2⟩
          rw [e1]
          simp only [doStep, if_pos (of_decide_eq_true q)]
        · refine r_var rfl (.inr ⟨by simp, _, rfl, ?_, rfl⟩)
          simp only [doStep, if_neg (of_decide_eq_false q)]
    | set c v =>
      have o : ∃ z, zs[c]? = some z ∧ 0 ≤ v ∧ v < z := by cases w <;> exact ok
      obtain ⟨z, hzc, v0, v1⟩ := o
      obtain ⟨hc, hat, _, _⟩ := hl.get hzc
      refine start _ _ _ _ _ _ ?_
      refine r_no rfl (by decide +kernel) ?_
      refine r_yes rfl ?_
      refine r_ret (r_call (r_cons (r_var rfl (r_cons (r_var rfl (r_cons (r_var rfl (r_nil ?_))))))))
      exact (with_value_spec hG (d := d + w) hc hl3).imp fun p h' ⟨e1, e2⟩ => .inr ⟨by simp, _, rfl, e1, e2⟩
    | add c v =>
      have o : ∃ z, zs[c]? = some z ∧ 1 ≤ v ∧ v < z := by cases w <;> exact ok
      obtain ⟨z, hzc, v0, v1⟩ := o
      obtain ⟨hc, hat, _, _⟩ := hl.get hzc
      have ez : zs.getD c 0 = z := by rw [List.getD_eq_getElem?_getD, hzc]; rfl
      refine start _ _ _ _ _ _ ?_
      refine r_no rfl (by decide +kernel) ?_
      refine r_no rfl (by decide +kernel) ?_
      refine r_yes rfl ?_
      array_mem_dec
      refine ⟨_, atR hat, ?_⟩
      array_mem_dec
      refine ⟨_, atR hzc, v_mod (by omega) ?_⟩
      array_mem_dec
      refine (with_value_spec hG (d := d + w) hc hl3).imp fun p h' ⟨e1, e2⟩ => .inr ⟨by simp, _, rfl, ?_, e2⟩
      rw [e1]
      simp only [doStep, ez]
    | copy c a =>
      have o : ∃ z, zs[c]? = some z ∧ zs[a]? = some z ∧ a ≠ c := by cases w <;> exact ok
      obtain ⟨z, hzc, hza, hne⟩ := o
      obtain ⟨hc, hat, _, _⟩ := hl.get hzc
      obtain ⟨ha, haat, _, _⟩ := hl.get hza
      refine start _ _ _ _ _ _ ?_
      refine r_no rfl (by decide +kernel) ?_
      refine r_no rfl (by decide +kernel) ?_
      refine r_no rfl (by decide +kernel) ?_
      array_mem_dec
      refine ⟨_, atR haat, ?_⟩
      array_mem_dec
      refine (with_value_spec hG (d := d + w) hc hl3).imp fun p h' ⟨e1, e2⟩ => ?_
      subst e1 e2
      refine r_gnm (r_ret (r_ife (r_tcmp (r_var rfl (r_str ⟨_, eq_str, fun _ => r_var rfl ⟨_, rfl, rfl, rfl⟩, fun q => by simp at q⟩)))))
    | swap c a =>
      have o : ∃ z, zs[c]? = some z ∧ zs[a]? = some z ∧ a ≠ c := by cases w <;> exact ok
      obtain ⟨z, hzc, hza, hne⟩ := o
      obtain ⟨hc, hat, _, _⟩ := hl.get hzc
      obtain ⟨ha, haat, _, _⟩ := hl.get hza
      refine start _ _ _ _ _ _ ?_
      refine r_no rfl (by decide +kernel) ?_
      refine r_no rfl (by decide +kernel) ?_
      refine r_no rfl (by decide +kernel) ?_
      array_mem_dec
      refine ⟨_, atR haat, ?_⟩
      array_mem_dec
      refine (with_value_spec hG (d := d + w) hc hl3).imp fun p h' ⟨e1, e2⟩ => ?_
      subst e1 e2
      refine r_gnm (r_ret (r_ife (r_tcmp (r_var rfl (r_str ⟨_, eq_str, fun q => absurd q (by decide +kernel), fun _ => ?_⟩)))))
      array_mem_dec
      refine ⟨_, atR hat, ?_⟩
      array_mem_dec
      exact (with_value_spec hG (d := d + w) (by simpa using ha) (by simpa using hl3)).imp fun p h' ⟨e1, e2⟩ => ⟨_, rfl, e1, e2⟩
end Ev

namespace Ev
open PySem Ev.Code
local macro_rules | `(tactic| array_mem_dec) => `(tactic| repeat (first | with_reducible refine r_asg ?_ | with_reducible refine r_bin ?_ | with_reducible refine r_int ?_ | with_reducible refine r_str ?_ | with_reducible refine r_non ?_ | with_reducible refine r_bl ?_ | with_reducible refine r_blt ?_ | with_reducible refine r_call ?_ | with_reducible refine r_cons ?_ | with_reducible refine r_nil ?_ | with_reducible refine v_int ?_ | with_reducible refine v_add ?_ | with_reducible refine v_sub ?_ | with_reducible refine r_gnm ?_ | with_reducible refine r_tcmp ?_ | with_reducible refine r_idx ?_ | with_reducible refine r_gsub ?_ | with_reducible refine r_exp ?_ | with_reducible refine r_ret ?_ | with_reducible refine r_tup ?_ | with_reducible refine v_lenT ?_ | ((with_reducible apply r_var); exact rfl) | with_reducible refine v_mul (by omega) ?_ | with_reducible refine v_mod (by decide) ?_))
inductive Nod where
  | ans (a : Int)
  | look (c : Nat) (gs : List Int)
def Nod.enc : Nod → P
  | .ans a => .tup [.str "answer", .int a]
  | .look c gs => .tup [.str "look", .int c, encR gs]
def Nod.ok (zs : List Int) (m i : Nat) : Nod → Prop
  | .ans a => 0 ≤ a ∧ a < 10
  | .look c gs => ∃ z, zs[c]? = some z ∧ (∀ g ∈ gs, (i : Int) < g ∧ g < m) ∧ gs.length = z.toNat
structure Hs where
  zs : List Int
  nodes : List Nod
  qs : List Int
  rows : List (List Stp)
abbrev encD (ss : List Stp) : P := .tup (ss.map Stp.enc)
def Hs.enc (H : Hs) : P := .tup [encR H.zs, .tup (H.nodes.map Nod.enc), encR H.qs, .tup (H.rows.map encD)]
structure Hs.Ok (H : Hs) : Prop where
  sizes : Sizes H.zs
  one : 1 ≤ H.nodes.length
  few : H.nodes.length ≤ 12
  nodes : ∀ (i : Nat) n, H.nodes[i]? = some n → n.ok H.zs H.nodes.length i
  q0 : 0 < H.qs.length
  q3 : H.qs.length ≤ 3
  qs : ∀ q ∈ H.qs, 0 ≤ q ∧ q < H.nodes.length
  rows6 : H.rows.length ≤ 6
  rows : ∀ ss ∈ H.rows, ss.length ≤ 3 ∧ ∀ s ∈ ss, s.ok H.zs 3
theorem list_enc {α : Type} {f : α → P} {Q : Nat → α → Prop} : ∀ {ps : List P} {k : Nat}, (∀ (i : Nat) p, ps[i]? = some p → ∃ a, p = f a ∧ Q (k + i) a) → ∃ as : List α, ps = as.map f ∧ ∀ (i : Nat) a, as[i]? = some a → Q (k + i) a
  | [], k, _ => ⟨[], rfl, fun i a e => by simp at e⟩
  | p :: ps, k, h => by
    obtain ⟨a, e, q⟩ := h 0 p rfl
    obtain ⟨as, e2, h2⟩ := list_enc (ps := ps) (k := k + 1) fun i p hp => by
      obtain ⟨a, e, q⟩ := h (i + 1) p (by simpa using hp)
      exact ⟨a, e, by rwa [show k + (i + 1) = k + 1 + i by omega] at q⟩
    refine ⟨a :: as, by rw [e, e2]; rfl, fun i b hb => ?_⟩
    cases i with
    | zero => simp at hb; subst hb; exact q
    | succ i => rw [show k + (i + 1) = k + 1 + i by omega]; exact h2 i b (by simpa using hb)
set_option maxHeartbeats 1000000 in
theorem HouseV.hs {zs : List Int} (hz : Sizes zs) {m e : Nat} (hm0 : 1 ≤ m) (hm : m ≤ 12) (he : e ≤ 6) {v : P} (h : HouseV zs m e v) : ∃ H : Hs, v = H.enc ∧ H.Ok ∧ H.zs = zs ∧ H.nodes.length = m ∧ H.rows.length = e := by
  obtain ⟨ns, qs, rows, rfl, nl, hn, ⟨q0, q3, hq⟩, rl, hr⟩ := h
  obtain ⟨nodes, rfl, hno⟩ := list_enc (f := Nod.enc) (Q := fun i n => n.ok zs m i) (ps := ns) (k := 0) fun i p hp => by
    have := hn i p hp
    rw [Nat.zero_add]
    cases this with
    | @ans v hv => exact ⟨.ans v, rfl, by simp only [Nod.ok]; omega⟩
    | @look c z gs h1 h2 h3 => exact ⟨.look c gs, rfl, z, h1, h2, h3⟩
  obtain ⟨rws, rfl, hrw⟩ := list_enc (f := encD) (Q := fun _ ss => ss.length ≤ 3 ∧ ∀ s ∈ ss, s.ok zs 3) (ps := rows) (k := 0) fun i p hp => by
    obtain ⟨ss, rfl, hl, hs⟩ := hr p (List.mem_of_getElem? hp)
    obtain ⟨st, rfl, hst⟩ := list_enc (f := Stp.enc) (Q := fun _ s => s.ok zs 3) (ps := ss) (k := 0) fun i p hp => (hs p (List.mem_of_getElem? hp)).stp
    exact ⟨st, rfl, by simpa using hl, fun s hs => by
      obtain ⟨i, hi, e⟩ := List.getElem_of_mem hs
      exact hst i s (by rw [List.getElem?_eq_getElem hi, e])⟩
  have nl' : nodes.length = m := by simpa using nl
  refine ⟨⟨zs, nodes, qs, rws⟩, rfl, ⟨hz, by show 1 ≤ nodes.length; omega, by show nodes.length ≤ 12; omega, fun i n hn => ?_, q0, q3, fun q hq' => ?_, ?_, fun ss hss => ?_⟩, rfl, nl', by simpa using rl⟩
  · show n.ok zs nodes.length i
    have := hno i n hn
    rw [Nat.zero_add] at this
    rwa [nl']
  · show 0 ≤ q ∧ q < nodes.length
    rw [nl']; exact hq q hq'
  · have : rws.length = e := by simpa using rl
    show rws.length ≤ 6
    omega
  · obtain ⟨i, hi, e⟩ := List.getElem_of_mem hss
    exact hrw i ss (by rw [List.getElem?_eq_getElem hi, e])
theorem r_dc {C : Cfg} {s : Slots} {h : Hea} {Φ : P → Hea → Prop} {own : List Nat} {k v : T .e} {g : T .g} {i : T .i} {c : T .t} (q : Ret (ev C i () s h) fun w h => Ret (dcL w.stay (fun p h => (ev C g p (wipe s own) h).bind fun s' h => (ev C c () s' h).bind fun b h => if b then (ev C k () s' h).bind fun x h => (ev C v () s' h).bind fun y h => .ok (some (x, y)) h else .ok none h) w.its [] h) fun vs h => Φ (.ref h.length) (h ++ [.dic vs])) :
    Ret (ev C (.dc own k v g i c) () s h) Φ := by
  unfold ev
  refine Ret.seq q fun w h q => ?_
  obtain ⟨vs, h', e, q⟩ := q
  rw [e]
  exact .ok q
theorem ret_whl {t : Slots → Hea → R Bool} {f : Slots → Hea → R (Flow × Slots)} {Φ : Flow × Slots → Hea → Prop} (I : Nat → Slots → Hea → Prop)
    (step : ∀ m s h, I m s h → Ret (t s h) fun b h' => (b = true → ∃ m', m = m' + 1 ∧ Ret (f s h') fun r h'' => (r.1 = .nx ∧ I m' r.2 h'')) ∧ (b = false → Φ (.nx, s) h')) :
    ∀ (m n : Nat) (s : Slots) (h : Hea), m < n → I m s h → Ret (whileL t f n s h) Φ := by
  intro m
  induction m with
  | zero =>
    intro n s h hn i
    obtain ⟨n, rfl⟩ : ∃ k, n = k + 1 := ⟨n - 1, by omega⟩
    unfold whileL
    refine Ret.seq (step 0 s h i) fun b h' ⟨q1, q2⟩ => ?_
    cases b with
    | true => obtain ⟨m', e, _⟩ := q1 rfl; cases e
    | false => exact .ok (q2 rfl)
  | succ m ih =>
    intro n s h hn i
    obtain ⟨n, rfl⟩ : ∃ k, n = k + 1 := ⟨n - 1, by omega⟩
    unfold whileL
    refine Ret.seq (step _ s h i) fun b h' ⟨q1, q2⟩ => ?_
    cases b with
    | true =>
      obtain ⟨m', e, q⟩ := q1 rfl
      cases e
      show Ret ((f s h').bind _) Φ
      refine Ret.seq q fun r h'' ⟨e, i'⟩ => ?_
      rw [e]
      exact ih n r.2 h'' (by omega) i'
    | false => exact .ok (q2 rfl)
def Grow (h h' : Hea) : Prop := ∃ r, h' = h ++ r
theorem Grow.refl {h : Hea} : Grow h h := ⟨[], by simp⟩
theorem Grow.push {h r : Hea} : Grow h (h ++ r) := ⟨r, rfl⟩
theorem Grow.trans {a b c : Hea} (x : Grow a b) (y : Grow b c) : Grow a c := by
  obtain ⟨r, rfl⟩ := x
  obtain ⟨q, rfl⟩ := y
  exact ⟨r ++ q, by simp⟩
theorem Grow.get {h h' : Hea} (g : Grow h h') {l : Nat} {o : O} (e : h[l]? = some o) : h'[l]? = some o := by
  obtain ⟨r, rfl⟩ := g
  rw [List.getElem?_append_left (List.getElem?_eq_some_iff.mp e).1]; exact e
theorem Grow.keep {h h' : Hea} (g : Grow h h') : Keep h h' := by
  obtain ⟨r, rfl⟩ := g
  exact Keep.push
theorem Grow.pen {h h' : Hea} (g : Grow h h') {n : Nat} (p : Pen h n) : Pen h' n := by
  obtain ⟨r, rfl⟩ := g
  exact p.push
theorem at_enc {α : Type} {f : α → P} {as : List α} {k : Nat} {a : α} (h : as[k]? = some a) : L2.atI (as.map f) (k : Int) = some (f a) := atI_nat (by rw [List.getElem?_map, h]; rfl)
theorem carried_spec {G : Prog} (hG : HasDeeds G) {W d : Nat} {H : Hs} (ok : H.Ok) {k : Nat} {ss : List Stp} (hk : H.rows[k]? = some ss) {l : List Int} (hl : Ct H.zs l) {h : Hea} :
    Ret (callN G W (d + 6) 13 [H.enc, .int k, encR l] h) fun v h' => v = encR (doDeed H.zs ss l) ∧ h' = h := by
  rw [call_fn hG.f13]
  refine run_ret rfl ?_
  unfold f_carried
  show Ret (ev (k := .s) _ _ () [some H.enc, some (.int k), some (encR l), none] h) _
  have hss := ok.rows ss (List.mem_of_getElem? hk)
  refine r_for (r_isq (r_idx ?_))
  array_mem_dec
  refine ⟨.tup (H.rows.map encD), rfl, ?_⟩
  array_mem_dec
  refine ⟨_, at_enc hk, r_walkT ?_⟩
  refine (ret_forL (I := fun i s h1 => h1 = h ∧ ∃ o3, s = [some H.enc, some (.int k), some (encR (doDeed H.zs (ss.take i) l)), o3]) _ (fun _ _ _ _ => rfl) ?_ ⟨rfl, _, rfl⟩).imp fun r h1 ⟨e, eh, o3, es⟩ => .inl ⟨e, ?_⟩
  · rintro i p s h1 hp ⟨rfl, o3, rfl⟩
    rw [List.getElem?_map, Option.map_eq_some_iff] at hp
    obtain ⟨st, hst, rfl⟩ := hp
    refine Ret.bind (r_gnm ?_)
    show Ret (ev (k := .s) _ _ () [some H.enc, some (.int k), some (encR (doDeed H.zs (ss.take i) l)), some st.enc] h1) _
    array_mem_dec
    refine ⟨encR H.zs, rfl, ?_⟩
    array_mem_dec
    have hc : Ct H.zs (doDeed H.zs (ss.take i) l) := Ct.deed ok.sizes hl fun s hs => hss.2 s (List.mem_of_mem_take hs)
    refine (behind_step_spec hG ok.sizes hc 3 d st (hss.2 st (List.mem_of_getElem? hst))).imp fun v h2 ⟨e1, e2⟩ => ?_
    subst e1 e2
    refine r_gnm (r_skip ⟨rfl, rfl, some st.enc, ?_⟩)
    have : ss.take (i + 1) = ss.take i ++ [st] := by rw [List.take_add_one, hst]; rfl
    rw [this]
    simp only [doDeed, List.foldl_append, List.foldl_cons, List.foldl_nil]
    rfl
  · rw [es]
    subst eh
    refine r_ret (r_var rfl ⟨_, rfl, ?_, rfl⟩)
    rw [List.length_map, List.take_length]
def hasL : List (List Int) → List Int → Bool
  | [], _ => false
  | q :: r, p => decide (q = p) || hasL r p
def dedupL : List (List Int) → List (List Int) → List (List Int)
  | acc, [] => acc
  | acc, p :: ps => if hasL acc p then dedupL acc ps else dedupL (acc ++ [p]) ps
def setL (rows : List (List Int)) : List (List Int) := isort rowLe (dedupL [] rows)
theorem beq_encR (a b : List Int) : P.beq (encR a) (encR b) = decide (a = b) := by
  rw [Bool.eq_iff_iff, P.beq_iff, decide_eq_true_iff]
  exact ⟨encR_inj, fun e => by rw [e]⟩
theorem hasL_enc (p : List Int) : ∀ acc : List (List Int), hasP (acc.map encR) (encR p) = hasL acc p
  | [] => rfl
  | q :: r => by simp only [List.map_cons, hasP, hasL, beq_encR, hasL_enc p r]
theorem dedupL_enc : ∀ (rows acc : List (List Int)), dedupP (acc.map encR) (rows.map encR) = (dedupL acc rows).map encR
  | [], _ => rfl
  | p :: ps, acc => by
    simp only [List.map_cons, dedupP, dedupL, hasL_enc]
    split
    · exact dedupL_enc ps acc
    · rw [← dedupL_enc ps (acc ++ [p])]; simp
theorem hasL_iff {p : List Int} : ∀ {acc : List (List Int)}, hasL acc p = true ↔ p ∈ acc
  | [] => by simp [hasL]
  | q :: r => by
    simp only [hasL, Bool.or_eq_true, decide_eq_true_iff, hasL_iff (acc := r), List.mem_cons]
    exact ⟨fun h => h.imp Eq.symm id, fun h => h.imp Eq.symm id⟩
theorem dedupL_mem {p : List Int} : ∀ {rows acc : List (List Int)}, p ∈ dedupL acc rows ↔ p ∈ acc ∨ p ∈ rows
  | [], acc => by simp [dedupL]
  | x :: xs, acc => by
    simp only [dedupL]
    split
    · rename_i e
      rw [hasL_iff] at e
      rw [dedupL_mem (rows := xs)]
      constructor
      · rintro (h | h)
        · exact .inl h
        · exact .inr (List.mem_cons_of_mem _ h)
      · rintro (h | h)
        · exact .inl h
        · rcases List.mem_cons.mp h with rfl | h
          · exact .inl e
          · exact .inr h
    · rw [dedupL_mem (rows := xs)]
      simp only [List.mem_append, List.mem_cons, List.not_mem_nil, or_false]
      constructor
      · rintro ((h | h) | h)
        · exact .inl h
        · exact .inr (.inl h)
        · exact .inr (.inr h)
      · rintro (h | h | h)
        · exact .inl (.inl h)
        · exact .inl (.inr h)
        · exact .inr h
theorem dedupL_nodup : ∀ {rows acc : List (List Int)}, acc.Nodup → (dedupL acc rows).Nodup
  | [], acc, h => h
  | x :: xs, acc, h => by
    simp only [dedupL]
    split
    · exact dedupL_nodup h
    · rename_i e
      rw [hasL_iff] at e
      refine dedupL_nodup (List.nodup_append.mpr ⟨h, by simp, fun a ha b hb => ?_⟩)
      rw [List.mem_singleton.mp hb]
      exact fun z => e (z ▸ ha)
theorem setL_mem {rows : List (List Int)} {p : List Int} : p ∈ setL rows ↔ p ∈ rows := by
  unfold setL
  rw [isort_mem, dedupL_mem]; simp
theorem setL_pw (rows : List (List Int)) : (setL rows).Pairwise fun a b => rowLe a b = true := isort_pw rowLe_total _
theorem setL_nodup (rows : List (List Int)) : (setL rows).Nodup := ((isort_perm _).nodup_iff).mpr (dedupL_nodup List.nodup_nil)
theorem setL_len {rows : List (List Int)} : (setL rows).length ≤ rows.length := by
  have d : ∀ (rows acc : List (List Int)), (dedupL acc rows).length ≤ acc.length + rows.length := by
    intro rows
    induction rows with
    | nil => intro acc; simp [dedupL]
    | cons p ps ih =>
      intro acc
      simp only [dedupL, List.length_cons]
      split
      · have := ih acc; omega
      · have := ih (acc ++ [p]); simp at this; omega
  have := d rows []
  unfold setL
  rw [(isort_perm _).length_eq]
  simpa using this
theorem setL_self {rows : List (List Int)} (h : rows.Pairwise fun a b => rowLe a b = true) (n : rows.Nodup) : setL rows = rows := sorted_unique (setL_pw rows) h (setL_nodup rows) n fun _ => setL_mem
theorem setL_eq {a b : List (List Int)} (h : ∀ x, x ∈ a ↔ x ∈ b) : setL a = setL b := sorted_unique (setL_pw a) (setL_pw b) (setL_nodup a) (setL_nodup b) fun x => by rw [setL_mem, setL_mem]; exact h x
theorem sortD_dedup {h : Hea} {rows : List (List Int)} (hne : ∀ r ∈ rows, r ≠ []) : sortD h (dedupP [] (rows.map encR)) = some ((setL rows).map encR) := by
  have e := dedupL_enc rows []
  rw [show dedupP (List.map encR []) (rows.map encR) = dedupP [] (rows.map encR) from rfl] at e
  rw [e]
  exact sortD_rows fun r hr => hne r (by rcases dedupL_mem.mp hr with z | z; · cases z
                                         · exact z)
theorem keyT_encR (r : List Int) : keyT (encR r) = true := by
  show deepPs 6 (r.map P.int) = true
  induction r with
  | nil => rfl
  | cons i r ih => simp only [List.map_cons, deepPs, deepP, ih]; rfl
theorem kv_put (acc : List P) (p : P) : kvPut (acc.map fun k => (k, P.bl true)) p (.bl true) = (if hasP acc p then acc else acc ++ [p]).map fun k => (k, P.bl true) := by
  induction acc with
  | nil => rfl
  | cons q r ih =>
    simp only [List.map_cons, kvPut, hasP]
    by_cases e : P.beq q p = true
    · simp [e]
    · rw [Bool.not_eq_true] at e
      simp only [e, Bool.false_or, Bool.false_eq_true, if_false]
      rw [ih]
      split <;> rfl
theorem dc_keys {w : List (Nat × O)} {f : P → Hea → R (Option (P × P))} {h : Hea} (hold : Wk.holds w h = true) : ∀ (its acc : List P), (∀ p ∈ its, f p h = .ok (some (p, .bl true)) h ∧ keyT p = true) → acc.length + its.length ≤ SZ →
    dcL w f its (acc.map fun k => (k, P.bl true)) h = .ok ((dedupP acc its).map fun k => (k, P.bl true)) h
  | [], acc, _, _ => by unfold dcL; rw [if_pos hold]; rfl
  | p :: ps, acc, hf, hl => by
    unfold dcL
    rw [if_pos hold]
    obtain ⟨e1, e2⟩ := hf p List.mem_cons_self
    rw [e1]
    have hl' : acc.length + (ps.length + 1) ≤ SZ := by simpa using hl
    show (if (_ && _) = true then _ else _) = _
    rw [if_pos (by simp [e2]; omega), kv_put]
    simp only [dedupP]
    split
    · exact dc_keys hold ps acc (fun q hq => hf q (List.mem_cons_of_mem _ hq)) (by omega)
    · exact dc_keys hold ps (acc ++ [p]) (fun q hq => hf q (List.mem_cons_of_mem _ hq)) (by simp; omega)
def RowsAt (h : Hea) (x : P) (rows : List (List Int)) : Prop := x = .tup (rows.map encR) ∨ ∃ l, x = .ref l ∧ h[l]? = some (.lst (rows.map encR))
theorem as_set_spec {G : Prog} (f12 : G.fn 12 = some f_as_set) {W d : Nat} {h : Hea} {x : P} {rows : List (List Int)} (hx : RowsAt h x rows) (hne : ∀ r ∈ rows, r ≠ []) (hl : rows.length ≤ 1000) :
    Ret (callN G W (d + 1) 12 [x] h) fun v h' => v = .tup ((setL rows).map encR) ∧ Grow h h' := by
  rw [call_fn f12]
  refine run_ret rfl ?_
  unfold f_as_set
  have hw : ∃ w, Ret (walkSeq x h) (fun u h' => u = ⟨rows.map encR, w⟩ ∧ h' = h) ∧ Wk.holds w h = true := by
    rcases hx with rfl | ⟨l, rfl, e⟩
    · exact ⟨[], r_walkT ⟨rfl, rfl⟩, rfl⟩
    · exact ⟨_, r_walkL e ⟨rfl, rfl⟩, by simp [Wk.holds, e]⟩
  obtain ⟨w, hw1, hold⟩ := hw
  show Ret (ev (k := .s) _ _ () [some x, none] h) _
  refine r_ret (r_blt (r_cons (r_blt (r_cons (r_blt (r_cons (r_dc (Ret.imp (r_isq (r_var rfl hw1)) fun u h1 ⟨e1, e2⟩ => ?_))))))))
  subst e1 e2
  refine ⟨_, h1, dc_keys (w := w) hold (rows.map encR) [] (fun p hp => ⟨by unfold ev; rfl, by obtain ⟨r, _, rfl⟩ := List.mem_map.mp hp; exact keyT_encR r⟩) (by simp [SZ]; omega), r_nil ?_⟩
  refine ⟨.ref (h1.length + 1), h1 ++ [.dic ((dedupP [] (rows.map encR)).map fun k => (k, P.bl true))] ++ [.lst (dedupP [] (rows.map encR))], ?_, r_nil ?_⟩
  · have e : (h1 ++ [O.dic ((dedupP [] (rows.map encR)).map fun k => (k, P.bl true))])[h1.length]? = some (.dic ((dedupP [] (rows.map encR)).map fun k => (k, P.bl true))) := by simp
    simp only [bltV, e, mkObj]
    simp [List.map_map, Function.comp_def]
  refine ⟨.ref (h1.length + 2), h1 ++ [.dic ((dedupP [] (rows.map encR)).map fun k => (k, P.bl true))] ++ [.lst (dedupP [] (rows.map encR))] ++ [.lst ((setL rows).map encR)], ?_, r_nil ?_⟩
  · have e : (h1 ++ [O.dic ((dedupP [] (rows.map encR)).map fun k => (k, P.bl true))] ++ [O.lst (dedupP [] (rows.map encR))])[h1.length + 1]? = some (.lst (dedupP [] (rows.map encR))) := by
      rw [List.getElem?_append_right (by simp)]; simp
    simp only [bltV, e, sortD_dedup hne, mkObj]
    simp
  refine v_tupL (xs := (setL rows).map encR) ?_ ⟨_, rfl, rfl, (Grow.push.trans Grow.push).trans Grow.push⟩
  rw [List.getElem?_append_right (by simp)]; simp
theorem image_spec {G : Prog} (hG : HasDeeds G) (f12 : G.fn 12 = some f_as_set) (f19 : G.fn 19 = some f_image) {W d : Nat} {H : Hs} (ok : H.Ok) {k : Nat} {ss : List Stp} (hk : H.rows[k]? = some ss) {cs : List (List Int)} (hc : ∀ c ∈ cs, Ct H.zs c) (hl : cs.length ≤ 100) {h : Hea} :
    Ret (callN G W (d + 7) 19 [H.enc, .int k, .tup (cs.map encR)] h) fun v h' => v = .tup ((setL (cs.map (doDeed H.zs ss))).map encR) ∧ Grow h h' := by
  rw [call_fn f19]
  refine run_ret rfl ?_
  unfold f_image
  show Ret (ev (k := .s) _ _ () [some H.enc, some (.int k), some (.tup (cs.map encR)), none] h) _
  refine r_ret (r_call (r_cons (r_lc (r_isq (r_var rfl (r_walkT ?_))))))
  refine (ret_lcL (I := fun i acc h1 => h1 = h ∧ acc = ((cs.take i).map (doDeed H.zs ss)).map encR) _ (by simp [SZ]; omega) (fun _ _ _ _ => rfl) ?_ ⟨rfl, rfl⟩).imp fun vs h1 ⟨⟨e1, e2⟩, hlen⟩ => ?_
  · rintro i p acc h1 hp ⟨rfl, rfl⟩
    rw [List.getElem?_map, Option.map_eq_some_iff] at hp
    obtain ⟨c, hci, rfl⟩ := hp
    refine Ret.bind (r_gnm (Ret.bind (r_ttrue ?_)))
    rw [if_pos rfl]
    refine Ret.bind ?_
    show Ret (ev (k := .e) _ _ () [some H.enc, some (.int k), some (.tup (cs.map encR)), some (encR c)] h1) _
    array_mem_dec
    refine (carried_spec hG ok hk (hc c (List.mem_of_getElem? hci))).imp fun v h2 ⟨e1, e2⟩ => ?_
    subst e1 e2
    refine .ok ⟨rfl, ?_⟩
    rw [List.take_add_one, hci]; simp
  subst e1 e2
  simp only [List.length_map, List.take_length]
  refine ⟨by simp [SZ]; omega, r_nil ?_⟩
  have hne : ∀ r ∈ cs.map (doDeed H.zs ss), r ≠ [] := fun r hr z => by
    obtain ⟨c, hcm, rfl⟩ := List.mem_map.mp hr
    have := (Ct.deed ok.sizes (hc c hcm) (ok.rows ss (List.mem_of_getElem? hk)).2).len
    rw [z] at this
    have h0 := ok.sizes.ne
    simp at this; omega
  refine (as_set_spec f12 (d := d + 5) (.inr ⟨_, rfl, by simp⟩) hne (by simp; omega)).imp fun v h2 ⟨e, g⟩ => ⟨_, rfl, e, Grow.push.trans g⟩
end Ev

namespace Ev
open PySem Ev.Code
local macro_rules | `(tactic| array_mem_dec) => `(tactic| repeat (first | with_reducible refine r_asg ?_ | with_reducible refine r_bin ?_ | with_reducible refine r_int ?_ | with_reducible refine r_str ?_ | with_reducible refine r_non ?_ | with_reducible refine r_bl ?_ | with_reducible refine r_blt ?_ | with_reducible refine r_call ?_ | with_reducible refine r_cons ?_ | with_reducible refine r_nil ?_ | with_reducible refine v_int ?_ | with_reducible refine v_add ?_ | with_reducible refine v_sub ?_ | with_reducible refine r_gnm ?_ | with_reducible refine r_tcmp ?_ | with_reducible refine r_idx ?_ | with_reducible refine r_gsub ?_ | with_reducible refine r_exp ?_ | with_reducible refine r_ret ?_ | with_reducible refine r_tup ?_ | with_reducible refine v_lenT ?_ | ((with_reducible apply r_var); exact rfl) | with_reducible refine v_mul (by omega) ?_ | with_reducible refine v_mod (by decide) ?_))
theorem depth_rows : ∀ rows : List (List Int), PyData.depthAll (rows.map datR) ≤ 1
  | [] => Nat.zero_le _
  | r :: rows => by
    have := depth_rows rows
    have h := depth_ints r
    simp only [List.map_cons, PyData.depthAll, PyData.depth, h]; omega
theorem lay_rows : ∀ rows : List (List Int), PyData.canLayAll0 (rows.map datR) = true
  | [] => rfl
  | r :: rows => by
    simp only [List.map_cons, PyData.canLayAll0, PyData.canLay0, lay_ints r, lay_rows rows]; rfl
theorem shaped_rows (rows : List (List Int)) : SeqAt.shaped (.list (rows.map datR)) = true ∧ SeqAt.shaped (.tuple (rows.map datR)) = true := by
  have h := depth_rows rows
  constructor <;> (unfold SeqAt.shaped; rw [Bool.and_eq_true]; exact ⟨lay_rows rows, decide_eq_true (by simp only [PyData.depth]; omega)⟩)
theorem eqv_ints : ∀ a b : List Int, PyData.eqvAll (a.map PyData.int) (b.map PyData.int) = decide (a = b)
  | [], [] => by simp [PyData.eqvAll]
  | [], _ :: _ => by simp [PyData.eqvAll]
  | _ :: _, [] => by simp [PyData.eqvAll]
  | x :: a, y :: b => by
    simp only [List.map_cons, PyData.eqvAll, PyData.eqv, eqv_ints a b]
    by_cases h : x = y <;> simp [h]
theorem eqv_rows : ∀ a b : List (List Int), PyData.eqvAll (a.map datR) (b.map datR) = decide (a = b)
  | [], [] => by simp [PyData.eqvAll]
  | [], _ :: _ => by simp [PyData.eqvAll]
  | _ :: _, [] => by simp [PyData.eqvAll]
  | x :: a, y :: b => by
    simp only [List.map_cons, PyData.eqvAll, PyData.eqv, eqv_rows a b, eqv_ints x y]
    by_cases h : x = y <;> simp [h]
theorem data_rowsL {h : Hea} {l : Nat} {rows : List (List Int)} (e : h[l]? = some (.lst (rows.map encR))) : dataOf h (.ref l) = some (.list (rows.map datR)) := by
  unfold dataOf dataW locData
  simp only [e]
  have : dataWs (locData h 5) (rows.map encR) = some (rows.map datR) := by
    clear e
    induction rows with
    | nil => rfl
    | cons r rows ih =>
      simp only [List.map_cons, dataWs]
      rw [ih]
      show (Option.map PyData.tuple (dataWs (locData h 5) (r.map P.int))).bind _ = _
      rw [dat_ints]; rfl
  rw [this]; rfl
theorem data_rowsT {h : Hea} {rows : List (List Int)} : dataOf h (.tup (rows.map encR)) = some (.tuple (rows.map datR)) := by
  have := dat_rows h rows
  unfold dataOfs at this
  show (dataWs (locData h 6) (rows.map encR)).map PyData.tuple = _
  rw [this]; rfl
theorem eq_rowsL {h : Hea} {a b : Nat} {xs ys : List (List Int)} (ea : h[a]? = some (.lst (xs.map encR))) (eb : h[b]? = some (.lst (ys.map encR))) : cmpV .eq (.ref a) (.ref b) h = some (decide (xs = ys)) := by
  show eqD h _ _ = _
  unfold eqD
  rw [data_rowsL ea, data_rowsL eb]
  show (if (SeqAt.shaped (.list (xs.map datR)) && SeqAt.shaped (.list (ys.map datR))) = true then some (PyData.eqv _ _) else none) = _
  rw [if_pos (by simp [shaped_rows])]
  simp only [PyData.eqv, eqv_rows]
theorem eq_rowsT {h : Hea} {xs ys : List (List Int)} : cmpV .eq (.tup (xs.map encR)) (.tup (ys.map encR)) h = some (decide (xs = ys)) := by
  show eqD h _ _ = _
  unfold eqD
  rw [data_rowsT, data_rowsT]
  show (if (SeqAt.shaped (.tuple (xs.map datR)) && SeqAt.shaped (.tuple (ys.map datR))) = true then some (PyData.eqv _ _) else none) = _
  rw [if_pos (by simp [shaped_rows])]
  simp only [PyData.eqv, eqv_rows]
theorem ne_rowsT {h : Hea} {xs ys : List (List Int)} : cmpV .ne (.tup (xs.map encR)) (.tup (ys.map encR)) h = some (!decide (xs = ys)) := by
  show (cmpV .eq (.tup (xs.map encR)) (.tup (ys.map encR)) h).map (fun b => !b) = _
  rw [eq_rowsT]; rfl
theorem r_sset {C : Cfg} {s : Slots} {h : Hea} {Φ : P → Hea → Prop} {a : T .e} (q : Ret (ev C a () s h) fun x h => ∃ l xs ys, x = .ref l ∧ h[l]? = some (.lst xs) ∧ setOk xs = true ∧ sortD h (dedupP [] xs) = some ys ∧ Φ (.ref h.length) (h ++ [.lst ys])) : Ret (ev C (.sset a) () s h) Φ := by
  unfold ev
  refine Ret.seq q fun x h ⟨l, xs, ys, e1, e2, e3, e4, q⟩ => ?_
  subst e1
  simp only [ssetV, e2, e3, if_true, e4]
  exact ⟨_, _, rfl, q⟩
theorem rowOk_ct {zs r : List Int} (hz : Sizes zs) (h : Ct zs r) : rowOk zs.length (encR r) = true := by
  simp only [rowOk, List.length_map, Bool.and_eq_true, decide_eq_true_eq, List.all_eq_true]
  refine ⟨h.len, fun p hp => ?_⟩
  obtain ⟨v, hv, rfl⟩ := List.mem_map.mp hp
  obtain ⟨i, hi, e⟩ := List.getElem_of_mem hv
  have hi' : i < zs.length := by rw [← h.len]; exact hi
  have b := h.at_ i _ v (List.getElem?_eq_getElem hi') (by rw [List.getElem?_eq_getElem hi, e])
  have := hz.at_ _ (List.getElem_mem hi')
  simp only [Bool.and_eq_true, decide_eq_true_eq]; omega
theorem ct_ne {zs r : List Int} (hz : Sizes zs) (h : Ct zs r) : r ≠ [] := fun z => by
  have := h.len
  have := hz.ne
  subst z; simp at *; omega
theorem ct_small {zs r : List Int} (hz : Sizes zs) (h : Ct zs r) : ∀ v ∈ r, 0 ≤ v ∧ v < 64 := fun v hv => by
  obtain ⟨i, hi, e⟩ := List.getElem_of_mem hv
  have hi' : i < zs.length := by rw [← h.len]; exact hi
  have b := h.at_ i _ v (List.getElem?_eq_getElem hi') (by rw [List.getElem?_eq_getElem hi, e])
  have := hz.at_ _ (List.getElem_mem hi')
  omega
theorem ct_tx {zs r : List Int} (hz : Sizes zs) (h : Ct zs r) : Tx (encR r) 40 1 := (ints_tx (k := 3) (ct_small hz h) (by rw [h.len]; exact hz.few)).mono (by omega) (by omega)
theorem cts_tx {zs : List Int} (hz : Sizes zs) {rows : List (List Int)} (h : ∀ r ∈ rows, Ct zs r) (hl : rows.length ≤ 100) : Tx (.tup (rows.map encR)) 4202 2 :=
  (Tx.tup (B := 40) (D := 1) (n := 100) (fun p hp => by obtain ⟨r, hr, rfl⟩ := List.mem_map.mp hp; exact ct_tx hz (h r hr)) (by simpa using hl)).mono (by omega) (by omega)
def contN (rows : List (List Int)) (z : Int) : List (List Int) := rows.flatMap fun r => (List.range z.toNat).map fun v : Nat => r ++ [(0 + (v : Int))]
def contL (zs : List Int) : List (List Int) := zs.foldl contN [[]]
theorem Grow.set {h h' : Hea} (g : Grow h h') {l : Nat} (hl : h.length ≤ l) (o : O) : Grow h (h'.set l o) := by
  obtain ⟨r, rfl⟩ := g
  exact ⟨r.set (l - h.length) o, by rw [List.set_append_right _ _ hl]⟩
theorem Grow.len {h h' : Hea} (g : Grow h h') : h.length ≤ h'.length := by
  obtain ⟨r, rfl⟩ := g
  simp
theorem contN_len {rows : List (List Int)} {z : Int} (hz : z ≤ 4) : (contN rows z).length ≤ 4 * rows.length := by
  unfold contN
  induction rows with
  | nil => simp
  | cons r rs ih =>
    simp only [List.flatMap_cons, List.length_append, List.length_map, List.length_range, List.length_cons]
    omega
theorem contL_len {zs : List Int} (hz : ∀ z ∈ zs, z ≤ 4) : ∀ i, (contL (zs.take i)).length ≤ 4 ^ i := by
  intro i
  induction i with
  | zero => simp [contL]
  | succ i ih =>
    by_cases hi : i < zs.length
    · rw [List.take_add_one, List.getElem?_eq_getElem hi]
      simp only [Option.toList_some, contL, List.foldl_append, List.foldl_cons, List.foldl_nil]
      have := contN_len (rows := contL (zs.take i)) (hz _ (List.getElem_mem hi))
      have e : (contL (zs.take i)) = List.foldl contN [[]] (List.take i zs) := rfl
      rw [← e, Nat.pow_succ]
      omega
    · rw [List.take_of_length_le (by omega)]
      rw [List.take_of_length_le (by omega)] at ih
      rw [Nat.pow_succ]; omega
theorem v_extend {h : Hea} {Φ : P → Hea → Prop} {l m : Nat} {xs ys : List P} (e : h[l]? = some (.lst xs)) (e2 : h[m]? = some (.lst ys)) (hl : xs.length + ys.length ≤ SZ) (q : Φ .non (h.set l (.lst (xs ++ ys)))) : Ret (bmtV .extend (.ref l) [.ref m] h) Φ := by
  simp only [bmtV, e, e2]; rw [if_pos hl]; exact .ok q
theorem rcv_extend {h : Hea} {l : Nat} {xs : List P} (e : h[l]? = some (.lst xs)) : rcvOk .extend (.ref l) h = true := by
  simp only [rcvOk, e]
theorem holds1 {h : Hea} {l : Nat} {o : O} (e : h[l]? = some o) : Wk.holds [(l, o)] h = true := by simp [Wk.holds, e]
set_option maxHeartbeats 4000000 in
theorem contents_spec {G : Prog} (f15 : G.fn 15 = some w_contents) {W d : Nat} {zs : List Int} (hz : Sizes zs) {r1 r2 r3 : P} {h : Hea} :
    Ret (callN G W (d + 1) 15 [.tup [encR zs, r1, r2, r3]] h) fun v h' => ∃ l, v = .ref l ∧ h.length ≤ l ∧ h'[l]? = some (.lst ((contL zs).map encR)) ∧ Grow h h' := by
  have hl3 := hz.few
  have h4 : ∀ z ∈ zs, z ≤ 4 := fun z hz' => (hz.at_ z hz').2
  rw [call_fn f15]
  refine run_ret rfl ?_
  unfold w_contents
  show Ret (ev (k := .s) _ _ () [some (.tup [encR zs, r1, r2, r3]), none, none, none, none, none] h) _
  refine r_asg (r_lst (r_cons (r_tup (r_nil ⟨by simp, r_nil ⟨by simp [SZ], r_gnm ?_⟩⟩))))
  refine r_for (r_isq (r_idx (r_var rfl (r_int ⟨encR zs, rfl, r_walkT ?_⟩))))
  refine (ret_forL (I := fun i s h1 => ∃ l o2 o3 o4 o5, s = [some (.tup [encR zs, r1, r2, r3]), some (.ref l), o2, o3, o4, o5] ∧ h.length ≤ l ∧ h1[l]? = some (.lst ((contL (zs.take i)).map encR)) ∧ Grow h h1) _ (fun _ _ _ _ => rfl) ?_ ⟨h.length, none, none, none, none, rfl, Nat.le_refl _, by simp [contL, encR], Grow.push⟩).imp fun r h1 ⟨e, l, o2, o3, o4, o5, es, hle, hl, g⟩ => .inl ⟨e, ?_⟩
  · rintro i p s h1 hp ⟨l, o2, o3, o4, o5, rfl, hle, hl, g⟩
    rw [List.getElem?_map, Option.map_eq_some_iff] at hp
    obtain ⟨z, hzi, rfl⟩ := hp
    have hzz := hz.at_ z (List.mem_of_getElem? hzi)
    have hcl := contL_len h4 i
    have hi3 : i < 3 := by have := (List.getElem?_eq_some_iff.mp hzi).1; omega
    have hcl' : (contL (zs.take i)).length ≤ 64 := Nat.le_trans hcl (Nat.le_trans (Nat.pow_le_pow_right (by decide) (show i ≤ 3 by omega)) (by decide))
    generalize hrows : contL (zs.take i) = rows at hl hcl'
    refine Ret.bind (r_gnm (r_asg (r_lst (r_nil ⟨by simp, r_gnm ?_⟩))))
    show Ret (ev (k := .s) _ _ () [some (.tup [encR zs, r1, r2, r3]), some (.ref l), some (.int z), some (.ref h1.length), o4, o5] (h1 ++ [.lst []])) _
    have gl := (Grow.push (h := h1) (r := [.lst []])).get hl
    have hll : l < h1.length := (List.getElem?_eq_some_iff.mp hl).1
    refine r_for (r_isq (r_var rfl (r_walkL gl ?_)))
    generalize hL2 : h1.length = l2 at hll ⊢
    refine (ret_forL (I := fun j s h2 => ∃ o4 o5, s = [some (.tup [encR zs, r1, r2, r3]), some (.ref l), some (.int z), some (.ref l2), o4, o5] ∧ h2[l]? = some (.lst (rows.map encR)) ∧ h2[l2]? = some (.lst ((contN (rows.take j) z).map encR)) ∧ Grow h h2) _ (fun j s h2 ⟨_, _, _, q, _⟩ => holds1 q) ?_ ⟨o4, o5, rfl, gl, by rw [← hL2]; simp [contN], g.trans Grow.push⟩).imp fun r h2 ⟨e, o4, o5, es, hl1, hl2, g2⟩ => .inl ⟨e, ?_⟩
    · rintro j p s h2 hp ⟨o4, o5, rfl, hl1, hl2, g2⟩
      rw [List.getElem?_map, Option.map_eq_some_iff] at hp
      obtain ⟨r, hri, rfl⟩ := hp
      refine Ret.bind (r_gnm ?_)
      show Ret (ev (k := .s) _ _ () [some (.tup [encR zs, r1, r2, r3]), some (.ref l), some (.int z), some (.ref l2), some (encR r), o5] h2) _
      have hjl : j < rows.length := (List.getElem?_eq_some_iff.mp hri).1
      have hrl : r.length ≤ 3 := by
        have : ∀ (zs : List Int) (acc : List (List Int)) (m : Nat), (∀ q ∈ acc, q.length ≤ m) → ∀ q ∈ zs.foldl contN acc, q.length ≤ m + zs.length := by
          intro zs
          induction zs with
          | nil => intro acc m ha q hq; exact ha q hq
          | cons z zs ih =>
            intro acc m ha q hq
            have := ih (contN acc z) (m + 1) (fun q hq => by
              unfold contN at hq
              obtain ⟨b, hb, hq⟩ := List.mem_flatMap.mp hq
              obtain ⟨v, _, rfl⟩ := List.mem_map.mp hq
              have := ha b hb
              simp; omega) q hq
            simp only [List.length_cons]; omega
        have := this (zs.take i) [[]] 0 (by simp) r (by
          have : r ∈ contL (zs.take i) := by rw [hrows]; exact List.mem_of_getElem? hri
          exact this)
        simp at this; omega
      refine r_exp (r_bmt (r_var rfl ⟨rcv_extend hl2, r_cons (r_lc (r_irng (r_var rfl ⟨z, rfl, by omega, by omega, ?_⟩)))⟩))
      refine (ret_lcL (I := fun k acc h3 => h3 = h2 ∧ acc = (((List.range z.toNat).take k).map fun v : Nat => r ++ [(0 + (v : Int))]).map encR) _ (by simp [SZ]; omega) (fun _ _ _ _ => rfl) ?_ ⟨rfl, rfl⟩).imp fun vs h3 ⟨⟨e1, e2⟩, hlen⟩ => ?_
      · rintro k p acc h3 hp ⟨rfl, rfl⟩
        obtain ⟨hk, rfl⟩ := range_item hp
        refine Ret.bind (r_gnm (Ret.bind (r_ttrue ?_)))
        rw [if_pos rfl]
        refine Ret.bind ?_
        show Ret (ev (k := .e) _ _ () [some (.tup [encR zs, r1, r2, r3]), some (.ref l), some (.int z), some (.ref l2), some (encR r), some (.int (0 + (k : Int)))] h3) _
        array_mem_dec
        refine ⟨by simp [SZ], v_cat (by simp [SZ]; omega) (.ok ⟨rfl, ?_⟩)⟩
        have hk' : k < z.toNat := by omega
        rw [List.take_add_one, List.getElem?_range hk']
        simp [encR]
      subst e1 e2
      simp only [List.length_map, List.take_length] at hlen ⊢
      have hz4 : z.toNat ≤ 4 := by omega
      refine ⟨by simp [SZ]; omega, r_nil ?_⟩
      have hl2' := (Grow.push (h := h3) (r := [.lst (List.map encR (List.map (fun v : Nat => r ++ [(0 + (v : Int))]) (List.range z.toNat)))])).get hl2
      have hlen2 : (contN (rows.take j) z).length ≤ 256 := by
        have := contN_len (rows := rows.take j) hzz.2
        rw [List.length_take] at this; omega
      refine v_extend hl2' (m := h3.length) (ys := List.map encR (List.map (fun v : Nat => r ++ [(0 + (v : Int))]) (List.range z.toNat))) (by simp) (by simp only [List.length_map, List.length_range, SZ]; omega) (r_skip ⟨rfl, _, _, rfl, ?_, ?_, (g2.trans Grow.push).set (by omega) _⟩)
      · rw [List.getElem?_set_ne (by omega)]; exact Grow.push.get hl1
      · rw [List.getElem?_set_self (List.getElem?_eq_some_iff.mp hl2').1]
        have : contN (rows.take (j + 1)) z = contN (rows.take j) z ++ (List.range z.toNat).map fun v : Nat => r ++ [(0 + (v : Int))] := by
          unfold contN
          rw [List.take_add_one, hri]; simp
        rw [this, List.map_append]
    · rw [es]
      refine r_asg (r_var rfl (r_gnm (r_skip ⟨rfl, l2, _, _, _, _, rfl, by omega, ?_, g2⟩)))
      rw [hl2, List.length_map, List.take_length]
      have : contL (zs.take (i + 1)) = contN rows z := by
        rw [List.take_add_one, hzi, ← hrows]
        simp [contL]
      rw [this]
  · rw [es]
    refine r_ret (r_var rfl ⟨_, rfl, l, rfl, hle, ?_, g⟩)
    rw [hl, List.length_map, List.take_length]
end Ev

namespace Ev
open PySem Ev.Code
local macro_rules | `(tactic| array_mem_dec) => `(tactic| repeat (first | with_reducible refine r_asg ?_ | with_reducible refine r_bin ?_ | with_reducible refine r_int ?_ | with_reducible refine r_str ?_ | with_reducible refine r_non ?_ | with_reducible refine r_bl ?_ | with_reducible refine r_blt ?_ | with_reducible refine r_call ?_ | with_reducible refine r_cons ?_ | with_reducible refine r_nil ?_ | with_reducible refine v_int ?_ | with_reducible refine v_add ?_ | with_reducible refine v_sub ?_ | with_reducible refine r_gnm ?_ | with_reducible refine r_tcmp ?_ | with_reducible refine r_idx ?_ | with_reducible refine r_gsub ?_ | with_reducible refine r_exp ?_ | with_reducible refine r_ret ?_ | with_reducible refine r_tup ?_ | with_reducible refine v_lenT ?_ | ((with_reducible apply r_var); exact rfl) | with_reducible refine v_mul (by omega) ?_ | with_reducible refine v_mod (by decide) ?_))
def Z39 : List (List Int) := ([2, 3, 4].map fun a => [a]) ++ ([2, 3, 4].flatMap fun a => [2, 3, 4].map fun b => [a, b]) ++ [2, 3, 4].flatMap fun a => [2, 3, 4].flatMap fun b => [2, 3, 4].map fun c => [a, b, c]
theorem sizes_39 {zs : List Int} (hz : Sizes zs) : zs ∈ Z39 := by
  have h3 : ∀ a : Int, 2 ≤ a ∧ a ≤ 4 → a = 2 ∨ a = 3 ∨ a = 4 := fun a h => by omega
  obtain ⟨h0, hl, hat⟩ := hz
  match zs, h0, hl, hat with
  | [a], _, _, hat =>
    rcases h3 a (hat a (by simp)) with rfl | rfl | rfl <;> decide
  | [a, b], _, _, hat =>
    rcases h3 a (hat a (by simp)) with rfl | rfl | rfl <;> rcases h3 b (hat b (by simp)) with rfl | rfl | rfl <;> decide
  | [a, b, c], _, _, hat =>
    rcases h3 a (hat a (by simp)) with rfl | rfl | rfl <;> rcases h3 b (hat b (by simp)) with rfl | rfl | rfl <;> rcases h3 c (hat c (by simp)) with rfl | rfl | rfl <;> decide
  | _ :: _ :: _ :: _ :: _, _, hl, _ => exact absurd hl (by simp)
def ctB : List Int → List Int → Bool
  | [], [] => true
  | z :: zs, v :: l => decide (0 ≤ v) && decide (v < z) && ctB zs l
  | _, _ => false
theorem ctB_ok : ∀ {zs l : List Int}, ctB zs l = true → Ct zs l
  | [], [], _ => ⟨rfl, fun i z v h => by simp at h⟩
  | z :: zs, v :: l, h => by
    simp only [ctB, Bool.and_eq_true, decide_eq_true_eq] at h
    have ih := ctB_ok h.2
    refine ⟨by simp [ih.len], fun i y u hy hu => ?_⟩
    cases i with
    | zero => simp at hy hu; subst hy hu; exact h.1
    | succ i => exact ih.at_ i y u (by simpa using hy) (by simpa using hu)
  | [], _ :: _, h => by cases h
  | _ :: _, [], h => by cases h
theorem cont_all : Z39.all (fun zs => (contL zs).all (ctB zs) && decide ((contL zs).Pairwise fun a b => rowLt a b = true) && decide (0 < (contL zs).length)) = true := by decide +kernel
theorem rowLt_le {a b : List Int} (h : rowLt a b = true) : rowLe a b = true := by
  unfold rowLe
  cases e : rowLt b a with
  | false => rfl
  | true =>
    exfalso
    have : ∀ a b : List Int, rowLt a b = true → rowLt b a = true → False := by
      intro a
      induction a with
      | nil => intro b h k; cases b <;> simp [rowLt] at h k
      | cons x a ih =>
        intro b h k
        cases b with
        | nil => simp [rowLt] at h
        | cons y b =>
          simp only [rowLt, Bool.or_eq_true, Bool.and_eq_true, decide_eq_true_eq] at h k
          rcases h with h | ⟨h, h2⟩
          · rcases k with k | ⟨k, k2⟩ <;> omega
          · rcases k with k | ⟨k, k2⟩
            · omega
            · exact ih b h2 k2
    exact this a b h e
def Asc (cs : List (List Int)) : Prop := cs.Pairwise fun a b => rowLt a b = true
theorem Asc.le {cs : List (List Int)} (h : Asc cs) : cs.Pairwise fun a b => rowLe a b = true := h.imp rowLt_le
theorem Asc.nodup {cs : List (List Int)} (h : Asc cs) : cs.Nodup := h.imp fun {a b} h z => by subst z; rw [rowLt_irrefl] at h; cases h
theorem Asc.self {cs : List (List Int)} (h : Asc cs) : setL cs = cs := setL_self h.le h.nodup
theorem setL_asc (rows : List (List Int)) : Asc (setL rows) := by
  have h := (setL_pw rows).and (setL_nodup rows)
  refine h.imp fun {a b} ⟨h1, h2⟩ => ?_
  cases e : rowLt a b with
  | true => rfl
  | false =>
    unfold rowLe at h1
    rw [Bool.not_eq_true'] at h1
    exact absurd (rowLt_total a b e h1) h2
theorem cont_ok {zs : List Int} (hz : Sizes zs) : (∀ c ∈ contL zs, Ct zs c) ∧ Asc (contL zs) ∧ 0 < (contL zs).length ∧ (contL zs).length ≤ 64 := by
  have h := List.all_eq_true.mp cont_all zs (sizes_39 hz)
  simp only [Bool.and_eq_true, List.all_eq_true, decide_eq_true_eq] at h
  refine ⟨fun c hc => ctB_ok (h.1.1 c hc), h.1.2, h.2, ?_⟩
  have := contL_len (zs := zs) (fun z hz' => (hz.at_ z hz').2) 3
  rw [List.take_of_length_le hz.few] at this
  exact this
section
variable {C : Cfg} {s : Slots} {h : Hea}
theorem r_noI {Φ : Flow × Slots → Hea → Prop} {i : Nat} {p : P} {x y : Str} {a k : T .s} (e : s[i]? = some (some p)) (ep : ∀ h, idxV p (.int 0) h = some (.str y)) (hne : decide (y = x) = false) (q : Ret (ev C k () s h) Φ) : Ret (ev C (.ifs (.tcmp .eq (.idx (.var i) (.int 0)) (.str x)) a .skip k) () s h) Φ := by
  refine r_ifs (r_tcmp (r_idx (r_var e (r_int ⟨_, ep h, r_str ⟨_, eq_str, fun z => ?_, fun _ => r_skip (.inl ⟨rfl, q⟩)⟩⟩))))
  rw [hne] at z; cases z
theorem r_yesI {Φ : Flow × Slots → Hea → Prop} {i : Nat} {p : P} {x : Str} {a k : T .s} (e : s[i]? = some (some p)) (ep : ∀ h, idxV p (.int 0) h = some (.str x)) (q : Ret (ev C a () s h) fun r h => (r.1 = .nx ∧ Ret (ev C k () r.2 h) Φ) ∨ (r.1 ≠ .nx ∧ Φ r h)) : Ret (ev C (.ifs (.tcmp .eq (.idx (.var i) (.int 0)) (.str x)) a .skip k) () s h) Φ := by
  refine r_ifs (r_tcmp (r_idx (r_var e (r_int ⟨_, ep h, r_str ⟨_, eq_str, fun _ => q, fun z => ?_⟩⟩))))
  simp at z
end
theorem ixN_nat {n c : Nat} (h : c < n) : L2.ixN n (c : Int) = some c := by
  unfold L2.ixN
  rw [if_pos (by omega), if_pos (by omega), Int.toNat_natCast]
theorem put_cell {h : Hea} {l : List Int} {c : Nat} {v : Int} : (h ++ [O.lst (l.map P.int)]).set h.length (.lst ((l.map P.int).set c (.int v))) = h ++ [.lst ((l.set c v).map P.int)] := by
  rw [List.set_append_right _ _ (Nat.le_refl _), Nat.sub_self, List.map_set]; rfl
theorem at_cell {h : Hea} {l : List Int} {c : Nat} {v : Int} (e : l[c]? = some v) : idxV (.ref h.length) (.int c) (h ++ [.lst (l.map P.int)]) = some (.int v) := idx_lst (by simp) (atR e)
theorem set_cell {h : Hea} {cur : List Int} {c : Nat} {v : Int} {Φ : Unit → Hea → Prop} (hc : c < cur.length) (q : Φ () (h ++ [.lst ((cur.set c v).map .int)])) : Ret (setV (.ref h.length) (.int c) (.int v) (h ++ [.lst (cur.map .int)])) Φ := by
  refine v_set (xs := cur.map P.int) (by simp) (ixN_nat (by simpa using hc)) ?_
  rw [put_cell]; exact q
def Stp.whens : Stp → Nat
  | .whn _ _ s => s.whens + 1
  | _ => 0
theorem Stp.ok_whens {zs : List Int} : ∀ {w : Nat} {s : Stp}, s.ok zs w → s.whens ≤ w
  | w, .set .., _ => Nat.zero_le _
  | w, .add .., _ => Nat.zero_le _
  | w, .copy .., _ => Nat.zero_le _
  | w, .swap .., _ => Nat.zero_le _
  | 0, .whn .., h => h.elim
  | w + 1, .whn c v s, h => Nat.succ_le_succ (Stp.ok_whens h.2)
structure HasDone (G : Prog) : Prop where
  f17 : G.fn 17 = some w_done
set_option maxHeartbeats 8000000 in
theorem done_spec {G : Prog} (f17 : G.fn 17 = some w_done) {W d : Nat} (hW : 10 < W) {H : Hs} (ok : H.Ok) {k : Nat} {ss : List Stp} (hk : H.rows[k]? = some ss) {l : List Int} (hl : Ct H.zs l) {h : Hea} :
    Ret (callN G W (d + 1) 17 [H.enc, .int k, encR l] h) fun v h' => v = encR (doDeed H.zs ss l) ∧ Grow h h' := by
  rw [call_fn f17]
  refine run_ret rfl ?_
  unfold w_done
  have hss := ok.rows ss (List.mem_of_getElem? hk)
  show Ret (ev (k := .s) _ _ () [some H.enc, some (.int k), some (encR l), none, none, none] h) _
  refine r_asg (r_blt (r_cons (r_var rfl (r_nil (v_listT (r_gnm ?_))))))
  show Ret (ev (k := .s) _ _ () [some H.enc, some (.int k), some (encR l), some (.ref h.length), none, none] (h ++ [.lst (l.map .int)])) _
  refine r_for (r_isq (r_idx ?_))
  array_mem_dec
  refine ⟨.tup (H.rows.map encD), rfl, ?_⟩
  array_mem_dec
  refine ⟨_, at_enc hk, r_walkT ?_⟩
  refine (ret_forL (I := fun i s h1 => h1 = h ++ [.lst ((doDeed H.zs (ss.take i) l).map .int)] ∧ ∃ o4 o5, s = [some H.enc, some (.int k), some (encR l), some (.ref h.length), o4, o5]) _ (fun _ _ _ _ => rfl) ?_ ⟨rfl, _, _, rfl⟩).imp fun r h1 ⟨e, eh, o4, o5, es⟩ => .inl ⟨e, ?_⟩
  · rintro i p s h1 hp ⟨rfl, o4, o5, rfl⟩
    rw [List.getElem?_map, Option.map_eq_some_iff] at hp
    obtain ⟨st, hst, rfl⟩ := hp
    have sok := hss.2 st (List.mem_of_getElem? hst)
    have hc : Ct H.zs (doDeed H.zs (ss.take i) l) := Ct.deed ok.sizes hl fun s hs => hss.2 s (List.mem_of_mem_take hs)
    have et : doDeed H.zs (ss.take (i + 1)) l = doStep H.zs st (doDeed H.zs (ss.take i) l) := by
      have : ss.take (i + 1) = ss.take i ++ [st] := by rw [List.take_add_one, hst]; rfl
      rw [this]
      simp [doDeed]
    rw [et]
    generalize doDeed H.zs (ss.take i) l = cur at hc
    refine Ret.bind (r_gnm ?_)
    refine r_asg (r_var rfl (r_gnm ?_))
    show Ret (ev (k := .s) _ _ () [some H.enc, some (.int k), some (encR l), some (.ref h.length), some st.enc, some st.enc] (h ++ [.lst (cur.map .int)])) _
    refine r_whl (ret_whl (I := fun m s h2 => h2 = h ++ [.lst (cur.map .int)] ∧ ∃ st', s = [some H.enc, some (.int k), some (encR l), some (.ref h.length), some st.enc, some st'.enc] ∧ (∃ w, st'.ok H.zs w) ∧ doStep H.zs st' cur = doStep H.zs st cur ∧ st'.whens = m) ?_ st.whens W _ _ (by have := Stp.ok_whens sok; omega) ⟨rfl, st, rfl, ⟨3, sok⟩, rfl, rfl⟩)
    rintro m s h2 ⟨rfl, st', rfl, ⟨w, o⟩, hd, hm⟩
    cases st' with
    | whn c v s1 =>
      obtain ⟨w, rfl⟩ : ∃ w', w = w' + 1 := by cases w with | zero => exact o.elim | succ w => exact ⟨w, rfl⟩
      obtain ⟨⟨z, hzc, v0, v1⟩, o⟩ := o
      obtain ⟨hcl, hat, _, _⟩ := hc.get hzc
      refine r_tand (r_tcmp (r_idx (r_var rfl (r_int ⟨.str "when", rfl, r_str ⟨_, eq_str, fun _ => ?_, fun q => by simp at q⟩⟩))))
      refine r_tcmp (r_idx (r_var rfl (r_idx (r_var rfl (r_int ⟨.int c, rfl, _, at_cell hat, r_idx (r_var rfl (r_int ⟨.int v, rfl, _, eq_int, fun q => ?_, fun q => ?_⟩))⟩)))))
      · have q := of_decide_eq_true q
        refine ⟨s1.whens, by rw [← hm]; rfl, ?_⟩
        refine r_asg (r_idx (r_var rfl (r_int ⟨s1.enc, rfl, r_gnm (r_skip ⟨rfl, rfl, s1, rfl, ⟨w, o⟩, ?_, rfl⟩)⟩)))
        rw [← hd]
        simp only [doStep, if_pos q]
      · have q := of_decide_eq_false q
        refine .inl ⟨rfl, ?_⟩
        refine r_noI rfl (fun _ => rfl) (by decide +kernel) (r_noI rfl (fun _ => rfl) (by decide +kernel) (r_noI rfl (fun _ => rfl) (by decide +kernel) (r_noI rfl (fun _ => rfl) (by decide +kernel) (r_skip ⟨rfl, ?_, _, _, rfl⟩))))
        rw [← hd]
        simp only [doStep, if_neg q]
    | set c v =>
      have o : ∃ z, H.zs[c]? = some z ∧ 0 ≤ v ∧ v < z := by cases w <;> exact o
      obtain ⟨z, hzc, v0, v1⟩ := o
      obtain ⟨hcl, hat, _, _⟩ := hc.get hzc
      refine r_tand (r_tcmp (r_idx (r_var rfl (r_int ⟨.str "set", rfl, r_str ⟨_, eq_str, fun q => absurd q (by decide +kernel), fun _ => ⟨fun z => (nomatch z), fun _ => .inl ⟨rfl, ?_⟩⟩⟩⟩))))
      refine r_yesI rfl (fun _ => rfl) (r_asg (r_idx (r_var rfl (r_int ⟨.int v, rfl, r_gsub (r_var rfl (r_idx (r_var rfl (r_int ⟨.int c, rfl, set_cell hcl ?_⟩))))⟩))))
      refine r_skip (.inl ⟨rfl, ?_⟩)
      refine r_noI rfl (fun _ => rfl) (by decide +kernel) (r_noI rfl (fun _ => rfl) (by decide +kernel) (r_noI rfl (fun _ => rfl) (by decide +kernel) (r_skip ⟨rfl, ?_, _, _, rfl⟩)))
      rw [← hd]; rfl
    | copy c a =>
      have o : ∃ z, H.zs[c]? = some z ∧ H.zs[a]? = some z ∧ a ≠ c := by cases w <;> exact o
      obtain ⟨z, hzc, hza, hne⟩ := o
      obtain ⟨hcl, hat, _, _⟩ := hc.get hzc
      obtain ⟨hal, haat, _, _⟩ := hc.get hza
      refine r_tand (r_tcmp (r_idx (r_var rfl (r_int ⟨.str "copy", rfl, r_str ⟨_, eq_str, fun q => absurd q (by decide +kernel), fun _ => ⟨fun z => (nomatch z), fun _ => .inl ⟨rfl, ?_⟩⟩⟩⟩))))
      refine r_noI rfl (fun _ => rfl) (by decide +kernel) ?_
      refine r_yesI rfl (fun _ => rfl) (r_asg (r_idx (r_var rfl (r_idx (r_var rfl (r_int ⟨.int a, rfl, _, at_cell haat, r_gsub (r_var rfl (r_idx (r_var rfl (r_int ⟨.int c, rfl, set_cell hcl ?_⟩))))⟩))))))
      refine r_skip (.inl ⟨rfl, ?_⟩)
      refine r_noI rfl (fun _ => rfl) (by decide +kernel) (r_noI rfl (fun _ => rfl) (by decide +kernel) (r_skip ⟨rfl, ?_, _, _, rfl⟩))
      rw [← hd]; rfl
    | swap c a =>
      have o : ∃ z, H.zs[c]? = some z ∧ H.zs[a]? = some z ∧ a ≠ c := by cases w <;> exact o
      obtain ⟨z, hzc, hza, hne⟩ := o
      obtain ⟨hcl, hat, _, _⟩ := hc.get hzc
      obtain ⟨hal, haat, _, _⟩ := hc.get hza
      refine r_tand (r_tcmp (r_idx (r_var rfl (r_int ⟨.str "swap", rfl, r_str ⟨_, eq_str, fun q => absurd q (by decide +kernel), fun _ => ⟨fun z => (nomatch z), fun _ => .inl ⟨rfl, ?_⟩⟩⟩⟩))))
      refine r_noI rfl (fun _ => rfl) (by decide +kernel) (r_noI rfl (fun _ => rfl) (by decide +kernel) ?_)
      refine r_yesI rfl (fun _ => rfl) (r_asg (r_tup (r_cons (r_idx (r_var rfl (r_idx (r_var rfl (r_int ⟨.int a, rfl, _, at_cell haat, ?_⟩))))))))
      refine r_cons (r_idx (r_var rfl (r_idx (r_var rfl (r_int ⟨.int c, rfl, _, at_cell hat, r_nil ⟨by simp [SZ], r_gtup rfl (r_gcons ?_)⟩⟩)))))
      refine r_gsub (r_var rfl (r_idx (r_var rfl (r_int ⟨.int c, rfl, set_cell hcl ?_⟩))))
      refine r_gcons (r_gsub (r_var rfl (r_idx (r_var rfl (r_int ⟨.int a, rfl, set_cell (by simpa using hal) ?_⟩)))))
      refine r_gnil (r_skip (.inl ⟨rfl, ?_⟩))
      refine r_noI rfl (fun _ => rfl) (by decide +kernel) (r_skip ⟨rfl, ?_, _, _, rfl⟩)
      rw [← hd]; rfl
    | add c v =>
      have o : ∃ z, H.zs[c]? = some z ∧ 1 ≤ v ∧ v < z := by cases w <;> exact o
      obtain ⟨z, hzc, v0, v1⟩ := o
      obtain ⟨hcl, hat, c0, c1⟩ := hc.get hzc
      have ez : H.zs.getD c 0 = z := by rw [List.getD_eq_getElem?_getD, hzc]; rfl
      refine r_tand (r_tcmp (r_idx (r_var rfl (r_int ⟨.str "add", rfl, r_str ⟨_, eq_str, fun q => absurd q (by decide +kernel), fun _ => ⟨fun z => (nomatch z), fun _ => .inl ⟨rfl, ?_⟩⟩⟩⟩))))
      refine r_noI rfl (fun _ => rfl) (by decide +kernel) (r_noI rfl (fun _ => rfl) (by decide +kernel) (r_noI rfl (fun _ => rfl) (by decide +kernel) ?_))
      refine r_yesI rfl (fun _ => rfl) (r_asg (r_bin (r_blt (r_cons (r_bin (r_idx (r_var rfl (r_idx (r_var rfl (r_int ⟨.int c, rfl, _, at_cell hat, ?_⟩))))))))))
      refine r_idx (r_var rfl (r_int ⟨.int v, rfl, v_add (r_nil (v_int ?_))⟩))
      refine r_idx (r_idx (r_var rfl (r_int ⟨encR H.zs, rfl, r_idx (r_var rfl (r_int ⟨.int c, rfl, _, atR hzc, v_mod (by omega) ?_⟩))⟩)))
      refine r_gsub (r_var rfl (r_idx (r_var rfl (r_int ⟨.int c, rfl, set_cell hcl ?_⟩))))
      refine r_skip (.inl ⟨rfl, r_skip ⟨rfl, ?_, _, _, rfl⟩⟩)
      rw [← hd]
      simp only [doStep, ez]
  · rw [es]
    subst eh
    simp only [List.length_map, List.take_length]
    exact r_ret (r_blt (r_cons (r_var rfl (r_nil (v_tupL (xs := (doDeed H.zs ss l).map .int) (by simp) ⟨_, rfl, rfl, Grow.push⟩)))))
end Ev

namespace Ev
open PySem Ev.Code
local macro_rules | `(tactic| array_mem_dec) => `(tactic| repeat (first | with_reducible refine r_asg ?_ | with_reducible refine r_bin ?_ | with_reducible refine r_int ?_ | with_reducible refine r_str ?_ | with_reducible refine r_non ?_ | with_reducible refine r_bl ?_ | with_reducible refine r_blt ?_ | with_reducible refine r_call ?_ | with_reducible refine r_cons ?_ | with_reducible refine r_nil ?_ | with_reducible refine v_int ?_ | with_reducible refine v_add ?_ | with_reducible refine v_sub ?_ | with_reducible refine r_gnm ?_ | with_reducible refine r_tcmp ?_ | with_reducible refine r_idx ?_ | with_reducible refine r_gsub ?_ | with_reducible refine r_exp ?_ | with_reducible refine r_ret ?_ | with_reducible refine r_tup ?_ | with_reducible refine v_lenT ?_ | ((with_reducible apply r_var); exact rfl) | with_reducible refine v_mul (by omega) ?_ | with_reducible refine v_mod (by decide) ?_))
theorem pen_gt {h : Hea} {n : Nat} (p : Pen h n) : 2 < h.length := by
  obtain ⟨_, _, _, _, e2, _⟩ := p.ex
  exact (List.getElem?_eq_some_iff.mp e2).1
set_option maxHeartbeats 4000000 in
theorem set_spec {G : Prog} (hP : HasPen G) (f15 : G.fn 15 = some w_contents) (f18 : G.fn 18 = some w_set) {W d n : Nat} {H : Hs} (hz : Sizes H.zs) {h : Hea} (p : Pen h n) (hn : n + 100 < 18446744073709551616) :
    Ret (callN G W (d + 3) 18 [.ref 2, H.enc] h) fun v h' => (∃ cs : List (List Int), v = .tup (cs.map encR) ∧ cs ≠ [] ∧ cs.Sublist (contL H.zs)) ∧ Pen h' (n + 100) ∧ Keep h h' := by
  have hgt := pen_gt p
  obtain ⟨_, _, c0, c64⟩ := cont_ok hz
  rw [call_fn f18]
  refine run_ret rfl ?_
  unfold w_set
  show Ret (ev (k := .s) _ _ () [some (.ref 2), some H.enc, none, none, none] h) _
  refine r_asg (r_call (r_cons (r_var rfl (r_nil ?_))))
  refine (contents_spec f15 (d := d + 1) hz (h := h)).imp fun v h1 ⟨l, e, hle, hl, g⟩ => ?_
  subst e
  have l2 : l ≠ 2 := by omega
  have p1 := g.pen p
  refine r_gnm (r_asg (r_lc (r_isq (r_var rfl (r_walkL hl ?_)))))
  refine (ret_lcL (I := fun i acc h2 => (∃ cs : List (List Int), acc = cs.map encR ∧ cs.Sublist ((contL H.zs).take i)) ∧ Pen h2 (n + i) ∧ Keep h1 h2) _ (by simp [SZ]; omega) (fun i s h2 ⟨_, _, k⟩ => holds1 (k.at_ _ _ l2 hl)) ?_ ⟨⟨[], rfl, by simp⟩, p1, .refl⟩).imp fun vs h2 ⟨⟨⟨cs, e1, hs⟩, p2, k2⟩, hlen⟩ => ?_
  · rintro i q acc h2 hq ⟨⟨cs, rfl, hs⟩, p2, k2⟩
    have hi : i < 64 := by
      have := (List.getElem?_eq_some_iff.mp hq).1
      simp at this; omega
    rw [List.getElem?_map, Option.map_eq_some_iff] at hq
    obtain ⟨c, hci, rfl⟩ := hq
    have et : (contL H.zs).take (i + 1) = (contL H.zs).take i ++ [c] := by rw [List.take_add_one, hci]; rfl
    refine Ret.bind (r_gnm (Ret.bind ?_))
    show Ret (ev (k := .t) _ _ () [some (.ref 2), some H.enc, some (.ref l), none, some (encR c)] h2) _
    array_mem_dec
    refine (draw_spec hP p2 (by omega) (by decide) (by decide +kernel)).imp fun v h3 ⟨⟨x, e, x0, x1⟩, p3, k3⟩ => ?_
    subst e
    array_mem_dec
    refine ⟨_, eq_int, ?_⟩
    cases hx : decide (x = 0) with
    | true =>
      rw [if_pos rfl]
      refine Ret.bind (r_var rfl (.ok ⟨⟨cs ++ [c], by simp, by rw [et]; exact hs.append (.refl _)⟩, p3.mono (by omega), k2.trans k3⟩))
    | false =>
      rw [if_neg (by simp)]
      exact .ok ⟨⟨cs, rfl, by rw [et]; exact hs.trans (List.sublist_append_left _ _)⟩, p3.mono (by omega), k2.trans k3⟩
  · subst e1
    have hs : cs.Sublist (contL H.zs) := by
      simp only [List.length_map, List.take_length] at hs; exact hs
    have hcl := hs.length_le
    have p2' : Pen h2 (n + 64) := p2.mono (by simp; omega)
    refine ⟨by simp [SZ]; omega, r_gnm ?_⟩
    have hgt2 := pen_gt p2'
    generalize hl3 : h2.length = l3 at hgt2
    have p3 := p2'.push (r := [.lst (cs.map encR)])
    have k3 := k2.trans (Keep.push (r := [.lst (cs.map encR)]))
    have a3 : (h2 ++ [.lst (cs.map encR)])[l3]? = some (.lst (cs.map encR)) := by rw [← hl3]; simp
    have a2 := k3.at_ _ _ l2 hl
    show Ret (ev (k := .s) _ _ () [some (.ref 2), some H.enc, some (.ref l), some (.ref l3), none] (h2 ++ [.lst (cs.map encR)])) _
    generalize h2 ++ [O.lst (cs.map encR)] = h3 at p3 k3 a3 a2 ⊢
    have fin : ∀ {h4 : Hea} {l4 : Nat} {cs' : List (List Int)}, h4[l4]? = some (.lst (cs'.map encR)) → cs' ≠ [] → cs'.Sublist (contL H.zs) → Pen h4 (n + 66) → Keep h1 h4 → Ret (bltV .tuple [.ref l4] h4) fun v h' => ∃ w, (Flow.rt v, [some (.ref 2), some H.enc, some (.ref l), some (.ref l3), none]).1 = Flow.rt w ∧ (∃ cs : List (List Int), w = .tup (cs.map encR) ∧ cs ≠ [] ∧ cs.Sublist (contL H.zs)) ∧ Pen h' (n + 100) ∧ Keep h h' := fun {h4 l4 cs'} e hne hsub p4 k4 =>
      v_tupL e ⟨_, rfl, ⟨cs', rfl, hne, hsub⟩, p4.mono (by omega), g.keep.trans k4⟩
    have hcn : contL H.zs ≠ [] := fun z => by rw [z] at c0; simp at c0
    refine r_ret (r_blt (r_cons (r_ife (r_tor (r_tcmp (r_var rfl (r_lst (r_nil ⟨by decide, _, eq_rowsL (xs := cs) (ys := []) ((Grow.push).get a3) (by simp), fun _ => ?_, fun q => ?_⟩))))))))
    · refine ⟨fun _ => r_var rfl (r_nil (fin (Grow.push.get a2) hcn (.refl _) (p3.push.mono (by omega)) (k3.trans Keep.push))), fun z => (nomatch z)⟩
    · have hne := of_decide_eq_false q
      array_mem_dec
      refine (draw_spec hP (p3.push (r := [.lst []])) (by omega) (by decide) (by decide +kernel)).imp fun v h5 ⟨⟨x, e, x0, x1⟩, p5, k5⟩ => ?_
      subst e
      have k5' := (k3.trans Keep.push).trans k5
      array_mem_dec
      refine ⟨_, eq_int, fun _ => r_var rfl (r_nil (fin (k5.at_ _ _ l2 (Grow.push.get a2)) hcn (.refl _) (p5.mono (by omega)) k5')), fun _ => r_var rfl (r_nil (fin (k5.at_ _ _ (by omega) (Grow.push.get a3)) hne hs (p5.mono (by omega)) k5'))⟩
theorem sizesB {L : List (List Int)} (h : L.all (fun zs => decide (0 < zs.length) && decide (zs.length ≤ 3) && zs.all fun z => decide (2 ≤ z) && decide (z ≤ 4)) = true) {zs : List Int} (hz : zs ∈ L) : Sizes zs := by
  have h := List.all_eq_true.mp h zs hz
  simp only [Bool.and_eq_true, decide_eq_true_eq, List.all_eq_true] at h
  exact ⟨h.1.1, h.1.2, fun z hz => h.2 z hz⟩
structure HasSome (G : Prog) : Prop where
  house : HasHouse G
  f14 : G.fn 14 = some w_cells_drawn
  f16 : G.fn 16 = some w_some_house
end Ev

namespace Ev
open PySem Ev.Code
def askL (H : Hs) (c : List Int) : Nat → Nat → List Int × Int
  | 0, _ => ([], 0)
  | n + 1, i => match H.nodes[i]? with
    | some (.look k gs) => ((k : Int) :: (askL H c n (gs.getD (c.getD k 0).toNat 0).toNat).1, (askL H c n (gs.getD (c.getD k 0).toNat 0).toNat).2)
    | some (.ans a) => ([], a)
    | none => ([], 0)
def askQ (H : Hs) (c : List Int) (q : Nat) : List Int × Int := askL H c 12 (H.qs.getD q 0).toNat
theorem Nod.go {H : Hs} (ok : H.Ok) {i k : Nat} {gs c : List Int} (e : H.nodes[i]? = some (.look k gs)) (hc : Ct H.zs c) : c[k]? = some (c.getD k 0) ∧ 0 ≤ c.getD k 0 ∧ gs[(c.getD k 0).toNat]? = some (gs.getD (c.getD k 0).toNat 0) ∧ i < (gs.getD (c.getD k 0).toNat 0).toNat ∧ (gs.getD (c.getD k 0).toNat 0).toNat < H.nodes.length ∧ k < 3 ∧ (((gs.getD (c.getD k 0).toNat 0).toNat : Nat) : Int) = gs.getD (c.getD k 0).toNat 0 := by
  obtain ⟨z, hz, hg, hl⟩ := ok.nodes i _ e
  obtain ⟨_, h2, h3, h4⟩ := hc.get hz
  have hlt : (c.getD k 0).toNat < gs.length := by rw [hl]; omega
  have e2 : gs[(c.getD k 0).toNat]? = some (gs.getD (c.getD k 0).toNat 0) := by
    rw [List.getD_eq_getElem?_getD (l := gs), List.getElem?_eq_getElem hlt]; rfl
  have := hg _ (List.mem_of_getElem? e2)
  have hk := (List.getElem?_eq_some_iff.mp hz).1
  have := ok.sizes.few
  exact ⟨h2, h3, e2, by omega, by omega, by omega, by omega⟩
def sureA (H : Hs) (q : Nat) (cs : List (List Int)) : Option Int := match cs with
  | [] => none
  | c :: r => if r.all (fun x => decide ((askQ H x q).2 = (askQ H c q).2)) then some (askQ H c q).2 else none
end Ev

namespace Ev
open PySem Ev.Code
end Ev

namespace Ev
open PySem Ev.Code
local macro_rules | `(tactic| array_mem_dec) => `(tactic| repeat (first | with_reducible refine r_asg ?_ | with_reducible refine r_bin ?_ | with_reducible refine r_int ?_ | with_reducible refine r_str ?_ | with_reducible refine r_non ?_ | with_reducible refine r_bl ?_ | with_reducible refine r_blt ?_ | with_reducible refine r_call ?_ | with_reducible refine r_cons ?_ | with_reducible refine r_nil ?_ | with_reducible refine v_int ?_ | with_reducible refine v_add ?_ | with_reducible refine v_sub ?_ | with_reducible refine r_gnm ?_ | with_reducible refine r_tcmp ?_ | with_reducible refine r_idx ?_ | with_reducible refine r_gsub ?_ | with_reducible refine r_exp ?_ | with_reducible refine r_ret ?_ | with_reducible refine r_tup ?_ | with_reducible refine v_lenT ?_ | ((with_reducible apply r_var); exact rfl) | with_reducible refine v_mul (by omega) ?_ | with_reducible refine v_mod (by decide) ?_))
end Ev

namespace Ev
open PySem Ev.Code
inductive Itm where
  | deed (k : Nat)
  | perh (k : Nat)
  | stir (c : Nat)
  | saw (c : Nat) (v : Int)
def Itm.enc : Itm → P
  | .deed k => .tup [.str "deed", .int k]
  | .perh k => .tup [.str "perhaps", .int k]
  | .stir c => .tup [.str "stir", .int c]
  | .saw c v => .tup [.str "saw", .int c, .int v]
def Itm.ok (H : Hs) : Itm → Prop
  | .deed k => k < H.rows.length
  | .perh k => k < H.rows.length
  | .stir c => c < H.zs.length
  | .saw c v => c < H.zs.length ∧ 0 ≤ v ∧ v < 64
def stirL (z : Nat) (c : Nat) (cs : List (List Int)) : List (List Int) := cs.flatMap fun r => (List.range z).map fun v : Nat => r.set c (0 + (v : Int))
def behL (H : Hs) : Itm → List (List Int) → List (List Int)
  | .deed k, cs => setL (cs.map (doDeed H.zs (H.rows.getD k [])))
  | .perh k, cs => setL (cs ++ cs.map (doDeed H.zs (H.rows.getD k [])))
  | .stir c, cs => setL (stirL (H.zs.getD c 0).toNat c cs)
  | .saw c v, cs => cs.filter fun r => decide (r.getD c 0 = v)
def leftL (H : Hs) (cs : List (List Int)) (is : List Itm) : List (List Int) := is.foldl (fun cs it => behL H it cs) cs
structure Good (zs : List Int) (cs : List (List Int)) : Prop where
  ct : ∀ c ∈ cs, Ct zs c
  asc : Asc cs
theorem nodup_len {α : Type} [BEq α] [LawfulBEq α] : ∀ {a b : List α}, a.Nodup → (∀ x ∈ a, x ∈ b) → a.length ≤ b.length
  | [], _, _, _ => Nat.zero_le _
  | x :: a, b, n, h => by
    obtain ⟨n1, n2⟩ := List.nodup_cons.mp n
    have hx := h x List.mem_cons_self
    have := nodup_len (a := a) (b := b.erase x) n2 fun y hy => by
      have hne : y ≠ x := fun z => n1 (z ▸ hy)
      exact (List.mem_erase_of_ne hne).mpr (h y (List.mem_cons_of_mem _ hy))
    rw [List.length_erase_of_mem hx] at this
    have := List.length_pos_of_mem hx
    simp only [List.length_cons]; omega
theorem mem_contF : ∀ (zs : List Int) (rows : List (List Int)) (r l : List Int), r ∈ rows → Ct zs l → r ++ l ∈ zs.foldl contN rows
  | [], rows, r, l, hr, hl => by
    have : l = [] := List.length_eq_zero_iff.mp hl.len
    subst this
    simpa using hr
  | z :: zs, rows, r, l, hr, hl => by
    cases l with
    | nil => have := hl.len; simp at this
    | cons v l =>
      have hv := hl.at_ 0 z v rfl rfl
      have hl' : Ct zs l := ⟨by have := hl.len; simpa using this, fun i z v h1 h2 => hl.at_ (i + 1) z v (by simpa using h1) (by simpa using h2)⟩
      have := mem_contF zs (contN rows z) (r ++ [v]) l (by
        unfold contN
        refine List.mem_flatMap.mpr ⟨r, hr, List.mem_map.mpr ⟨v.toNat, List.mem_range.mpr (by omega), ?_⟩⟩
        congr 2; omega) hl'
      simpa using this
theorem mem_contL {zs c : List Int} (h : Ct zs c) : c ∈ contL zs := mem_contF zs [[]] [] c (by simp) h
theorem Good.len {zs : List Int} {cs : List (List Int)} (h : Good zs cs) : cs.length ≤ (contL zs).length := nodup_len h.asc.nodup fun x hx => mem_contL (h.ct x hx)
theorem Good.sub {zs : List Int} {a b : List (List Int)} (h : Good zs b) (s : a.Sublist b) : Good zs a := ⟨fun c hc => h.ct c (s.subset hc), h.asc.sublist s⟩
theorem Good.setL {zs : List Int} {rows : List (List Int)} (h : ∀ r ∈ rows, Ct zs r) : Good zs (setL rows) := ⟨fun c hc => h c (setL_mem.mp hc), setL_asc rows⟩
theorem row_at {H : Hs} {k : Nat} (h : k < H.rows.length) : H.rows[k]? = some (H.rows.getD k []) := by
  rw [List.getD_eq_getElem?_getD, List.getElem?_eq_getElem h]; rfl
theorem zs_at {zs : List Int} {c : Nat} (h : c < zs.length) : zs[c]? = some (zs.getD c 0) := by
  rw [List.getD_eq_getElem?_getD, List.getElem?_eq_getElem h]; rfl
theorem stir_ct {zs : List Int} {cs : List (List Int)} (h : ∀ r ∈ cs, Ct zs r) {c : Nat} {z : Int} (hz : zs[c]? = some z) : ∀ r ∈ stirL z.toNat c cs, Ct zs r := fun r hr => by
  unfold stirL at hr
  obtain ⟨b, hb, hr⟩ := List.mem_flatMap.mp hr
  obtain ⟨v, hv, rfl⟩ := List.mem_map.mp hr
  exact (h b hb).set hz (by omega) (by have := List.mem_range.mp hv; omega)
theorem stir_len {z c : Nat} (hz : z ≤ 4) (cs : List (List Int)) : (stirL z c cs).length ≤ 4 * cs.length := by
  unfold stirL
  induction cs with
  | nil => simp
  | cons r cs ih =>
    simp only [List.flatMap_cons, List.length_append, List.length_map, List.length_range, List.length_cons]; omega
theorem behL_good {H : Hs} (ok : H.Ok) {it : Itm} (hi : it.ok H) {cs : List (List Int)} (g : Good H.zs cs) : Good H.zs (behL H it cs) := by
  have hd : ∀ k, k < H.rows.length → ∀ r ∈ cs.map (doDeed H.zs (H.rows.getD k [])), Ct H.zs r := fun k hk r hr => by
    obtain ⟨c, hc, rfl⟩ := List.mem_map.mp hr
    exact Ct.deed ok.sizes (g.ct c hc) (ok.rows _ (List.mem_of_getElem? (row_at hk))).2
  cases it with
  | deed k => exact Good.setL (hd k hi)
  | perh k =>
    refine Good.setL fun r hr => ?_
    rcases List.mem_append.mp hr with hr | hr
    · exact g.ct r hr
    · exact hd k hi r hr
  | stir c => exact Good.setL (stir_ct g.ct (zs_at hi))
  | saw c v => exact g.sub List.filter_sublist
theorem leftL_good {H : Hs} (ok : H.Ok) : ∀ {is : List Itm} {cs : List (List Int)}, (∀ it ∈ is, it.ok H) → Good H.zs cs → Good H.zs (leftL H cs is)
  | [], cs, _, g => g
  | it :: is, cs, h, g => leftL_good ok (is := is) (fun x hx => h x (List.mem_cons_of_mem _ hx)) (behL_good ok (h it List.mem_cons_self) g)
theorem leftL_snoc {H : Hs} {cs : List (List Int)} {is : List Itm} {it : Itm} : leftL H cs (is ++ [it]) = behL H it (leftL H cs is) := by simp [leftL]
structure HasSets (G : Prog) : Prop where
  deeds : HasDeeds G
  f12 : G.fn 12 = some f_as_set
  f19 : G.fn 19 = some f_image
  f27 : G.fn 27 = some f_maybe
  f28 : G.fn 28 = some f_stirred
theorem maybe_spec {G : Prog} (hG : HasSets G) {W d : Nat} {H : Hs} (ok : H.Ok) {k : Nat} (hk : k < H.rows.length) {cs : List (List Int)} (hc : ∀ c ∈ cs, Ct H.zs c) (hl : cs.length ≤ 100) {h : Hea} :
    Ret (callN G W (d + 8) 27 [H.enc, .int k, .tup (cs.map encR)] h) fun v h' => v = .tup ((behL H (.perh k) cs).map encR) ∧ Grow h h' := by
  rw [call_fn hG.f27]
  refine run_ret rfl ?_
  unfold f_maybe
  have hd : ∀ r ∈ cs.map (doDeed H.zs (H.rows.getD k [])), Ct H.zs r := fun r hr => by
    obtain ⟨c, hc', rfl⟩ := List.mem_map.mp hr
    exact Ct.deed ok.sizes (hc c hc') (ok.rows _ (List.mem_of_getElem? (row_at hk))).2
  show Ret (ev (k := .s) _ _ () [some H.enc, some (.int k), some (.tup (cs.map encR))] h) _
  refine r_ret (r_call (r_cons (r_bin (r_var rfl (r_call (r_cons (r_var rfl (r_cons (r_var rfl (r_cons (r_var rfl (r_nil ?_))))))))))))
  refine (image_spec hG.deeds hG.f12 hG.f19 (d := d) ok (row_at hk) hc hl).imp fun v h1 ⟨e, g⟩ => ?_
  subst e
  have hsl := setL_len (rows := cs.map (doDeed H.zs (H.rows.getD k [])))
  rw [List.length_map] at hsl
  refine v_cat (by simp only [List.length_map, SZ]; omega) (r_nil ?_)
  rw [← List.map_append]
  have hall : ∀ r ∈ cs ++ setL (cs.map (doDeed H.zs (H.rows.getD k []))), Ct H.zs r := fun r hr => by
    rcases List.mem_append.mp hr with hr | hr
    · exact hc r hr
    · exact hd r (setL_mem.mp hr)
  refine (as_set_spec hG.f12 (d := d + 6) (.inl rfl) (fun r hr => ct_ne ok.sizes (hall r hr)) (by simp only [List.length_append]; omega)).imp fun v h2 ⟨e, g2⟩ => ⟨_, rfl, ?_, g.trans g2⟩
  rw [e]
  show _ = P.tup ((setL (cs ++ cs.map (doDeed H.zs (H.rows.getD k [])))).map encR)
  rw [setL_eq (a := cs ++ setL (cs.map (doDeed H.zs (H.rows.getD k [])))) (b := cs ++ cs.map (doDeed H.zs (H.rows.getD k [])))]
  intro x
  simp only [List.mem_append, setL_mem]
set_option maxHeartbeats 4000000 in
theorem stirred_spec {G : Prog} (hG : HasSets G) {W d : Nat} {H : Hs} (ok : H.Ok) {c : Nat} (hk : c < H.zs.length) {cs : List (List Int)} (hc : ∀ c ∈ cs, Ct H.zs c) (hl : cs.length ≤ 100) {h : Hea} :
    Ret (callN G W (d + 8) 28 [H.enc, .int c, .tup (cs.map encR)] h) fun v h' => v = .tup ((behL H (.stir c) cs).map encR) ∧ Grow h h' := by
  rw [call_fn hG.f28]
  refine run_ret rfl ?_
  unfold f_stirred
  have hzc := zs_at hk
  have hz4 := ok.sizes.at_ _ (List.mem_of_getElem? hzc)
  have hz3 := ok.sizes.few
  generalize hz : H.zs.getD c 0 = z at hzc hz4
  show Ret (ev (k := .s) _ _ () [some H.enc, some (.int c), some (.tup (cs.map encR)), none, none, none] h) _
  refine r_asg (r_lst (r_nil ⟨by simp, r_gnm (r_for (r_isq (r_var rfl (r_walkT ?_))))⟩))
  generalize hla : h.length = la
  refine (ret_forL (I := fun i s h1 => ∃ o4 o5, s = [some H.enc, some (.int c), some (.tup (cs.map encR)), some (.ref la), o4, o5] ∧ h1[la]? = some (.lst ((stirL z.toNat c (cs.take i)).map encR)) ∧ Grow h h1) _ (fun _ _ _ _ => rfl) ?_ ⟨none, none, rfl, by rw [← hla]; simp [stirL], Grow.push⟩).imp fun r h1 ⟨e, o4, o5, es, ha, g⟩ => .inl ⟨e, ?_⟩
  · rintro i p s h1 hp ⟨o4, o5, rfl, ha, g⟩
    rw [List.getElem?_map, Option.map_eq_some_iff] at hp
    obtain ⟨r, hri, rfl⟩ := hp
    have hr := hc r (List.mem_of_getElem? hri)
    have hil : (cs.take i).length ≤ 100 := by rw [List.length_take]; omega
    have hsl := stir_len (z := z.toNat) (c := c) (by omega) (cs.take i)
    refine Ret.bind (r_gnm (r_exp (r_bmt (r_var rfl ⟨rcv_extend ha, r_cons (r_lc (r_irng (r_idx (r_idx (r_var rfl (r_int ⟨encR H.zs, rfl, r_var rfl ⟨.int z, atR hzc, z, rfl, by omega, by omega, ?_⟩⟩))))))⟩))))
    refine (ret_lcL (I := fun j acc h2 => h2 = h1 ∧ acc = ((List.range j).map fun v : Nat => r.set c (0 + (v : Int))).map encR) _ (by simp [SZ]; omega) (fun _ _ _ _ => rfl) ?_ ⟨rfl, rfl⟩).imp fun vs h2 ⟨⟨e1, e2⟩, hlen⟩ => ?_
    · rintro j p acc h2 hp ⟨rfl, rfl⟩
      obtain ⟨hj, rfl⟩ := range_item hp
      refine Ret.bind (r_gnm (Ret.bind (r_ttrue ?_)))
      rw [if_pos rfl]
      refine Ret.bind (r_call (r_cons (r_var rfl (r_cons (r_var rfl (r_cons (r_var rfl (r_nil ?_))))))))
      refine (with_value_spec hG.deeds (d := d + 6) (l := r) (c := c) (v := 0 + (j : Int)) (by rw [hr.len]; exact hk) (by rw [hr.len]; exact hz3)).imp fun v h3 ⟨e1, e2⟩ => ?_
      subst e1 e2
      refine .ok ⟨rfl, ?_⟩
      rw [List.range_succ]; simp
    subst e1 e2
    simp only [List.length_map, List.length_range] at hlen ⊢
    refine ⟨by simp [SZ]; omega, r_nil ?_⟩
    refine v_extend (m := h2.length) (ys := ((List.range z.toNat).map fun v : Nat => r.set c (0 + (v : Int))).map encR) (Grow.push.get ha) (by simp) (by simp only [List.length_map, List.length_range, SZ]; omega) (r_skip ⟨rfl, _, _, rfl, ?_, (g.trans Grow.push).set (by omega) _⟩)
    rw [List.getElem?_set_self (List.getElem?_eq_some_iff.mp (Grow.push.get ha)).1, List.take_add_one, hri]
    simp [stirL]
  · rw [es]
    simp only [List.length_map, List.take_length] at ha
    refine r_ret (r_call (r_cons (r_var rfl (r_nil ?_))))
    have hsl := stir_len (z := z.toNat) (c := c) (by omega) cs
    refine (as_set_spec hG.f12 (d := d + 6) (.inr ⟨la, rfl, ha⟩) (fun r hr => ct_ne ok.sizes (stir_ct hc hzc r hr)) (by omega)).imp fun v h2 ⟨e, g2⟩ => ⟨_, rfl, ?_, g.trans g2⟩
    rw [e]
    show _ = P.tup ((setL (stirL (H.zs.getD c 0).toNat c cs)).map encR)
    rw [hz]
theorem saw_lc {C : Cfg} {H : Hs} (ok : H.Ok) {cs : List (List Int)} (hc : ∀ r ∈ cs, Ct H.zs r) (hl : cs.length ≤ 100) {c : Nat} {v : Int} (hi : (Itm.saw c v).ok H) {s : Slots} {h : Hea} {j4 j6 j1 : Nat} (e1 : s[j1]? = some (some (.tup (cs.map encR)))) (hs : ∀ r : P, ((wipe s [j6]).set j6 (some r))[j6]? = some (some r) ∧ ((wipe s [j6]).set j6 (some r))[j4]? = some (some (Itm.saw c v).enc)) {Φ : P → Hea → Prop}
    (q : Φ (.ref h.length) (h ++ [.lst ((behL H (.saw c v) cs).map encR)])) : Ret (ev C (.lc [j6] (.var j6) (.gnm j6) (.isq (.var j1)) (.tcmp .eq (.idx (.var j6) (.idx (.var j4) (.int 1))) (.idx (.var j4) (.int 2)))) () s h) Φ := by
  refine r_lc (r_isq (r_var e1 (r_walkT ?_)))
  refine (ret_lcL (I := fun i acc h1 => h1 = h ∧ acc = (behL H (.saw c v) (cs.take i)).map encR) _ (by simp [SZ]; omega) (fun _ _ _ _ => rfl) ?_ ⟨rfl, rfl⟩).imp fun vs h1 ⟨⟨e1, e2⟩, hlen⟩ => ?_
  · rintro i p acc h1 hp ⟨rfl, rfl⟩
    rw [List.getElem?_map, Option.map_eq_some_iff] at hp
    obtain ⟨r, hr, rfl⟩ := hp
    obtain ⟨a1, a2⟩ := hs (encR r)
    obtain ⟨_, hat, _, _⟩ := (hc r (List.mem_of_getElem? hr)).get (zs_at hi.1)
    have et : behL H (.saw c v) (cs.take (i + 1)) = behL H (.saw c v) (cs.take i) ++ (if decide (r.getD c 0 = v) = true then [r] else []) := by
      show List.filter _ _ = List.filter _ _ ++ _
      rw [List.take_add_one, hr, List.filter_append]
      congr 1
      show List.filter (fun r => decide (r.getD c 0 = v)) [r] = _
      rw [List.filter_cons]
      cases decide (r.getD c 0 = v) <;> rfl
    refine Ret.bind (r_gnm (Ret.bind (r_tcmp (r_idx (r_var a1 (r_idx (r_var a2 (r_int ⟨.int c, rfl, _, atR hat, r_idx (r_var a2 (r_int ⟨.int v, rfl, _, eq_int, ?_⟩))⟩))))))))
    rw [et]
    cases hx : decide (r.getD c 0 = v) with
    | true =>
      rw [if_pos rfl]
      exact Ret.bind (r_var a1 (.ok ⟨rfl, by simp⟩))
    | false =>
      rw [if_neg (by simp)]
      exact .ok ⟨rfl, by simp⟩
  subst e1 e2
  simp only [List.length_map, List.take_length] at hlen ⊢
  exact ⟨by simp [SZ]; omega, q⟩
structure HasKnown (G : Prog) : Prop where
  sets : HasSets G
  f29 : G.fn 29 = some f_left_behind
  f32 : G.fn 32 = some f_known_after
set_option maxHeartbeats 4000000 in
theorem left_behind_specS {G : Prog} (hS : HasSets G) (f29 : G.fn 29 = some f_left_behind) {W d : Nat} {H : Hs} (ok : H.Ok) {it : Itm} (hi : it.ok H) {cs : List (List Int)} (hc : ∀ c ∈ cs, Ct H.zs c) (hl : cs.length ≤ 100) {h : Hea} :
    Ret (callN G W (d + 9) 29 [H.enc, .tup (cs.map encR), it.enc] h) fun v h' => v = .tup ((behL H it cs).map encR) ∧ Grow h h' := by
  rw [call_fn f29]
  refine run_ret rfl ?_
  unfold f_left_behind
  show Ret (ev (k := .s) _ _ () [some H.enc, some (.tup (cs.map encR)), some it.enc, none] h) _
  cases it with
  | saw c v =>
    refine r_yesI rfl (fun _ => rfl) (r_ret (r_blt (r_cons (saw_lc ok hc hl hi rfl (fun r => ⟨rfl, rfl⟩) (r_nil (v_tupL (xs := (behL H (.saw c v) cs).map encR) (by simp) (.inr ⟨by simp, _, rfl, rfl, Grow.push⟩)))))))
  | deed k =>
    refine r_noI rfl (fun _ => rfl) (by decide +kernel) (r_yesI rfl (fun _ => rfl) (r_ret (r_call (r_cons (r_var rfl (r_cons (r_idx (r_var rfl (r_int ⟨.int k, rfl, r_cons (r_var rfl (r_nil ?_))⟩)))))))))
    refine (image_spec hS.deeds hS.f12 hS.f19 (d := d + 1) ok (row_at hi) hc hl).imp fun v h1 ⟨e, g⟩ => .inr ⟨by simp, _, rfl, e, g⟩
  | perh k =>
    refine r_noI rfl (fun _ => rfl) (by decide +kernel) (r_noI rfl (fun _ => rfl) (by decide +kernel) (r_yesI rfl (fun _ => rfl) (r_ret (r_call (r_cons (r_var rfl (r_cons (r_idx (r_var rfl (r_int ⟨.int k, rfl, r_cons (r_var rfl (r_nil ?_))⟩))))))))))
    refine (maybe_spec hS (d := d) ok hi hc hl).imp fun v h1 ⟨e, g⟩ => .inr ⟨by simp, _, rfl, e, g⟩
  | stir c =>
    refine r_noI rfl (fun _ => rfl) (by decide +kernel) (r_noI rfl (fun _ => rfl) (by decide +kernel) (r_noI rfl (fun _ => rfl) (by decide +kernel) (r_ret (r_ife (r_tcmp (r_idx (r_var rfl (r_int ⟨.str "stir", rfl, r_str ⟨_, eq_str, fun _ => ?_, fun z => by simp at z⟩⟩))))))))
    refine r_call (r_cons (r_var rfl (r_cons (r_idx (r_var rfl (r_int ⟨.int c, rfl, r_cons (r_var rfl (r_nil ?_))⟩))))))
    refine (stirred_spec hS (d := d) ok hi hc hl).imp fun v h1 ⟨e, g⟩ => ⟨_, rfl, e, g⟩
theorem left_behind_spec {G : Prog} (hG : HasKnown G) {W d : Nat} {H : Hs} (ok : H.Ok) {it : Itm} (hi : it.ok H) {cs : List (List Int)} (hc : ∀ c ∈ cs, Ct H.zs c) (hl : cs.length ≤ 100) {h : Hea} :
    Ret (callN G W (d + 9) 29 [H.enc, .tup (cs.map encR), it.enc] h) fun v h' => v = .tup ((behL H it cs).map encR) ∧ Grow h h' := left_behind_specS (d := d) hG.sets hG.f29 ok hi hc hl
theorem known_after_spec {G : Prog} (hG : HasKnown G) {W d : Nat} {H : Hs} (ok : H.Ok) (h8 : (contL H.zs).length ≤ 8) {is : List Itm} (hi : ∀ it ∈ is, it.ok H) {cs : List (List Int)} (hc : Good H.zs cs) {h : Hea} :
    Ret (callN G W (d + 10) 32 [H.enc, .tup (cs.map encR), .tup (is.map Itm.enc)] h) fun v h' => v = .tup ((leftL H cs is).map encR) ∧ Grow h h' := by
  rw [call_fn hG.f32]
  refine run_ret rfl ?_
  unfold f_known_after
  show Ret (ev (k := .s) _ _ () [some H.enc, some (.tup (cs.map encR)), some (.tup (is.map Itm.enc)), none] h) _
  refine r_for (r_isq (r_var rfl (r_walkT ?_)))
  refine (ret_forL (I := fun i s h1 => (∃ o3, s = [some H.enc, some (.tup ((leftL H cs (is.take i)).map encR)), some (.tup (is.map Itm.enc)), o3]) ∧ Grow h h1) _ (fun _ _ _ _ => rfl) ?_ ⟨⟨none, rfl⟩, .refl⟩).imp fun r h1 ⟨e, ⟨o3, es⟩, g⟩ => .inl ⟨e, ?_⟩
  · rintro i p s h1 hp ⟨⟨o3, rfl⟩, g⟩
    rw [List.getElem?_map, Option.map_eq_some_iff] at hp
    obtain ⟨it, hit, rfl⟩ := hp
    have gd : Good H.zs (leftL H cs (is.take i)) := leftL_good ok (fun x hx => hi x (List.mem_of_mem_take hx)) hc
    have := gd.len
    refine Ret.bind (r_gnm (r_asg (r_call (r_cons (r_var rfl (r_cons (r_var rfl (r_cons (r_var rfl (r_nil ?_))))))))))
    refine (left_behind_spec hG (d := d) ok (hi it (List.mem_of_getElem? hit)) gd.ct (by omega)).imp fun v h2 ⟨e, g2⟩ => ?_
    subst e
    refine r_gnm (r_skip ⟨rfl, ⟨some it.enc, ?_⟩, g.trans g2⟩)
    rw [List.take_add_one, hit]
    show _ = [some H.enc, some (.tup ((leftL H cs (is.take i ++ [it])).map encR)), _, _]
    rw [leftL_snoc]; rfl
  · rw [es]
    rw [List.length_map, List.take_length]
    exact r_ret (r_var rfl ⟨_, rfl, rfl, g⟩)
end Ev

namespace Ev
open PySem
mutual
def plnP : Nat → P → Bool
  | _, .non => true
  | _, .int _ => true
  | _, .str x => PyData.canLay0 (.str x)
  | n + 1, .tup ps => plnPs n ps
  | _, _ => false
def plnPs : Nat → List P → Bool
  | _, [] => true
  | n, p :: ps => plnP n p && plnPs n ps
end
theorem plnPs_all {n : Nat} : ∀ {ps : List P}, plnPs n ps = true ↔ ∀ p ∈ ps, plnP n p = true
  | [] => by simp [plnPs]
  | p :: ps => by simp [plnPs, plnPs_all (ps := ps)]
mutual
def datP : P → PyData
  | .int i => .int i
  | .str x => .str x
  | .tup ps => .tuple (datPs ps)
  | _ => .none
def datPs : List P → List PyData
  | [] => []
  | p :: ps => datP p :: datPs ps
end
mutual
theorem datP_ok (f : Nat → Option PyData) : ∀ (n : Nat) (p : P), plnP n p = true → dataW f p = some (datP p) ∧ (datP p).canLay0 = true ∧ (datP p).depth ≤ n
  | n, .non, _ => ⟨by simp [dataW, datP], rfl, by simp [datP, PyData.depth]⟩
  | n, .int i, _ => ⟨by simp [dataW, datP], rfl, by simp [datP, PyData.depth]⟩
  | n, .str x, h => ⟨by simp [dataW, datP], by simpa [plnP, datP] using h, by simp [datP, PyData.depth]⟩
  | 0, .tup ps, h => by simp [plnP] at h
  | n + 1, .tup ps, h => by
    simp only [plnP] at h
    obtain ⟨a, b, c⟩ := datPs_ok f n ps h
    refine ⟨by simp only [dataW, a, datP]; rfl, by simp only [datP, PyData.canLay0]; exact b, by simp only [datP, PyData.depth]; omega⟩
  | n, .bl _, h => by cases n <;> simp [plnP] at h
  | n, .ty _, h => by cases n <;> simp [plnP] at h
  | n, .ref _, h => by cases n <;> simp [plnP] at h
  | n, .gl _, h => by cases n <;> simp [plnP] at h
  | n, .kls _, h => by cases n <;> simp [plnP] at h
theorem datPs_ok (f : Nat → Option PyData) : ∀ (n : Nat) (ps : List P), plnPs n ps = true → dataWs f ps = some (datPs ps) ∧ PyData.canLayAll0 (datPs ps) = true ∧ PyData.depthAll (datPs ps) ≤ n
  | n, [], _ => ⟨rfl, rfl, Nat.zero_le _⟩
  | n, p :: ps, h => by
    simp only [plnPs, Bool.and_eq_true] at h
    obtain ⟨a, b, c⟩ := datP_ok f n p h.1
    obtain ⟨a2, b2, c2⟩ := datPs_ok f n ps h.2
    refine ⟨by simp only [dataWs, a, a2, datPs]; rfl, by simp only [datPs, PyData.canLayAll0, b, b2]; rfl, by simp only [datPs, PyData.depthAll]; omega⟩
end
mutual
theorem eqvP : ∀ (n : Nat) (p q : P), plnP n p = true → plnP n q = true → PyData.eqv (datP p) (datP q) = decide (p = q)
  | n, .non, q, _, hq => by cases n <;> cases q <;> simp_all [plnP, datP, PyData.eqv]
  | n, .int i, q, _, hq => by
    cases n <;> cases q <;> first | (simp [plnP] at hq; done) | (simp [datP, PyData.eqv]; done) | (simp [datP, PyData.eqv]; rw [Bool.eq_iff_iff]; simp)
  | n, .str x, q, _, hq => by
    cases n <;> cases q <;> first | (simp [plnP] at hq; done) | (simp [datP, PyData.eqv]; done) | (simp [datP, PyData.eqv]; rw [Bool.eq_iff_iff]; simp)
  | 0, .tup ps, q, h, _ => by simp [plnP] at h
  | n + 1, .tup ps, q, h, hq => by
    cases q with
    | tup qs =>
      simp only [plnP] at h hq
      simp only [datP, PyData.eqv, eqvPs n ps qs h hq]
      rw [Bool.eq_iff_iff]; simp
    | _ => simp_all [plnP, datP, PyData.eqv]
  | n, .bl _, _, h, _ => by cases n <;> simp [plnP] at h
  | n, .ty _, _, h, _ => by cases n <;> simp [plnP] at h
  | n, .ref _, _, h, _ => by cases n <;> simp [plnP] at h
  | n, .gl _, _, h, _ => by cases n <;> simp [plnP] at h
  | n, .kls _, _, h, _ => by cases n <;> simp [plnP] at h
theorem eqvPs : ∀ (n : Nat) (ps qs : List P), plnPs n ps = true → plnPs n qs = true → PyData.eqvAll (datPs ps) (datPs qs) = decide (ps = qs)
  | n, [], [], _, _ => rfl
  | n, [], q :: qs, _, _ => by simp [datPs, PyData.eqvAll]
  | n, p :: ps, [], _, _ => by simp [datPs, PyData.eqvAll]
  | n, p :: ps, q :: qs, h, hq => by
    simp only [plnPs, Bool.and_eq_true] at h hq
    simp only [datPs, PyData.eqvAll, eqvP n p q h.1 hq.1, eqvPs n ps qs h.2 hq.2]
    rw [Bool.eq_iff_iff]; simp
end
theorem pln_shaped {n : Nat} (hn : n ≤ 60) {p : P} (h : plnP n p = true) : SeqAt.shaped (datP p) = true := by
  obtain ⟨_, b, c⟩ := datP_ok (fun _ => none) n p h
  simp only [SeqAt.shaped, b, Bool.true_and, decide_eq_true_eq]; omega
theorem pln_shapedL {n : Nat} (hn : n ≤ 60) {ps : List P} (h : plnPs n ps = true) : SeqAt.shaped (.list (datPs ps)) = true := by
  obtain ⟨_, b, c⟩ := datPs_ok (fun _ => none) n ps h
  have e : (PyData.list (datPs ps)).depth = PyData.depthAll (datPs ps) + 1 := by simp [PyData.depth, Nat.add_comm]
  simp only [SeqAt.shaped, PyData.canLay0, b, Bool.true_and, decide_eq_true_eq, e]; omega
theorem data_pln {n : Nat} {p : P} (h : plnP n p = true) {g : Hea} : dataOf g p = some (datP p) := (datP_ok _ n p h).1
theorem data_plnL {n : Nat} {ps : List P} (h : plnPs n ps = true) {g : Hea} {l : Nat} (e : g[l]? = some (.lst ps)) : dataOf g (.ref l) = some (.list (datPs ps)) := by
  unfold dataOf dataW locData
  simp only [e]
  rw [(datPs_ok _ n ps h).1]; rfl
theorem eqV_eqD {g : Hea} {p q : P} (h : (∃ a, p = .str a) → (∃ b, q = .str b) → False) : eqV g p q = eqD g p q := by
  unfold eqV
  cases p <;> cases q <;> first | rfl | exact (h ⟨_, rfl⟩ ⟨_, rfl⟩).elim
theorem eqD_pln {n : Nat} (hn : n ≤ 60) {p q : P} (h : plnP n p = true) (hq : plnP n q = true) {g : Hea} : eqD g p q = some (decide (p = q)) := by
  unfold eqD
  rw [data_pln h, data_pln hq]
  simp only [Option.bind_some, pln_shaped hn h, pln_shaped hn hq, Bool.and_self, if_true, eqvP n p q h hq]
theorem eq_pln {n : Nat} (hn : n ≤ 60) {p q : P} (h : plnP n p = true) (hq : plnP n q = true) {g : Hea} : cmpV .eq p q g = some (decide (p = q)) := by
  show eqV g p q = _
  by_cases hs : (∃ a, p = .str a) ∧ (∃ b, q = .str b)
  · obtain ⟨⟨a, rfl⟩, ⟨b, rfl⟩⟩ := hs
    show some (decide (a = b)) = _
    congr 1
    rw [Bool.eq_iff_iff]; simp
  · rw [eqV_eqD fun a b => hs ⟨a, b⟩]
    exact eqD_pln hn h hq
theorem ne_pln {n : Nat} (hn : n ≤ 60) {p q : P} (h : plnP n p = true) (hq : plnP n q = true) {g : Hea} : cmpV .ne p q g = some (!decide (p = q)) := by
  show (cmpV .eq p q g).map _ = _
  rw [eq_pln hn h hq]; rfl
theorem eq_plnL {n : Nat} (hn : n ≤ 60) {ps qs : List P} {a b : Nat} {g : Hea} (ea : g[a]? = some (.lst ps)) (eb : g[b]? = some (.lst qs)) (h : plnPs n ps = true) (hq : plnPs n qs = true) : cmpV .eq (.ref a) (.ref b) g = some (decide (ps = qs)) := by
  show eqD g _ _ = _
  unfold eqD
  rw [data_plnL h ea, data_plnL hq eb]
  simp only [Option.bind_some, pln_shapedL hn h, pln_shapedL hn hq, Bool.and_self, if_true, PyData.eqv, eqvPs n ps qs h hq]
theorem ne_plnL {n : Nat} (hn : n ≤ 60) {ps qs : List P} {a b : Nat} {g : Hea} (ea : g[a]? = some (.lst ps)) (eb : g[b]? = some (.lst qs)) (h : plnPs n ps = true) (hq : plnPs n qs = true) : cmpV .ne (.ref a) (.ref b) g = some (!decide (ps = qs)) := by
  show (cmpV .eq (.ref a) (.ref b) g).map _ = _
  rw [eq_plnL hn ea eb h hq]; rfl
theorem any_pln {n : Nat} {x : P} (hx : plnP n x = true) : ∀ {ys : List P}, plnPs n ys = true → (datPs ys).any (fun e => PyData.eqv e (datP x)) = decide (x ∈ ys)
  | [], _ => by simp [datPs]
  | y :: ys, h => by
    simp only [plnPs, Bool.and_eq_true] at h
    simp only [datPs, List.any_cons, any_pln hx h.2, eqvP n y x h.1 hx]
    rw [Bool.eq_iff_iff]
    simp only [Bool.or_eq_true, decide_eq_true_eq, List.mem_cons]
    exact ⟨fun h => h.imp Eq.symm id, fun h => h.imp Eq.symm id⟩
theorem inD_pln {n : Nat} (hn : n ≤ 60) {x : P} {ys : List P} (hx : plnP n x = true) (hy : plnPs n ys = true) {g : Hea} : inD g x ys = some (decide (x ∈ ys)) := by
  unfold inD dataOfs
  rw [data_pln hx, (datPs_ok _ n ys hy).1]
  simp only [Option.bind_some, pln_shaped hn hx, pln_shapedL hn hy, Bool.and_self, if_true, any_pln hx hy]
theorem pln_ints (l : List Int) : plnP 1 (encR l) = true := by
  simp only [plnP]
  rw [plnPs_all]
  intro p hp
  obtain ⟨i, _, rfl⟩ := List.mem_map.mp hp
  rfl
theorem pln_rows (l : List (List Int)) : plnPs 1 (l.map encR) = true := by
  rw [plnPs_all]
  intro p hp
  obtain ⟨i, _, rfl⟩ := List.mem_map.mp hp
  exact pln_ints i
theorem pln_tup {n : Nat} {ps : List P} (h : ∀ p ∈ ps, plnP n p = true) : plnP (n + 1) (.tup ps) = true := by
  simp only [plnP]
  rwa [plnPs_all]
end Ev

namespace Ev
open PySem Ev.Code
def Itm.isSaw : Itm → Bool
  | .saw _ _ => true
  | _ => false
structure HasLeft (G : Prog) : Prop where
  f17 : G.fn 17 = some w_done
  f30 : G.fn 30 = some w_behind
  f33 : G.fn 33 = some w_left
end Ev

namespace Ev
open PySem Ev.Code
theorem pln_stp {zs : List Int} : ∀ {w : Nat} {s : Stp}, s.ok zs w → plnP (w + 1) s.enc = true := by
  intro w s
  induction s generalizing w with
  | set c v => intro _; simp only [Stp.enc, plnP, plnPs]; decide +kernel
  | add c v => intro _; simp only [Stp.enc, plnP, plnPs]; decide +kernel
  | copy c d => intro _; simp only [Stp.enc, plnP, plnPs]; decide +kernel
  | swap c d => intro _; simp only [Stp.enc, plnP, plnPs]; decide +kernel
  | whn c v s ih =>
    intro h
    cases w with
    | zero => exact h.elim
    | succ w =>
      have := ih h.2
      simp only [Stp.enc, plnP, plnPs, this]
      decide +kernel
theorem pln_rowsD {H : Hs} (ok : H.Ok) : plnPs 5 (H.rows.map encD) = true := by
  rw [plnPs_all]
  intro p hp
  obtain ⟨ss, hs, rfl⟩ := List.mem_map.mp hp
  refine pln_tup fun q hq => ?_
  obtain ⟨s, hs', rfl⟩ := List.mem_map.mp hq
  exact pln_stp ((ok.rows ss hs).2 s hs')
theorem ne_nilP {xs : List P} {n : Nat} (hn : n ≤ 50) (h : plnPs n xs = true) {g : Hea} : cmpV .ne (.tup xs) (.tup []) g = some (!decide (xs = [])) := by
  rw [ne_pln (n := n + 1) (by omega) (p := .tup xs) (q := .tup []) (by simpa only [plnP] using h) rfl]
  congr 2
  rw [Bool.eq_iff_iff]; simp
set_option maxHeartbeats 8000000 in
theorem events_spec {G : Prog} (hP : HasPen G) (f31 : G.fn 31 = some w_events) {W d n : Nat} {H : Hs} (ok : H.Ok) {h : Hea} {m : Nat} (p : Pen h n) (hn : n + 1000 < 18446744073709551616) (hm : m ≤ 30) :
    Ret (callN G W (d + 3) 31 [.ref 2, H.enc, .int m] h) fun v h' => (∃ is : List Itm, v = .tup (is.map Itm.enc) ∧ is.length ≤ m ∧ ∀ it ∈ is, it.ok H) ∧ Pen h' (n + 100) ∧ Keep h h' := by
  have bz : ∀ z : Int, 0 ≤ z → z < 64 → bits z < 9000 := fun z h0 h1 => Nat.lt_of_le_of_lt (bitsLt (n := 6) (by omega)) (by decide)
  have hgt := pen_gt p
  have hz3 := ok.sizes.few
  have hz0 := ok.sizes.ne
  have hr6 := ok.rows6
  rw [call_fn f31]
  refine run_ret rfl ?_
  unfold w_events
  show Ret (ev (k := .s) _ _ () [some (.ref 2), some H.enc, some (.int m), none, none, none, none] h) _
  refine r_asg (r_lst (r_nil ⟨by simp, r_gnm (r_for (r_irng (r_call (r_cons (r_var rfl (r_cons (r_bin (r_var rfl (r_int (v_add (r_nil ?_)))))))))))⟩))
  have p' := p.push (r := [.lst []])
  have kp := Keep.push (h := h) (r := [.lst []])
  have ha : (h ++ [O.lst []])[h.length]? = some (.lst []) := by simp
  generalize hla : h.length = la at ha hgt ⊢
  generalize h ++ [O.lst []] = h0 at p' kp ha ⊢
  refine (draw_spec hP (d := d) p' (by omega) (many := (m : Int) + 1) (by omega) (bz _ (by omega) (by omega))).imp fun v h1 ⟨⟨x, e, x0, x1⟩, p1, k1⟩ => ?_
  subst e
  refine ⟨x, rfl, by omega, by omega, ?_⟩
  refine (ret_forL (I := fun i s h1 => ∃ is : List Itm, (∃ o4 o5 o6, s = [some (.ref 2), some H.enc, some (.int m), some (.ref la), o4, o5, o6]) ∧ h1[la]? = some (.lst (is.map Itm.enc)) ∧ is.length = i ∧ (∀ it ∈ is, it.ok H) ∧ Pen h1 (n + 1 + 3 * i) ∧ Keep h h1) _ (fun _ _ _ _ => rfl) ?_ ⟨[], ⟨none, none, none, rfl⟩, k1.at_ _ _ (by omega) ha, rfl, by simp, p1, kp.trans k1⟩).imp fun r h2 ⟨e, is, ⟨o4, o5, o6, es⟩, ha2, hlen, hok, p2, k2⟩ => .inl ⟨e, ?_⟩
  · rintro i p s h2 hp ⟨is, ⟨o4, o5, o6, rfl⟩, ha2, hlen, hok, p2, k2⟩
    obtain ⟨hi, rfl⟩ := range_item hp
    refine Ret.bind (r_gnm (r_par (r_cons (r_call (r_cons (r_var rfl (r_cons (r_blt (r_cons (r_idx (r_var rfl (r_int ⟨encR H.zs, rfl, r_nil ?_⟩))))))))))))
    refine ⟨.int (H.zs.map P.int).length, h2, rfl, r_nil ?_⟩
    rw [List.length_map]
    refine (draw_spec hP (d := d) p2 (by omega) (many := (H.zs.length : Int)) (by omega) (bz _ (by omega) (by omega))).imp fun v h3 ⟨⟨c, e, c0, c1⟩, p3, k3⟩ => ?_
    subst e
    refine r_cons (r_call (r_cons (r_var rfl (r_cons (r_int (r_nil ?_))))))
    refine (draw_spec hP (d := d) p3 (by omega) (by decide) (by decide +kernel)).imp fun v h4 ⟨⟨kd, e, d0, d1⟩, p4, k4⟩ => ?_
    subst e
    obtain ⟨c, rfl⟩ : ∃ c' : Nat, c = (c' : Int) := ⟨c.toNat, by omega⟩
    have hcz : c < H.zs.length := by omega
    have hzc := zs_at hcz
    have hz4 := ok.sizes.at_ _ (List.mem_of_getElem? hzc)
    generalize H.zs.getD c 0 = z at hzc hz4
    refine r_nil ⟨rfl, ?_⟩
    show Ret (ev (k := .s) _ _ () [some (.ref 2), some H.enc, some (.int m), some (.ref la), some (.int (0 + (i : Int))), some (.int c), some (.int kd)] h4) _
    have k24 := k3.trans k4
    have ha4 := k24.at_ _ _ (by omega) ha2
    have kk := k2.trans k24
    have fin : ∀ {it : Itm} {h5 : Hea}, it.ok H → h5[la]? = some (.lst (is.map Itm.enc)) → Pen h5 (n + 1 + 3 * i + 1 + 1 + 1) → Keep h h5 →
        (∃ is' : List Itm, (∃ o4 o5 o6, [some (P.ref 2), some H.enc, some (.int m), some (.ref la), some (.int (0 + (i : Int))), some (.int c), some (.int kd)] = [some (.ref 2), some H.enc, some (.int m), some (.ref la), o4, o5, o6]) ∧ (h5.set la (.lst (is.map Itm.enc ++ [it.enc])))[la]? = some (.lst (is'.map Itm.enc)) ∧ is'.length = i + 1 ∧ (∀ it ∈ is', it.ok H) ∧ Pen (h5.set la (.lst (is.map Itm.enc ++ [it.enc]))) (n + 1 + 3 * (i + 1)) ∧ Keep h (h5.set la (.lst (is.map Itm.enc ++ [it.enc])))) := fun {it h5} hit e p k =>
      ⟨is ++ [it], ⟨_, _, _, rfl⟩, by rw [List.getElem?_set_self (List.getElem?_eq_some_iff.mp e).1]; simp, by simp [hlen], fun x hx => by
        rcases List.mem_append.mp hx with hx | hx
        · exact hok x hx
        · rw [List.mem_singleton] at hx; rw [hx]; exact hit, (p.put hgt).mono (by omega), k.put (by omega)⟩
    refine r_ifs (r_tand (r_tcmp (r_idx (r_var rfl (r_int ⟨.tup (H.rows.map encD), rfl, r_tup (r_nil ⟨by simp, _, ne_nilP (by decide) (pln_rowsD ok), fun q1 => r_tcmp (r_var rfl (r_int ⟨_, rfl, fun q2 => ?_, fun q2 => ?_⟩)), fun q1 => ⟨fun z => (nomatch z), fun _ => ?_⟩⟩)⟩)))))
    · simp only [Bool.not_eq_true', decide_eq_false_iff_not, List.map_eq_nil_iff] at q1
      simp only [decide_eq_true_eq] at q2
      have hr0 : 0 < H.rows.length := List.length_pos_iff.mpr q1
      refine r_exp (r_bmt (r_var rfl ⟨rcv_append ha4, r_cons (r_tup (r_cons (r_idx (r_lst (r_cons (r_str (r_cons (r_str (r_cons (r_str (r_nil ⟨by simp [SZ], r_var rfl ?_⟩)))))))))))⟩))
      have hkd : ∃ w : Str, (w = "deed" ∨ w = "perhaps") ∧ L2.atI [P.str "deed", .str "deed", .str "perhaps"] kd = some (.str w) := by
        have : kd = 0 ∨ kd = 1 ∨ kd = 2 := by omega
        rcases this with rfl | rfl | rfl
        · exact ⟨_, .inl rfl, rfl⟩
        · exact ⟨_, .inl rfl, rfl⟩
        · exact ⟨_, .inr rfl, rfl⟩
      obtain ⟨w, hw, ew⟩ := hkd
      refine ⟨.str w, idx_lst (by simp) ew, r_cons (r_call (r_cons (r_var rfl (r_cons (r_blt (r_cons (r_idx (r_var rfl (r_int ⟨.tup (H.rows.map encD), rfl, r_nil ?_⟩)))))))))⟩
      refine ⟨.int (H.rows.map encD).length, _, rfl, r_nil ?_⟩
      rw [List.length_map]
      refine (draw_spec hP (d := d) (p4.push (r := [.lst [P.str "deed", .str "deed", .str "perhaps"]])) (by omega) (many := (H.rows.length : Int)) (by omega) (bz _ (by omega) (by omega))).imp fun v h5 ⟨⟨k, e, y0, y1⟩, p5, k5⟩ => ?_
      subst e
      obtain ⟨k, rfl⟩ : ∃ k' : Nat, k = (k' : Int) := ⟨k.toNat, by omega⟩
      have ha5 := (Keep.push.trans k5).at_ _ _ (by omega) ha4
      obtain ⟨it, hit, eit⟩ : ∃ it : Itm, it.ok H ∧ it.enc = .tup [.str w, .int (k : Int)] := by
        rcases hw with rfl | rfl
        · exact ⟨.deed k, by show k < H.rows.length; omega, rfl⟩
        · exact ⟨.perh k, by show k < H.rows.length; omega, rfl⟩
      refine r_nil ⟨by simp [SZ], r_nil (v_append ha5 (by simp [SZ]; omega) ?_)⟩
      rw [← eit]
      exact r_skip (.inl ⟨rfl, r_skip ⟨rfl, fin hit ha5 p5 ((kk.trans Keep.push).trans k5)⟩⟩)
    all_goals
      refine r_ifs (r_tcmp (r_var rfl (r_int ⟨_, rfl, fun q3 => ?_, fun q3 => ?_⟩)))
      · refine r_exp (r_bmt (r_var rfl ⟨rcv_append ha4, r_cons (r_tup (r_cons (r_str (r_cons (r_var rfl (r_cons (r_call (r_cons (r_var rfl (r_cons (r_idx (r_idx (r_var rfl (r_int ⟨encR H.zs, rfl, r_var rfl ⟨.int z, atR hzc, r_nil ?_⟩⟩))))))))))))))⟩))
        refine (draw_spec hP (d := d) p4 (by omega) (many := z) (by omega) (bz _ (by omega) (by omega))).imp fun v h5 ⟨⟨v, e, y0, y1⟩, p5, k5⟩ => ?_
        subst e
        have ha5 := k5.at_ _ _ (by omega) ha4
        exact r_nil ⟨by simp [SZ], r_nil (v_append ha5 (by simp [SZ]; omega) (r_skip (.inl ⟨rfl, r_skip (.inl ⟨rfl, r_skip ⟨rfl, fin (it := .saw c v) ⟨hcz, y0, by omega⟩ ha5 p5 (kk.trans k5)⟩⟩)⟩)))⟩
      · exact r_exp (r_bmt (r_var rfl ⟨rcv_append ha4, r_cons (r_tup (r_cons (r_str (r_cons (r_var rfl (r_nil ⟨by simp [SZ], r_nil (v_append ha4 (by simp [SZ]; omega) (r_skip (.inl ⟨rfl, r_skip (.inl ⟨rfl, r_skip ⟨rfl, fin (it := .stir c) hcz ha4 (p4.mono (by omega)) kk⟩⟩)⟩)))⟩))))))⟩))
  · rw [es]
    refine r_ret (r_blt (r_cons (r_var rfl (r_nil (v_tupL ha2 ⟨_, rfl, ⟨is, rfl, ?_, hok⟩, p2.mono ?_, k2⟩)))))
    · rw [hlen]; simp; omega
    · simp; omega
end Ev

namespace Ev
open PySem Ev.Code
section
variable {h : Hea}
theorem ex_idx {Φ : P → Prop} {x y v : P} (e : idxV x y h = some v) (q : Φ v) : ∃ v, idxV x y h = some v ∧ Φ v := ⟨v, e, q⟩
theorem ex_cmp {Φ : Bool → Prop} {o : Cop} {x y : P} {k : Bool} (e : cmpV o x y h = some k) (q : Φ k) : ∃ k, cmpV o x y h = some k ∧ Φ k := ⟨k, e, q⟩
theorem ex_tru {Φ : Bool → Prop} {x : P} {k : Bool} (e : truV x h = some k) (q : Φ k) : ∃ k, truV x h = some k ∧ Φ k := ⟨k, e, q⟩
theorem if_t {k : Bool} {A B : Prop} (e : k = true) (q : A) : (k = true → A) ∧ (k = false → B) := ⟨fun _ => q, fun z => (nomatch e.symm.trans z)⟩
theorem if_f {k : Bool} {A B : Prop} (e : k = false) (q : B) : (k = true → A) ∧ (k = false → B) := ⟨fun z => (nomatch e.symm.trans z), fun _ => q⟩
theorem or_rt {v : P} {A B : Prop} (q : B) : (Flow.rt v = .nx ∧ A) ∨ (Flow.rt v ≠ .nx ∧ B) := .inr ⟨fun z => (nomatch z), q⟩
theorem or_nx {A B : Prop} (q : A) : (Flow.nx = .nx ∧ A) ∨ (Flow.nx ≠ .nx ∧ B) := .inl ⟨rfl, q⟩
theorem or_ct {A B : Prop} (q : B) : (Flow.ct = .nx ∧ A) ∨ (Flow.ct ≠ .nx ∧ B) := .inr ⟨fun z => (nomatch z), q⟩
theorem or_bk {A B : Prop} (q : B) : (Flow.bk = .nx ∧ A) ∨ (Flow.bk ≠ .nx ∧ B) := .inr ⟨fun z => (nomatch z), q⟩
theorem fin_rt {v : P} {Φ : P → Prop} (q : Φ v) : ∃ u, Flow.rt v = .rt u ∧ Φ u := ⟨v, rfl, q⟩
theorem par_ok {a b : Nat} {q : Prop} (e : a = b) (hq : q) : a = b ∧ q := ⟨e, hq⟩
theorem len_ok {n : Nat} {q : Prop} (e : Nat.ble n SZ = true) (hq : q) : n ≤ SZ ∧ q := ⟨Nat.le_of_ble_eq_true e, hq⟩
theorem r_slcN {C : Cfg} {s : Slots} {h : Hea} {Φ : P → Hea → Prop} {a : T .e} (q : Ret (ev C a () s h) fun x h => Ret (slcV x none none h) Φ) : Ret (ev C (.slc false false a .non .non) () s h) Φ := by
  unfold ev
  refine Ret.seq q fun x h q => ?_
  have e0 : ∀ h, ev C .non () s h = .ok P.non h := fun h => by unfold ev; rfl
  rw [e0]
  show Ret ((ev C .non () s h).bind fun q h => (R.of (bndV false q) h).bind fun u h => slcV x none u h) Φ
  rw [e0]
  exact q
theorem ex_int {Q : Int → Prop} {i : Int} (q : Q i) : ∃ j, P.int i = .int j ∧ Q j := ⟨i, rfl, q⟩
theorem r_cnt {C : Cfg} {s : Slots} {h : Hea} {Φ : Flow × Slots → Hea → Prop} (q : Φ (.ct, s) h) : Ret (ev C .cnt () s h) Φ := by unfold ev; exact .ok q
theorem r_brk {C : Cfg} {s : Slots} {h : Hea} {Φ : Flow × Slots → Hea → Prop} (q : Φ (.bk, s) h) : Ret (ev C .brk () s h) Φ := by unfold ev; exact .ok q
theorem r_retN {C : Cfg} {s : Slots} {h : Hea} {Φ : Flow × Slots → Hea → Prop} (q : Φ (.rt .non, s) h) : Ret (ev C .retN () s h) Φ := by unfold ev; exact .ok q
theorem r_andv {C : Cfg} {s : Slots} {h : Hea} {Φ : P → Hea → Prop} {a b : T .e} (q : Ret (ev C a () s h) fun x h => ∃ k, truV x h = some k ∧ ((k = true → Ret (ev C b () s h) Φ) ∧ (k = false → Φ x h))) : Ret (ev C (.andv a b) () s h) Φ := by
  unfold ev
  refine Ret.seq q fun x h ⟨k, e, q1, q2⟩ => Ret.seq (Φ := fun k' h' => k' = k ∧ h' = h) (Ret.of e ⟨rfl, rfl⟩) fun k' h' ⟨e1, e2⟩ => ?_
  subst e1 e2
  cases k' with
  | true => exact q1 rfl
  | false => exact .ok (q2 rfl)
theorem r_orv {C : Cfg} {s : Slots} {h : Hea} {Φ : P → Hea → Prop} {a b : T .e} (q : Ret (ev C a () s h) fun x h => ∃ k, truV x h = some k ∧ ((k = true → Φ x h) ∧ (k = false → Ret (ev C b () s h) Φ))) : Ret (ev C (.orv a b) () s h) Φ := by
  unfold ev
  refine Ret.seq q fun x h ⟨k, e, q1, q2⟩ => Ret.seq (Φ := fun k' h' => k' = k ∧ h' = h) (Ret.of e ⟨rfl, rfl⟩) fun k' h' ⟨e1, e2⟩ => ?_
  subst e1 e2
  cases k' with
  | true => exact .ok (q1 rfl)
  | false => exact q2 rfl
theorem lt_int {a b : Int} {h : Hea} : cmpV .lt (.int a) (.int b) h = some (decide (a < b)) := rfl
theorem le_int {a b : Int} {h : Hea} : cmpV .le (.int a) (.int b) h = some (decide (a ≤ b)) := rfl
theorem gt_int {a b : Int} {h : Hea} : cmpV .gt (.int a) (.int b) h = some (decide (b < a)) := rfl
theorem ge_int {a b : Int} {h : Hea} : cmpV .ge (.int a) (.int b) h = some (decide (b ≤ a)) := rfl
theorem isN_v {x : P} {h : Hea} : cmpV .isN x .non h = some (isNone x) := rfl
theorem notN_v {x : P} {h : Hea} : cmpV .notN x .non h = some (!isNone x) := rfl
end
theorem draw_nat {G : Prog} (hG : HasPen G) {W d n : Nat} {h : Hea} (p : Pen h n) (hn : n < 18446744073709551616) {m : Nat} (hm : 0 < m) (hb : m < 64) :
    Ret (callN G W (d + 2) 2 [.ref 2, .int (m : Int)] h) fun v h' => (∃ x : Nat, v = .int (x : Int) ∧ x < m) ∧ Pen h' (n + 1) ∧ Keep h h' := by
  refine (draw_spec hG (d := d) p hn (many := (m : Int)) (by omega) (Nat.lt_of_le_of_lt (bitsLt (n := 6) (by omega)) (by decide))).imp fun v h1 ⟨⟨x, e, x0, x1⟩, p1, k1⟩ => ⟨⟨x.toNat, ?_, by omega⟩, p1, k1⟩
  rw [e, Int.toNat_of_nonneg x0]
theorem draw_lit {G : Prog} (hG : HasPen G) {W d n : Nat} {h : Hea} (p : Pen h n) (hn : n < 18446744073709551616) (m : Nat) {i : Int} (hi : i = (m : Int)) (hm : 0 < m) (hb : m < 64) :
    Ret (callN G W (d + 2) 2 [.ref 2, .int i] h) fun v h' => (∃ x : Nat, v = .int (x : Int) ∧ x < m) ∧ Pen h' (n + 1) ∧ Keep h h' := by
  subst hi; exact draw_nat hG p hn hm hb
theorem v_lenTm {α : Type} {f : α → P} {xs : List α} {h : Hea} {Φ : P → Hea → Prop} (q : Φ (.int (xs.length : Int)) h) : Ret (bltV .len [.tup (xs.map f)] h) Φ := by
  refine v_lenT ?_
  rw [List.length_map]; exact q
end Ev

namespace Ev
open PySem Ev.Code
mutual
def bd : P → Nat
  | .tup ps => bds ps + 2
  | _ => 20
def bds : List P → Nat
  | [] => 0
  | p :: ps => bd p + 2 + bds ps
end
theorem Tx.non : Tx .non 20 0 := ⟨fun _ => rfl, .none, fun _ => rfl, rfl, rfl, Nat.zero_le _, by decide +kernel⟩
theorem Tx.bl (b : Bool) : Tx (.bl b) 20 0 := ⟨fun _ => rfl, .bool b, fun _ => rfl, rfl, rfl, Nat.zero_le _, by cases b <;> decide +kernel⟩
end Ev

namespace Ev
open PySem Ev.Code
section
variable {α : Type} {C : Cfg} {s : Slots} {h : Hea}
end
end Ev

set_option maxHeartbeats 400000
namespace Ev.Code
open PySem Ev
def f_behind_event : Fn where
  params := 3
  slots := 4
  body := (.asg (.gnm 3) (.idx (.var 2) (.int 0))
  (.ifs (.tor (.tcmp .eq (.var 3) (.str "deed")) (.tand (.tcmp .eq (.var 3) (.str "perhaps")) (.tcmp .eq (.idx (.var 2) (.int 2)) (.int 1))))
  (.ret (.call 13 (.cons (.var 0) (.cons (.idx (.var 2) (.int 1)) (.cons (.var 1) .nil)))))
  .skip
  (.ifs (.tcmp .eq (.var 3) (.str "stir"))
  (.ret (.call 11 (.cons (.var 1) (.cons (.idx (.var 2) (.int 1)) (.cons (.idx (.var 2) (.int 2)) .nil)))))
  .skip
  (.ifs (.tcmp .eq (.var 3) (.str "saw"))
  (.ret (.ife (.tcmp .eq (.idx (.var 1) (.idx (.var 2) (.int 1))) (.idx (.var 2) (.int 2))) (.var 1) .non))
  .skip
  (.ifs (.tcmp .eq (.var 3) (.str "ask"))
  (.ret (.ife (.tcmp .eq (.idx (.call 22 (.cons (.var 0) (.cons (.idx (.var 2) (.int 1)) (.cons (.var 1) .nil)))) (.int 1)) (.idx (.var 2) (.int 2))) (.var 1) .non))
  .skip
  (.ret (.var 1)))))))

def f_is_true_history : Fn where
  params := 3
  slots := 4
  body := (.for_ (.gnm 3) (.isq (.var 2))
  (.asg (.gnm 1) (.call 45 (.cons (.var 0) (.cons (.var 1) (.cons (.var 3) .nil))))
  (.ifs (.tcmp .isN (.var 1) .non)
  (.ret (.bl false))
  .skip
  .skip))
  (.ret (.bl true)))

def w_event_kept : Fn where
  params := 3
  slots := 4
  body := (.asg (.gnm 3) (.idx (.var 2) (.int 0))
  (.ifs (.tor (.tcmp .eq (.var 3) (.str "deed")) (.tand (.tcmp .eq (.var 3) (.str "perhaps")) (.tcmp .eq (.idx (.var 2) (.int 2)) (.int 1))))
  (.ret (.call 17 (.cons (.var 0) (.cons (.idx (.var 2) (.int 1)) (.cons (.var 1) .nil)))))
  .skip
  (.ifs (.tcmp .eq (.var 3) (.str "stir"))
  (.ret (.bin .add (.bin .add (.slc false true (.var 1) .non (.idx (.var 2) (.int 1))) (.tup (.cons (.idx (.var 2) (.int 2)) .nil))) (.slc true false (.var 1) (.bin .add (.idx (.var 2) (.int 1)) (.int 1)) .non)))
  .skip
  (.ifs (.tand (.tcmp .eq (.var 3) (.str "saw")) (.tcmp .ne (.idx (.var 1) (.idx (.var 2) (.int 1))) (.idx (.var 2) (.int 2))))
  (.ret .non)
  .skip
  (.ifs (.tand (.tcmp .eq (.var 3) (.str "ask")) (.tcmp .ne (.idx (.call 23 (.cons (.var 0) (.cons (.idx (.var 2) (.int 1)) (.cons (.var 1) .nil)))) (.int 1)) (.idx (.var 2) (.int 2))))
  (.ret .non)
  .skip
  (.ret (.var 1)))))))

def w_holds : Fn where
  params := 3
  slots := 4
  body := (.for_ (.gnm 3) (.isq (.var 2))
  (.asg (.gnm 1) (.call 46 (.cons (.var 0) (.cons (.var 1) (.cons (.var 3) .nil))))
  (.ifs (.tcmp .isN (.var 1) .non)
  (.ret (.bl false))
  .skip
  .skip))
  (.ret (.bl true)))

end Ev.Code
namespace Ev
open PySem Ev.Code
local macro_rules | `(tactic| array_get_dec) => `(tactic| repeat (first | with_reducible refine r_asg ?_ | with_reducible refine r_bin ?_ | with_reducible refine r_int ?_ | with_reducible refine r_str ?_ | with_reducible refine r_non ?_ | with_reducible refine r_bl ?_ | with_reducible refine r_blt ?_ | with_reducible refine r_call ?_ | with_reducible refine r_cons ?_ | with_reducible refine r_nil ?_ | with_reducible refine r_tup ?_ | with_reducible refine r_lst ?_ | with_reducible refine r_idx ?_ | with_reducible refine r_slcH ?_ | with_reducible refine r_slcL ?_ | with_reducible refine r_slcT ?_ | with_reducible refine r_slcN ?_ | with_reducible refine r_ret ?_ | with_reducible refine r_exp ?_ | with_reducible refine r_ifs ?_ | with_reducible refine r_ife ?_ | with_reducible refine r_tcmp ?_ | with_reducible refine r_tand ?_ | with_reducible refine r_tor ?_ | with_reducible refine r_tnot ?_ | with_reducible refine r_tval ?_ | with_reducible refine r_ttrue ?_ | with_reducible refine r_cmp ?_ | with_reducible refine r_notv ?_ | with_reducible refine r_andv ?_ | with_reducible refine r_orv ?_ | with_reducible refine r_gnm ?_ | with_reducible refine r_gcons ?_ | with_reducible refine r_gnil ?_ | with_reducible refine r_gsub ?_ | with_reducible refine r_for ?_ | with_reducible refine r_isq ?_ | with_reducible refine r_ienum ?_ | with_reducible refine r_skip ?_ | with_reducible refine r_retN ?_ | with_reducible refine r_brk ?_ | with_reducible refine r_cnt ?_ | with_reducible refine r_lc ?_ | with_reducible refine r_dc ?_ | with_reducible refine r_sset ?_ | with_reducible refine r_walkT ?_ | with_reducible refine v_int ?_ | with_reducible refine v_add ?_ | with_reducible refine v_sub ?_ | with_reducible refine v_lenTm ?_ | with_reducible refine v_lenT ?_ | with_reducible refine v_slcT ?_ | with_reducible refine v_listT ?_ | with_reducible refine or_rt ?_ | with_reducible refine or_nx ?_ | with_reducible refine or_ct ?_ | with_reducible refine or_bk ?_ | with_reducible refine fin_rt ?_ | with_reducible refine ex_int ?_ | ((with_reducible apply r_var); exact rfl) | with_reducible refine r_gtup rfl ?_ | with_reducible refine len_ok rfl ?_ | with_reducible refine ex_cmp eq_str ?_ | with_reducible refine ex_cmp ne_str ?_ | with_reducible refine ex_cmp eq_int ?_ | with_reducible refine ex_cmp ne_int ?_ | with_reducible refine ex_cmp lt_int ?_ | with_reducible refine ex_cmp le_int ?_ | with_reducible refine ex_cmp gt_int ?_ | with_reducible refine ex_cmp ge_int ?_ | with_reducible refine ex_cmp isN_v ?_ | with_reducible refine ex_cmp notN_v ?_ | refine ex_idx rfl ?_ | refine if_t rfl ?_ | refine if_f rfl ?_ | refine ex_tru rfl ?_))
inductive Evt where
  | deed (k : Nat)
  | perh (k : Nat) (b : Int)
  | stir (c : Nat) (v : Int)
  | ask (q : Nat) (a : Int)
  | saw (c : Nat) (v : Int)
  | rest
  | to (p : Int)
def Evt.enc : Evt → P
  | .deed k => .tup [.str "deed", .int k]
  | .perh k b => .tup [.str "perhaps", .int k, .int b]
  | .stir c v => .tup [.str "stir", .int c, .int v]
  | .ask q a => .tup [.str "ask", .int q, .int a]
  | .saw c v => .tup [.str "saw", .int c, .int v]
  | .rest => .tup [.str "rest"]
  | .to p => .tup [.str "to", .int p]
def Evt.ok (H : Hs) : Evt → Prop
  | .deed k => k < H.rows.length
  | .perh k b => k < H.rows.length ∧ 0 ≤ b ∧ b < 2
  | .stir c v => ∃ z, H.zs[c]? = some z ∧ 0 ≤ v ∧ v < z
  | .ask q a => q < H.qs.length ∧ 0 ≤ a ∧ a < 10
  | .saw c v => c < H.zs.length ∧ 0 ≤ v ∧ v < 64
  | .rest => True
  | .to p => 0 ≤ p ∧ p < 64
structure HasHist (G : Prog) : Prop where
  deeds : HasDeeds G
  f22 : G.fn 22 = some f_asked
  f45 : G.fn 45 = some f_behind_event
  f50 : G.fn 50 = some f_is_true_history
structure HasHistL (G : Prog) : Prop where
  f17 : G.fn 17 = some w_done
  f23 : G.fn 23 = some w_answered
  f46 : G.fn 46 = some w_event_kept
  f51 : G.fn 51 = some w_holds
end Ev

set_option maxHeartbeats 1000000
namespace Ev
open PySem Ev.Code
local macro_rules | `(tactic| array_get_dec) => `(tactic| repeat (first | with_reducible refine r_asg ?_ | with_reducible refine r_bin ?_ | with_reducible refine r_int ?_ | with_reducible refine r_str ?_ | with_reducible refine r_non ?_ | with_reducible refine r_bl ?_ | with_reducible refine r_blt ?_ | with_reducible refine r_call ?_ | with_reducible refine r_cons ?_ | with_reducible refine r_nil ?_ | with_reducible refine r_tup ?_ | with_reducible refine r_lst ?_ | with_reducible refine r_idx ?_ | with_reducible refine r_slcH ?_ | with_reducible refine r_slcL ?_ | with_reducible refine r_slcT ?_ | with_reducible refine r_slcN ?_ | with_reducible refine r_ret ?_ | with_reducible refine r_exp ?_ | with_reducible refine r_ifs ?_ | with_reducible refine r_ife ?_ | with_reducible refine r_tcmp ?_ | with_reducible refine r_tand ?_ | with_reducible refine r_tor ?_ | with_reducible refine r_tnot ?_ | with_reducible refine r_tval ?_ | with_reducible refine r_ttrue ?_ | with_reducible refine r_cmp ?_ | with_reducible refine r_notv ?_ | with_reducible refine r_andv ?_ | with_reducible refine r_orv ?_ | with_reducible refine r_gnm ?_ | with_reducible refine r_gcons ?_ | with_reducible refine r_gnil ?_ | with_reducible refine r_gsub ?_ | with_reducible refine r_for ?_ | with_reducible refine r_isq ?_ | with_reducible refine r_ienum ?_ | with_reducible refine r_skip ?_ | with_reducible refine r_retN ?_ | with_reducible refine r_brk ?_ | with_reducible refine r_cnt ?_ | with_reducible refine r_lc ?_ | with_reducible refine r_dc ?_ | with_reducible refine r_sset ?_ | with_reducible refine r_walkT ?_ | with_reducible refine v_int ?_ | with_reducible refine v_add ?_ | with_reducible refine v_sub ?_ | with_reducible refine v_lenTm ?_ | with_reducible refine v_lenT ?_ | with_reducible refine v_slcT ?_ | with_reducible refine v_listT ?_ | with_reducible refine or_rt ?_ | with_reducible refine or_nx ?_ | with_reducible refine or_ct ?_ | with_reducible refine or_bk ?_ | with_reducible refine fin_rt ?_ | with_reducible refine ex_int ?_ | ((with_reducible apply r_var); exact rfl) | with_reducible refine r_gtup rfl ?_ | with_reducible refine len_ok rfl ?_ | with_reducible refine ex_cmp eq_str ?_ | with_reducible refine ex_cmp ne_str ?_ | with_reducible refine ex_cmp eq_int ?_ | with_reducible refine ex_cmp ne_int ?_ | with_reducible refine ex_cmp lt_int ?_ | with_reducible refine ex_cmp le_int ?_ | with_reducible refine ex_cmp gt_int ?_ | with_reducible refine ex_cmp ge_int ?_ | with_reducible refine ex_cmp isN_v ?_ | with_reducible refine ex_cmp notN_v ?_ | refine ex_idx rfl ?_ | refine if_t rfl ?_ | refine if_f rfl ?_ | refine ex_tru rfl ?_))
end Ev

namespace Ev
open PySem Ev.Code
local macro_rules | `(tactic| bv_omega) => `(tactic| repeat (first | with_reducible refine r_asg ?_ | with_reducible refine r_bin ?_ | with_reducible refine r_int ?_ | with_reducible refine r_str ?_ | with_reducible refine r_non ?_ | with_reducible refine r_bl ?_ | with_reducible refine r_blt ?_ | with_reducible refine r_call ?_ | with_reducible refine r_cons ?_ | with_reducible refine r_nil ?_ | with_reducible refine r_tup ?_ | with_reducible refine r_lst ?_ | with_reducible refine r_idx ?_ | with_reducible refine r_slcH ?_ | with_reducible refine r_slcL ?_ | with_reducible refine r_slcT ?_ | with_reducible refine r_slcN ?_ | with_reducible refine r_ret ?_ | with_reducible refine r_exp ?_ | with_reducible refine r_ifs ?_ | with_reducible refine r_ife ?_ | with_reducible refine r_tcmp ?_ | with_reducible refine r_tand ?_ | with_reducible refine r_tor ?_ | with_reducible refine r_tnot ?_ | with_reducible refine r_tval ?_ | with_reducible refine r_ttrue ?_ | with_reducible refine r_cmp ?_ | with_reducible refine r_notv ?_ | with_reducible refine r_andv ?_ | with_reducible refine r_orv ?_ | with_reducible refine r_gnm ?_ | with_reducible refine r_gcons ?_ | with_reducible refine r_gnil ?_ | with_reducible refine r_gsub ?_ | with_reducible refine r_for ?_ | with_reducible refine r_isq ?_ | with_reducible refine r_ienum ?_ | with_reducible refine r_skip ?_ | with_reducible refine r_retN ?_ | with_reducible refine r_brk ?_ | with_reducible refine r_cnt ?_ | with_reducible refine r_lc ?_ | with_reducible refine r_dc ?_ | with_reducible refine r_sset ?_ | with_reducible refine r_walkT ?_ | with_reducible refine v_int ?_ | with_reducible refine v_add ?_ | with_reducible refine v_sub ?_ | with_reducible refine v_lenTm ?_ | with_reducible refine v_lenT ?_ | with_reducible refine v_slcT ?_ | with_reducible refine v_listT ?_ | with_reducible refine or_rt ?_ | with_reducible refine or_nx ?_ | with_reducible refine or_ct ?_ | with_reducible refine or_bk ?_ | with_reducible refine fin_rt ?_ | with_reducible refine ex_int ?_ | ((with_reducible apply r_var); exact rfl) | with_reducible refine r_gtup rfl ?_ | with_reducible refine len_ok rfl ?_ | with_reducible refine ex_cmp eq_str ?_ | with_reducible refine ex_cmp ne_str ?_ | with_reducible refine ex_cmp eq_int ?_ | with_reducible refine ex_cmp ne_int ?_ | with_reducible refine ex_cmp lt_int ?_ | with_reducible refine ex_cmp le_int ?_ | with_reducible refine ex_cmp gt_int ?_ | with_reducible refine ex_cmp ge_int ?_ | with_reducible refine ex_cmp isN_v ?_ | with_reducible refine ex_cmp notN_v ?_ | with_reducible refine r_par ?_ | refine par_ok rfl ?_ | refine ex_idx rfl ?_ | refine if_t rfl ?_ | refine if_f rfl ?_ | refine ex_tru rfl ?_))
end Ev

namespace Ev.Code
open PySem Ev
def f_looks_at : Fn where
  params := 3
  slots := 8
  body := (.asg (.gnm 3) (.lst .nil)
  (.for_ (.gnm 4) (.irng (.blt .len (.cons (.idx (.var 0) (.int 0)) .nil)))
  (.asg (.gnm 5) (.call 20 (.cons (.var 0) (.cons (.var 2) (.cons (.var 4) .nil))))
  (.ifs (.tcmp .gt (.blt .len (.cons (.var 5) .nil)) (.int 1))
  (.exp (.bmt .append (.var 3) (.cons (.tup (.cons (.var 4) (.cons (.blt .tuple (.cons (.lc [6, 7] (.tup (.cons (.var 6) (.cons (.tup (.cons (.var 1) (.cons (.var 7) .nil))) .nil))) (.gtup (.gcons (.gnm 6) (.gcons (.gnm 7) .gnil))) (.isq (.var 5)) .ttrue) .nil)) .nil))) .nil))
  .skip)
  .skip
  .skip))
  (.ret (.var 3))))

def f_stands : Fn where
  params := 4
  slots := 11
  body := (.par [4, 5] (.cons .dic0 (.cons (.lst (.cons (.tup (.cons (.var 2) (.cons (.var 3) .nil))) .nil)) .nil))
  (.whl (.tcmp .ne (.var 5) (.lst .nil))
  (.asg (.gnm 6) (.bmt .pop (.var 5) .nil)
  (.ifs (.tcmp .inn (.var 6) (.var 4))
  .cnt
  .skip
  (.asg (.gsub (.var 4) (.var 6)) (.bl true)
  (.exp (.bmt .extend (.var 5) (.cons (.orv (.call 42 (.cons (.var 0) (.cons (.var 1) (.cons (.idx (.var 6) (.int 0)) (.cons (.idx (.var 6) (.int 1)) .nil))))) (.tup .nil)) .nil))
  (.for_ (.gtup (.gcons (.gnm 7) (.gcons (.gnm 8) .gnil))) (.isq (.call 53 (.cons (.var 0) (.cons (.idx (.var 6) (.int 0)) (.cons (.idx (.var 6) (.int 1)) .nil)))))
  (.exp (.bmt .extend (.var 5) (.cons (.lc [9, 10] (.var 10) (.gtup (.gcons (.gnm 9) (.gcons (.gnm 10) .gnil))) (.isq (.var 8)) .ttrue) .nil))
  .skip)
  .skip)))))
  (.ret (.blt .tuple (.cons (.blt .sorted (.cons (.blt .list (.cons (.var 4) .nil)) .nil)) .nil)))))

def w_small_house : Fn where
  params := 1
  slots := 2
  body := (.asg (.gnm 1) (.call 4 (.cons (.var 0) (.cons (.lst (.cons (.tup (.cons (.int 2) .nil)) (.cons (.tup (.cons (.int 2) (.cons (.int 2) .nil))) (.cons (.tup (.cons (.int 2) (.cons (.int 2) .nil))) (.cons (.tup (.cons (.int 3) .nil)) (.cons (.tup (.cons (.int 4) .nil)) .nil)))))) .nil)))
  (.ret (.call 7 (.cons (.var 0) (.cons (.var 1) (.cons (.bin .add (.int 3) (.call 2 (.cons (.var 0) (.cons (.int 4) .nil)))) (.cons (.call 2 (.cons (.var 0) (.cons (.int 3) .nil))) .nil)))))))

def w_course : Fn where
  params := 4
  slots := 13
  body := (.par [4, 5] (.cons (.blt .dict (.cons (.lst .nil) .nil)) (.cons (.lst (.cons (.tup (.cons (.var 2) (.cons (.var 3) .nil))) .nil)) .nil))
  (.whl (.tcmp .ne (.var 5) (.lst .nil))
  (.asg (.gnm 6) (.bmt .pop (.var 5) .nil)
  (.ifs (.tcmp .inn (.var 6) (.var 4))
  .cnt
  .skip
  (.par [7, 8] (.cons (.call 41 (.cons (.var 0) (.cons (.var 1) (.cons (.idx (.var 6) (.int 0)) (.cons (.idx (.var 6) (.int 1)) .nil))))) (.cons (.lst .nil) .nil))
  (.for_ (.gnm 9) (.irng (.blt .len (.cons (.idx (.var 0) (.int 0)) .nil)))
  (.asg (.gnm 10) (.lc [11, 12] (.tup (.cons (.idx (.var 6) (.int 0)) (.cons (.var 12) .nil))) (.gtup (.gcons (.gnm 11) (.gcons (.gnm 12) .gnil))) (.isq (.call 21 (.cons (.var 0) (.cons (.idx (.var 6) (.int 1)) (.cons (.var 9) .nil))))) .ttrue)
  (.exp (.bmt .extend (.var 8) (.cons (.ife (.tcmp .gt (.blt .len (.cons (.var 10) .nil)) (.int 1)) (.lst (.cons (.tup (.cons (.var 9) (.cons (.var 10) .nil))) .nil)) (.lst .nil)) .nil))
  .skip))
  (.asg (.gsub (.var 4) (.var 6)) (.tup (.cons (.var 7) (.cons (.var 8) .nil)))
  (.exp (.bmt .extend (.var 5) (.cons (.ife (.tcmp .notN (.var 7) .non) (.var 7) (.lst .nil)) .nil))
  (.for_ (.gtup (.gcons (.gnm 9) (.gcons (.gnm 10) .gnil))) (.isq (.var 8))
  (.exp (.bmt .extend (.var 5) (.cons (.var 10) .nil))
  .skip)
  .skip)))))))
  (.ret (.var 4))))

end Ev.Code
namespace Ev
open PySem Ev.Code
local macro_rules | `(tactic| bv_omega) => `(tactic| repeat (first | with_reducible refine r_asg ?_ | with_reducible refine r_bin ?_ | with_reducible refine r_int ?_ | with_reducible refine r_str ?_ | with_reducible refine r_non ?_ | with_reducible refine r_bl ?_ | with_reducible refine r_blt ?_ | with_reducible refine r_call ?_ | with_reducible refine r_cons ?_ | with_reducible refine r_nil ?_ | with_reducible refine r_tup ?_ | with_reducible refine r_lst ?_ | with_reducible refine r_idx ?_ | with_reducible refine r_slcH ?_ | with_reducible refine r_slcL ?_ | with_reducible refine r_slcT ?_ | with_reducible refine r_slcN ?_ | with_reducible refine r_ret ?_ | with_reducible refine r_exp ?_ | with_reducible refine r_ifs ?_ | with_reducible refine r_ife ?_ | with_reducible refine r_tcmp ?_ | with_reducible refine r_tand ?_ | with_reducible refine r_tor ?_ | with_reducible refine r_tnot ?_ | with_reducible refine r_tval ?_ | with_reducible refine r_ttrue ?_ | with_reducible refine r_cmp ?_ | with_reducible refine r_notv ?_ | with_reducible refine r_andv ?_ | with_reducible refine r_orv ?_ | with_reducible refine r_gnm ?_ | with_reducible refine r_gcons ?_ | with_reducible refine r_gnil ?_ | with_reducible refine r_gsub ?_ | with_reducible refine r_for ?_ | with_reducible refine r_isq ?_ | with_reducible refine r_ienum ?_ | with_reducible refine r_skip ?_ | with_reducible refine r_retN ?_ | with_reducible refine r_brk ?_ | with_reducible refine r_cnt ?_ | with_reducible refine r_lc ?_ | with_reducible refine r_dc ?_ | with_reducible refine r_sset ?_ | with_reducible refine r_walkT ?_ | with_reducible refine v_int ?_ | with_reducible refine v_add ?_ | with_reducible refine v_sub ?_ | with_reducible refine v_lenTm ?_ | with_reducible refine v_lenT ?_ | with_reducible refine v_slcT ?_ | with_reducible refine v_listT ?_ | with_reducible refine or_rt ?_ | with_reducible refine or_nx ?_ | with_reducible refine or_ct ?_ | with_reducible refine or_bk ?_ | with_reducible refine fin_rt ?_ | with_reducible refine ex_int ?_ | ((with_reducible apply r_var); exact rfl) | with_reducible refine r_gtup rfl ?_ | with_reducible refine len_ok rfl ?_ | with_reducible refine ex_cmp eq_str ?_ | with_reducible refine ex_cmp ne_str ?_ | with_reducible refine ex_cmp eq_int ?_ | with_reducible refine ex_cmp ne_int ?_ | with_reducible refine ex_cmp lt_int ?_ | with_reducible refine ex_cmp le_int ?_ | with_reducible refine ex_cmp gt_int ?_ | with_reducible refine ex_cmp ge_int ?_ | with_reducible refine ex_cmp isN_v ?_ | with_reducible refine ex_cmp notN_v ?_ | with_reducible refine r_par ?_ | refine par_ok rfl ?_ | refine ex_idx rfl ?_ | refine if_t rfl ?_ | refine if_f rfl ?_ | refine ex_tru rfl ?_))
inductive Rit where
  | act (it : Itm)
  | ask (q : Nat)
  | rest
def Rit.enc : Rit → P
  | .act it => it.enc
  | .ask q => .tup [.str "ask", .int q]
  | .rest => .tup [.str "rest"]
def Rit.ok (H : Hs) : Rit → Prop
  | .act it => it.ok H ∧ it.isSaw = false
  | .ask q => q < H.qs.length
  | .rest => True
def Rit.beh (H : Hs) : Rit → List (List Int) → List (List Int)
  | .act it, cs => behL H it cs
  | _, cs => cs
theorem Rit.good {H : Hs} (ok : H.Ok) {it : Rit} (hi : it.ok H) {cs : List (List Int)} (g : Good H.zs cs) : Good H.zs (it.beh H cs) := by
  cases it with
  | act it => exact behL_good ok hi.1 g
  | _ => exact g
structure Plc where
  it : Rit
  nx : List Nat
def Plc.enc (p : Plc) : P := .tup [p.it.enc, .tup (p.nx.map fun n : Nat => P.int (n : Int))]
abbrev encRt (R : List Plc) : P := .tup (R.map Plc.enc)
structure RtOk (H : Hs) (R : List Plc) : Prop where
  one : 1 ≤ R.length
  few : R.length ≤ 8
  its : ∀ p ∈ R, p.it.ok H
  nx0 : ∀ p ∈ R, 1 ≤ p.nx.length ∧ p.nx.length ≤ 3
  nxb : ∀ p ∈ R, ∀ n ∈ p.nx, n < R.length
abbrev Std := Nat × List (List Int)
def encS (x : Std) : P := .tup [.int (x.1 : Int), .tup (x.2.map encR)]
def goP (H : Hs) (p : Plc) (cs : List (List Int)) : Option (List Std) := match p.it with
  | .ask q => (sureA H q cs).map fun _ => p.nx.map fun n => (n, cs)
  | it => some (p.nx.map fun n => (n, it.beh H cs))
def goL (H : Hs) (R : List Plc) (x : Std) : Option (List Std) := match R[x.1]? with
  | some p => goP H p x.2
  | none => none
structure HasGo (G : Prog) : Prop where
  sets : HasSets G
  f29 : G.fn 29 = some f_left_behind
  f22 : G.fn 22 = some f_asked
  f24 : G.fn 24 = some f_verdict
  f42 : G.fn 42 = some f_go_on
structure HasNext (G : Prog) : Prop where
  f17 : G.fn 17 = some w_done
  f23 : G.fn 23 = some w_answered
  f25 : G.fn 25 = some w_sure
  f30 : G.fn 30 = some w_behind
  f41 : G.fn 41 = some w_nexts
end Ev

namespace Ev
open PySem Ev.Code
local macro_rules | `(tactic| bv_omega) => `(tactic| repeat (first | with_reducible refine r_asg ?_ | with_reducible refine r_bin ?_ | with_reducible refine r_int ?_ | with_reducible refine r_str ?_ | with_reducible refine r_non ?_ | with_reducible refine r_bl ?_ | with_reducible refine r_blt ?_ | with_reducible refine r_call ?_ | with_reducible refine r_cons ?_ | with_reducible refine r_nil ?_ | with_reducible refine r_tup ?_ | with_reducible refine r_lst ?_ | with_reducible refine r_idx ?_ | with_reducible refine r_slcH ?_ | with_reducible refine r_slcL ?_ | with_reducible refine r_slcT ?_ | with_reducible refine r_slcN ?_ | with_reducible refine r_ret ?_ | with_reducible refine r_exp ?_ | with_reducible refine r_ifs ?_ | with_reducible refine r_ife ?_ | with_reducible refine r_tcmp ?_ | with_reducible refine r_tand ?_ | with_reducible refine r_tor ?_ | with_reducible refine r_tnot ?_ | with_reducible refine r_tval ?_ | with_reducible refine r_ttrue ?_ | with_reducible refine r_cmp ?_ | with_reducible refine r_notv ?_ | with_reducible refine r_andv ?_ | with_reducible refine r_orv ?_ | with_reducible refine r_gnm ?_ | with_reducible refine r_gcons ?_ | with_reducible refine r_gnil ?_ | with_reducible refine r_gsub ?_ | with_reducible refine r_for ?_ | with_reducible refine r_isq ?_ | with_reducible refine r_ienum ?_ | with_reducible refine r_skip ?_ | with_reducible refine r_retN ?_ | with_reducible refine r_brk ?_ | with_reducible refine r_cnt ?_ | with_reducible refine r_lc ?_ | with_reducible refine r_dc ?_ | with_reducible refine r_sset ?_ | with_reducible refine r_walkT ?_ | with_reducible refine v_int ?_ | with_reducible refine v_add ?_ | with_reducible refine v_sub ?_ | with_reducible refine v_lenTm ?_ | with_reducible refine v_lenT ?_ | with_reducible refine v_slcT ?_ | with_reducible refine v_listT ?_ | with_reducible refine or_rt ?_ | with_reducible refine or_nx ?_ | with_reducible refine or_ct ?_ | with_reducible refine or_bk ?_ | with_reducible refine fin_rt ?_ | with_reducible refine ex_int ?_ | ((with_reducible apply r_var); exact rfl) | with_reducible refine r_gtup rfl ?_ | with_reducible refine len_ok rfl ?_ | with_reducible refine ex_cmp eq_str ?_ | with_reducible refine ex_cmp ne_str ?_ | with_reducible refine ex_cmp eq_int ?_ | with_reducible refine ex_cmp ne_int ?_ | with_reducible refine ex_cmp lt_int ?_ | with_reducible refine ex_cmp le_int ?_ | with_reducible refine ex_cmp gt_int ?_ | with_reducible refine ex_cmp ge_int ?_ | with_reducible refine ex_cmp isN_v ?_ | with_reducible refine ex_cmp notN_v ?_ | with_reducible refine r_par ?_ | refine par_ok rfl ?_ | refine ex_idx rfl ?_ | refine if_t rfl ?_ | refine if_f rfl ?_ | refine ex_tru rfl ?_))
theorem Keep.app {h h' r : Hea} (k : Keep h h') : Keep h (h' ++ r) := k.trans .push
end Ev

namespace Ev
open PySem Ev.Code
local macro_rules | `(tactic| bv_omega) => `(tactic| repeat (first | with_reducible refine r_asg ?_ | with_reducible refine r_bin ?_ | with_reducible refine r_int ?_ | with_reducible refine r_str ?_ | with_reducible refine r_non ?_ | with_reducible refine r_bl ?_ | with_reducible refine r_blt ?_ | with_reducible refine r_call ?_ | with_reducible refine r_cons ?_ | with_reducible refine r_nil ?_ | with_reducible refine r_tup ?_ | with_reducible refine r_lst ?_ | with_reducible refine r_idx ?_ | with_reducible refine r_slcH ?_ | with_reducible refine r_slcL ?_ | with_reducible refine r_slcT ?_ | with_reducible refine r_slcN ?_ | with_reducible refine r_ret ?_ | with_reducible refine r_exp ?_ | with_reducible refine r_ifs ?_ | with_reducible refine r_ife ?_ | with_reducible refine r_tcmp ?_ | with_reducible refine r_tand ?_ | with_reducible refine r_tor ?_ | with_reducible refine r_tnot ?_ | with_reducible refine r_tval ?_ | with_reducible refine r_ttrue ?_ | with_reducible refine r_cmp ?_ | with_reducible refine r_notv ?_ | with_reducible refine r_andv ?_ | with_reducible refine r_orv ?_ | with_reducible refine r_gnm ?_ | with_reducible refine r_gcons ?_ | with_reducible refine r_gnil ?_ | with_reducible refine r_gsub ?_ | with_reducible refine r_for ?_ | with_reducible refine r_isq ?_ | with_reducible refine r_ienum ?_ | with_reducible refine r_skip ?_ | with_reducible refine r_retN ?_ | with_reducible refine r_brk ?_ | with_reducible refine r_cnt ?_ | with_reducible refine r_lc ?_ | with_reducible refine r_dc ?_ | with_reducible refine r_sset ?_ | with_reducible refine r_walkT ?_ | with_reducible refine v_int ?_ | with_reducible refine v_add ?_ | with_reducible refine v_sub ?_ | with_reducible refine v_lenTm ?_ | with_reducible refine v_lenT ?_ | with_reducible refine v_slcT ?_ | with_reducible refine v_listT ?_ | with_reducible refine or_rt ?_ | with_reducible refine or_nx ?_ | with_reducible refine or_ct ?_ | with_reducible refine or_bk ?_ | with_reducible refine fin_rt ?_ | with_reducible refine ex_int ?_ | ((with_reducible apply r_var); exact rfl) | with_reducible refine r_gtup rfl ?_ | with_reducible refine len_ok rfl ?_ | with_reducible refine ex_cmp eq_str ?_ | with_reducible refine ex_cmp ne_str ?_ | with_reducible refine ex_cmp eq_int ?_ | with_reducible refine ex_cmp ne_int ?_ | with_reducible refine ex_cmp lt_int ?_ | with_reducible refine ex_cmp le_int ?_ | with_reducible refine ex_cmp gt_int ?_ | with_reducible refine ex_cmp ge_int ?_ | with_reducible refine ex_cmp isN_v ?_ | with_reducible refine ex_cmp notN_v ?_ | with_reducible refine r_par ?_ | refine par_ok rfl ?_ | refine ex_idx rfl ?_ | refine if_t rfl ?_ | refine if_f rfl ?_ | refine ex_tru rfl ?_))
def subs {α : Type} : List α → List (List α)
  | [] => [[]]
  | a :: l => subs l ++ (subs l).map (a :: ·)
theorem subs_len {α : Type} : ∀ l : List α, (subs l).length = 2 ^ l.length
  | [] => rfl
  | a :: l => by simp only [subs, List.length_append, List.length_map, subs_len l, List.length_cons, Nat.pow_succ]; omega
theorem subs_mem {α : Type} {a b : List α} (h : a.Sublist b) : a ∈ subs b := by
  induction h with
  | slnil => simp [subs]
  | cons x _ ih => exact List.mem_append_left _ ih
  | cons_cons x _ ih => exact List.mem_append_right _ (List.mem_map.mpr ⟨_, ih, rfl⟩)
theorem asc_sub : ∀ {b a : List (List Int)}, Asc a → Asc b → (∀ x ∈ a, x ∈ b) → a.Sublist b
  | [], a, _, _, h => by
    cases a with
    | nil => exact .slnil
    | cons x a => exact absurd (h x List.mem_cons_self) (by simp)
  | y :: b, [], _, _, _ => List.nil_sublist _
  | y :: b, x :: a, ha, hb, h => by
    obtain ⟨a1, a2⟩ := List.pairwise_cons.mp ha
    obtain ⟨b1, b2⟩ := List.pairwise_cons.mp hb
    have irr : ∀ z, ¬ (rowLt z z = true) := fun z q => by rw [rowLt_irrefl] at q; cases q
    by_cases e : x = y
    · subst e
      refine .cons_cons _ (asc_sub a2 b2 fun z hz => ?_)
      rcases List.mem_cons.mp (h z (List.mem_cons_of_mem _ hz)) with q | q
      · subst q; exact absurd (a1 z hz) (irr z)
      · exact q
    · have hx : x ∈ b := by
        rcases List.mem_cons.mp (h x List.mem_cons_self) with q | q
        · exact absurd q e
        · exact q
      refine .cons _ (asc_sub ha b2 fun z hz => ?_)
      rcases List.mem_cons.mp (h z hz) with q | q
      · subst q
        rcases List.mem_cons.mp hz with q | q
        · exact absurd q.symm e
        · have l1 := a1 z q
          have l2 := b1 x hx
          have le1 := rowLt_le l1
          unfold rowLe at le1
          rw [l2] at le1; cases le1
      · exact q
structure OkS (H : Hs) (R : List Plc) (x : Std) : Prop where
  lt : x.1 < R.length
  good : Good H.zs x.2
  ne : x.2 ≠ []
def univ (H : Hs) : List Std := (List.range 8).flatMap fun i => (subs (contL H.zs)).map fun cs => (i, cs)
theorem univ_len (H : Hs) (h8 : (contL H.zs).length ≤ 8) : (univ H).length ≤ 2048 := by
  unfold univ
  rw [List.length_flatMap]
  simp only [List.length_map, subs_len, List.range, List.range.loop, List.map_cons, List.map_nil, List.sum_cons, List.sum_nil]
  have : 2 ^ (contL H.zs).length ≤ 2 ^ 8 := Nat.pow_le_pow_right (by omega) h8
  omega
theorem OkS.univ {H : Hs} (hz : Sizes H.zs) {R : List Plc} (rok : RtOk H R) {x : Std} (h : OkS H R x) : x ∈ univ H := by
  obtain ⟨_, casc, _, _⟩ := cont_ok hz
  refine List.mem_flatMap.mpr ⟨x.1, List.mem_range.mpr (by have := h.lt; have := rok.few; omega), List.mem_map.mpr ⟨x.2, subs_mem (asc_sub h.good.asc casc fun c hc => mem_contL (h.good.ct c hc)), rfl⟩⟩
theorem few_stands {H : Hs} (hz : Sizes H.zs) (h8 : (contL H.zs).length ≤ 8) {R : List Plc} (rok : RtOk H R) {f : List Std} (nd : f.Nodup) (h : ∀ x ∈ f, OkS H R x) : f.length ≤ 2048 :=
  Nat.le_trans (nodup_len nd fun x hx => (h x hx).univ hz rok) (univ_len H h8)
end Ev

namespace Ev
open PySem Ev.Code
inductive Dfs (succ : Std → List Std) : List Std → List Std → List Std → Prop
  | done (f : List Std) : Dfs succ f [] f
  | old {f w r : List Std} {x : Std} : x ∈ f → Dfs succ f w r → Dfs succ f (w ++ [x]) r
  | new {f w r : List Std} {x : Std} : x ∉ f → Dfs succ (f ++ [x]) (w ++ succ x) r → Dfs succ f (w ++ [x]) r
theorem setL_ne {rows : List (List Int)} (h : rows ≠ []) : setL rows ≠ [] := by
  intro z
  cases rows with
  | nil => exact h rfl
  | cons a r =>
    have : a ∈ setL (a :: r) := setL_mem.mpr List.mem_cons_self
    rw [z] at this; cases this
theorem Rit.ne {H : Hs} (ok : H.Ok) {it : Rit} (hi : it.ok H) {cs : List (List Int)} (h : cs ≠ []) : it.beh H cs ≠ [] := by
  cases it with
  | act it =>
    obtain ⟨hi, hs⟩ := hi
    cases it with
    | deed k => exact setL_ne (by simpa using h)
    | perh k => exact setL_ne (by simp [h])
    | stir c =>
      have hz := zs_at (zs := H.zs) (c := c) hi
      have := ok.sizes.at_ _ (List.mem_of_getElem? hz)
      refine setL_ne ?_
      unfold stirL
      cases cs with
      | nil => exact absurd rfl h
      | cons a r =>
        intro z
        rw [List.flatMap_cons, List.append_eq_nil_iff] at z
        have := z.1
        rw [List.map_eq_nil_iff, List.range_eq_nil] at this
        omega
    | saw c v => cases hs
  | _ => exact h
section
variable {h : Hea}
end
end Ev

set_option maxHeartbeats 2000000
namespace Ev
open PySem Ev.Code
structure HasStands (G : Prog) : Prop where
  go : HasGo G
  f20 : G.fn 20 = some f_seen_parts
  f53 : G.fn 53 = some f_looks_at
  f55 : G.fn 55 = some f_stands
end Ev

set_option maxHeartbeats 1000000
namespace Ev
open PySem Ev.Code
inductive Reach (succ : Std → List Std) : Std → Std → Prop
  | refl (x : Std) : Reach succ x x
  | step {x y z : Std} : Reach succ x y → z ∈ succ y → Reach succ x z
theorem Reach.trans {succ : Std → List Std} {x y z : Std} (a : Reach succ x y) (b : Reach succ y z) : Reach succ x z := by
  induction b with
  | refl => exact a
  | step _ h ih => exact .step ih h
theorem Reach.one {succ : Std → List Std} {x y : Std} (h : y ∈ succ x) : Reach succ x y := .step (.refl x) h
theorem Reach.mono {s1 s2 : Std → List Std} {P : Std → Prop} (hp : ∀ x y, P x → y ∈ s1 x → P y) (h : ∀ x, P x → ∀ y ∈ s1 x, y ∈ s2 x) {x y : Std} (hx : P x) (r : Reach s1 x y) : Reach s2 x y ∧ P y := by
  induction r with
  | refl => exact ⟨.refl _, hx⟩
  | step _ hz ih => exact ⟨.step ih.1 (h _ ih.2 _ hz), hp _ _ ih.2 hz⟩
section
variable {succ : Std → List Std}
theorem Dfs.sub {f w r : List Std} (d : Dfs succ f w r) : (∀ x ∈ f, x ∈ r) ∧ ∀ x ∈ w, x ∈ r := by
  induction d with
  | done f => exact ⟨fun _ h => h, fun _ h => nomatch h⟩
  | @old f w r x hx _ ih =>
    refine ⟨ih.1, fun y hy => ?_⟩
    rcases List.mem_append.mp hy with hy | hy
    · exact ih.2 y hy
    · rw [List.mem_singleton] at hy; rw [hy]; exact ih.1 x hx
  | @new f w r x _ _ ih =>
    refine ⟨fun y hy => ih.1 y (by simp [hy]), fun y hy => ?_⟩
    rcases List.mem_append.mp hy with hy | hy
    · exact ih.2 y (by simp [hy])
    · rw [List.mem_singleton] at hy; rw [hy]; exact ih.1 x (by simp)
end
theorem mem_stirL {z c : Nat} {cs : List (List Int)} {x : List Int} : x ∈ stirL z c cs ↔ ∃ r ∈ cs, ∃ v : Nat, v < z ∧ x = r.set c (v : Int) := by
  unfold stirL
  constructor
  · intro h
    obtain ⟨r, hr, h⟩ := List.mem_flatMap.mp h
    obtain ⟨v, hv, rfl⟩ := List.mem_map.mp h
    exact ⟨r, hr, v, List.mem_range.mp hv, by simp⟩
  · rintro ⟨r, hr, v, hv, rfl⟩
    exact List.mem_flatMap.mpr ⟨r, hr, List.mem_map.mpr ⟨v, List.mem_range.mpr hv, by simp⟩⟩
theorem Rit.split {H : Hs} {it : Rit} (hi : it.ok H) {cs : List (List Int)} {x : List Int} : x ∈ it.beh H cs ↔ ∃ c ∈ cs, x ∈ it.beh H [c] := by
  cases it with
  | act it =>
    obtain ⟨_, hs⟩ := hi
    cases it with
    | deed k =>
      show x ∈ setL _ ↔ ∃ c ∈ cs, x ∈ setL _
      simp only [setL_mem, List.mem_map, List.map_cons, List.map_nil, List.mem_singleton]
      exact ⟨fun ⟨c, hc, e⟩ => ⟨c, hc, e.symm⟩, fun ⟨c, hc, e⟩ => ⟨c, hc, e.symm⟩⟩
    | perh k =>
      show x ∈ setL _ ↔ ∃ c ∈ cs, x ∈ setL _
      simp only [setL_mem, List.mem_append, List.mem_map, List.map_cons, List.map_nil, List.mem_singleton]
      constructor
      · rintro (h | ⟨c, hc, e⟩)
        · exact ⟨x, h, .inl rfl⟩
        · exact ⟨c, hc, .inr e.symm⟩
      · rintro ⟨c, hc, rfl | e⟩
        · exact .inl hc
        · exact .inr ⟨c, hc, e.symm⟩
    | stir k =>
      show x ∈ setL _ ↔ ∃ c ∈ cs, x ∈ setL _
      simp only [setL_mem, mem_stirL, List.mem_singleton, exists_eq_left]
    | saw c v => cases hs
  | ask q => show x ∈ cs ↔ ∃ c ∈ cs, x ∈ [c]; simp
  | rest => show x ∈ cs ↔ ∃ c ∈ cs, x ∈ [c]; simp
end Ev

namespace Ev.Code
open PySem Ev
end Ev.Code
namespace Ev
open PySem Ev.Code
local macro_rules | `(tactic| bv_omega) => `(tactic| repeat (first | with_reducible refine r_asg ?_ | with_reducible refine r_bin ?_ | with_reducible refine r_int ?_ | with_reducible refine r_str ?_ | with_reducible refine r_non ?_ | with_reducible refine r_bl ?_ | with_reducible refine r_blt ?_ | with_reducible refine r_call ?_ | with_reducible refine r_cons ?_ | with_reducible refine r_nil ?_ | with_reducible refine r_tup ?_ | with_reducible refine r_lst ?_ | with_reducible refine r_idx ?_ | with_reducible refine r_slcH ?_ | with_reducible refine r_slcL ?_ | with_reducible refine r_slcT ?_ | with_reducible refine r_slcN ?_ | with_reducible refine r_ret ?_ | with_reducible refine r_exp ?_ | with_reducible refine r_ifs ?_ | with_reducible refine r_ife ?_ | with_reducible refine r_tcmp ?_ | with_reducible refine r_tand ?_ | with_reducible refine r_tor ?_ | with_reducible refine r_tnot ?_ | with_reducible refine r_tval ?_ | with_reducible refine r_ttrue ?_ | with_reducible refine r_cmp ?_ | with_reducible refine r_notv ?_ | with_reducible refine r_andv ?_ | with_reducible refine r_orv ?_ | with_reducible refine r_gnm ?_ | with_reducible refine r_gcons ?_ | with_reducible refine r_gnil ?_ | with_reducible refine r_gsub ?_ | with_reducible refine r_for ?_ | with_reducible refine r_isq ?_ | with_reducible refine r_ienum ?_ | with_reducible refine r_skip ?_ | with_reducible refine r_retN ?_ | with_reducible refine r_brk ?_ | with_reducible refine r_cnt ?_ | with_reducible refine r_lc ?_ | with_reducible refine r_dc ?_ | with_reducible refine r_sset ?_ | with_reducible refine r_walkT ?_ | with_reducible refine v_int ?_ | with_reducible refine v_add ?_ | with_reducible refine v_sub ?_ | with_reducible refine v_lenTm ?_ | with_reducible refine v_lenT ?_ | with_reducible refine v_slcT ?_ | with_reducible refine v_listT ?_ | with_reducible refine or_rt ?_ | with_reducible refine or_nx ?_ | with_reducible refine or_ct ?_ | with_reducible refine or_bk ?_ | with_reducible refine fin_rt ?_ | with_reducible refine ex_int ?_ | ((with_reducible apply r_var); exact rfl) | with_reducible refine r_gtup rfl ?_ | with_reducible refine len_ok rfl ?_ | with_reducible refine ex_cmp eq_str ?_ | with_reducible refine ex_cmp ne_str ?_ | with_reducible refine ex_cmp eq_int ?_ | with_reducible refine ex_cmp ne_int ?_ | with_reducible refine ex_cmp lt_int ?_ | with_reducible refine ex_cmp le_int ?_ | with_reducible refine ex_cmp gt_int ?_ | with_reducible refine ex_cmp ge_int ?_ | with_reducible refine ex_cmp isN_v ?_ | with_reducible refine ex_cmp notN_v ?_ | with_reducible refine r_par ?_ | refine par_ok rfl ?_ | refine ex_idx rfl ?_ | refine if_t rfl ?_ | refine if_f rfl ?_ | refine ex_tru rfl ?_))
end Ev

namespace Ev.Code
open PySem Ev
end Ev.Code
namespace Ev
open PySem Ev.Code
local macro_rules | `(tactic| bv_omega) => `(tactic| repeat (first | with_reducible refine r_asg ?_ | with_reducible refine r_bin ?_ | with_reducible refine r_int ?_ | with_reducible refine r_str ?_ | with_reducible refine r_non ?_ | with_reducible refine r_bl ?_ | with_reducible refine r_blt ?_ | with_reducible refine r_call ?_ | with_reducible refine r_cons ?_ | with_reducible refine r_nil ?_ | with_reducible refine r_tup ?_ | with_reducible refine r_lst ?_ | with_reducible refine r_idx ?_ | with_reducible refine r_slcH ?_ | with_reducible refine r_slcL ?_ | with_reducible refine r_slcT ?_ | with_reducible refine r_slcN ?_ | with_reducible refine r_ret ?_ | with_reducible refine r_exp ?_ | with_reducible refine r_ifs ?_ | with_reducible refine r_ife ?_ | with_reducible refine r_tcmp ?_ | with_reducible refine r_tand ?_ | with_reducible refine r_tor ?_ | with_reducible refine r_tnot ?_ | with_reducible refine r_tval ?_ | with_reducible refine r_ttrue ?_ | with_reducible refine r_cmp ?_ | with_reducible refine r_notv ?_ | with_reducible refine r_andv ?_ | with_reducible refine r_orv ?_ | with_reducible refine r_gnm ?_ | with_reducible refine r_gcons ?_ | with_reducible refine r_gnil ?_ | with_reducible refine r_gsub ?_ | with_reducible refine r_for ?_ | with_reducible refine r_isq ?_ | with_reducible refine r_ienum ?_ | with_reducible refine r_skip ?_ | with_reducible refine r_retN ?_ | with_reducible refine r_brk ?_ | with_reducible refine r_cnt ?_ | with_reducible refine r_lc ?_ | with_reducible refine r_dc ?_ | with_reducible refine r_sset ?_ | with_reducible refine r_walkT ?_ | with_reducible refine v_int ?_ | with_reducible refine v_add ?_ | with_reducible refine v_sub ?_ | with_reducible refine v_lenTm ?_ | with_reducible refine v_lenT ?_ | with_reducible refine v_slcT ?_ | with_reducible refine v_listT ?_ | with_reducible refine or_rt ?_ | with_reducible refine or_nx ?_ | with_reducible refine or_ct ?_ | with_reducible refine or_bk ?_ | with_reducible refine fin_rt ?_ | with_reducible refine ex_int ?_ | ((with_reducible apply r_var); exact rfl) | with_reducible refine r_gtup rfl ?_ | with_reducible refine len_ok rfl ?_ | with_reducible refine ex_cmp eq_str ?_ | with_reducible refine ex_cmp ne_str ?_ | with_reducible refine ex_cmp eq_int ?_ | with_reducible refine ex_cmp ne_int ?_ | with_reducible refine ex_cmp lt_int ?_ | with_reducible refine ex_cmp le_int ?_ | with_reducible refine ex_cmp gt_int ?_ | with_reducible refine ex_cmp ge_int ?_ | with_reducible refine ex_cmp isN_v ?_ | with_reducible refine ex_cmp notN_v ?_ | with_reducible refine r_par ?_ | refine par_ok rfl ?_ | refine ex_idx rfl ?_ | refine if_t rfl ?_ | refine if_f rfl ?_ | refine ex_tru rfl ?_))
def L5 : List (List Int) := [[2], [2, 2], [2, 2], [3], [4]]
theorem L5_ok {zs : List Int} (hz : zs ∈ L5) : Sizes zs ∧ (contL zs).length ≤ 4 := by
  refine ⟨sizesB (by decide) hz, ?_⟩
  have : ∀ zs ∈ L5, (contL zs).length ≤ 4 := by decide +kernel
  exact this zs hz
theorem small_house_spec {G : Prog} (hH : HasHouse G) (f38 : G.fn 38 = some w_small_house) {W d n : Nat} {h : Hea} (p : Pen h n) (hn : n + 1100 < 18446744073709551616) :
    Ret (callN G W (d + 9) 38 [.ref 2] h) fun v h' => (∃ H : Hs, v = H.enc ∧ H.Ok ∧ H.zs ∈ L5 ∧ Tx H.enc 500000 10) ∧ Pen h' (n + 1003) ∧ Keep h h' := by
  have hgt := pen_gt p
  rw [call_fn f38]
  refine run_ret rfl ?_
  unfold w_small_house
  show Ret (ev (k := .s) _ _ () [some (.ref 2), none] h) _
  bv_omega
  refine (one_of_spec hH.pen hH.f4 (d := d + 5) (rows := .ref h.length) (xs := L5.map encR) (p.push (r := [.lst (L5.map encR)])) (by omega) (.inl ⟨h.length, rfl, by omega, by simp⟩) (by decide) (by decide)).imp fun v h1 ⟨hv, p1, k1⟩ => ?_
  obtain ⟨zs, hz, rfl⟩ := List.mem_map.mp hv
  bv_omega
  refine (draw_lit hH.pen (d := d + 6) p1 (by omega) 4 rfl (by decide) (by decide)).imp fun w h2 ⟨⟨m, e, hm⟩, p2, k2⟩ => ?_
  subst e
  bv_omega
  refine (draw_lit hH.pen (d := d + 6) p2 (by omega) 3 rfl (by decide) (by decide)).imp fun w h3 ⟨⟨e, ee, he⟩, p3, k3⟩ => ?_
  subst ee
  have hzz := (L5_ok hz).1
  refine r_nil ?_
  rw [show (3 : Int) + (m : Int) = ((m + 3 : Nat) : Int) by omega]
  refine (house_spec hH hzz (d := d) p3 (by omega) (by omega) (by omega) (by omega)).imp fun v h4 ⟨hv, p4, k4⟩ => ?_
  have tx := house_tx hzz (by omega) (by omega) hv
  obtain ⟨H, rfl, hok, ez, _⟩ := hv.hs hzz (by omega) (by omega) (by omega)
  exact ⟨_, rfl, ⟨H, rfl, hok, by rw [ez]; exact hz, tx⟩, p4.mono (by omega), (((Keep.push.trans k1).trans k2).trans k3).trans k4⟩
theorem nin_pln {n : Nat} (hn : n ≤ 60) {x : P} {ys : List P} (hx : plnP n x = true) (hy : plnPs n ys = true) {g : Hea} : cmpV .nin x (.tup ys) g = some (!decide (x ∈ ys)) := by
  simp only [cmpV, inV, inD_pln hn hx hy]; rfl
theorem mem_encR {x : List Int} {f : List (List Int)} : encR x ∈ f.map encR ↔ x ∈ f := by
  constructor
  · intro h
    obtain ⟨y, hy, e⟩ := List.mem_map.mp h
    rw [← encR_inj e]; exact hy
  · exact fun h => List.mem_map.mpr ⟨x, h, rfl⟩
end Ev

namespace Ev
open PySem Ev.Code
end Ev

namespace Ev
open PySem Ev.Code
local macro_rules | `(tactic| bv_omega) => `(tactic| repeat (first | with_reducible refine r_asg ?_ | with_reducible refine r_bin ?_ | with_reducible refine r_int ?_ | with_reducible refine r_str ?_ | with_reducible refine r_non ?_ | with_reducible refine r_bl ?_ | with_reducible refine r_blt ?_ | with_reducible refine r_call ?_ | with_reducible refine r_cons ?_ | with_reducible refine r_nil ?_ | with_reducible refine r_tup ?_ | with_reducible refine r_lst ?_ | with_reducible refine r_idx ?_ | with_reducible refine r_slcH ?_ | with_reducible refine r_slcL ?_ | with_reducible refine r_slcT ?_ | with_reducible refine r_slcN ?_ | with_reducible refine r_ret ?_ | with_reducible refine r_exp ?_ | with_reducible refine r_ifs ?_ | with_reducible refine r_ife ?_ | with_reducible refine r_tcmp ?_ | with_reducible refine r_tand ?_ | with_reducible refine r_tor ?_ | with_reducible refine r_tnot ?_ | with_reducible refine r_tval ?_ | with_reducible refine r_ttrue ?_ | with_reducible refine r_cmp ?_ | with_reducible refine r_notv ?_ | with_reducible refine r_andv ?_ | with_reducible refine r_orv ?_ | with_reducible refine r_gnm ?_ | with_reducible refine r_gcons ?_ | with_reducible refine r_gnil ?_ | with_reducible refine r_gsub ?_ | with_reducible refine r_for ?_ | with_reducible refine r_isq ?_ | with_reducible refine r_ienum ?_ | with_reducible refine r_skip ?_ | with_reducible refine r_retN ?_ | with_reducible refine r_brk ?_ | with_reducible refine r_cnt ?_ | with_reducible refine r_lc ?_ | with_reducible refine r_dc ?_ | with_reducible refine r_sset ?_ | with_reducible refine r_walkT ?_ | with_reducible refine v_int ?_ | with_reducible refine v_add ?_ | with_reducible refine v_sub ?_ | with_reducible refine v_lenTm ?_ | with_reducible refine v_lenT ?_ | with_reducible refine v_slcT ?_ | with_reducible refine v_listT ?_ | with_reducible refine or_rt ?_ | with_reducible refine or_nx ?_ | with_reducible refine or_ct ?_ | with_reducible refine or_bk ?_ | with_reducible refine fin_rt ?_ | with_reducible refine ex_int ?_ | ((with_reducible apply r_var); exact rfl) | with_reducible refine r_gtup rfl ?_ | with_reducible refine len_ok rfl ?_ | with_reducible refine ex_cmp eq_str ?_ | with_reducible refine ex_cmp ne_str ?_ | with_reducible refine ex_cmp eq_int ?_ | with_reducible refine ex_cmp ne_int ?_ | with_reducible refine ex_cmp lt_int ?_ | with_reducible refine ex_cmp le_int ?_ | with_reducible refine ex_cmp gt_int ?_ | with_reducible refine ex_cmp ge_int ?_ | with_reducible refine ex_cmp isN_v ?_ | with_reducible refine ex_cmp notN_v ?_ | with_reducible refine r_par ?_ | refine par_ok rfl ?_ | refine ex_idx rfl ?_ | refine if_t rfl ?_ | refine if_f rfl ?_ | refine ex_tru rfl ?_))
end Ev

set_option maxHeartbeats 2000000
namespace Ev
open PySem Ev.Code
structure HasCourse (G : Prog) : Prop where
  next : HasNext G
  f21 : G.fn 21 = some w_parted
  f54 : G.fn 54 = some w_course
def LooksAt (x : Std) (ll : Nat) (ks : List (Nat × List (Nat × List (List Int)))) (h : Hea) : Prop :=
  ∃ ls : List Nat, ls.length = ks.length ∧ h[ll]? = some (.lst ((ks.zip ls).map fun y => P.tup [.int (y.1.1 : Int), .ref y.2])) ∧ ∀ y ∈ ks.zip ls, ll < y.2 ∧ h[y.2]? = some (.lst (y.1.2.map fun q => encS (x.1, q.2)))
theorem LooksAt.grow {x : Std} {ll : Nat} {ks : List (Nat × List (Nat × List (List Int)))} {h h' : Hea} (a : LooksAt x ll ks h) (g : Grow h h') : LooksAt x ll ks h' := by
  obtain ⟨ls, e1, e2, e3⟩ := a
  exact ⟨ls, e1, g.get e2, fun y hy => ⟨(e3 y hy).1, g.get (e3 y hy).2⟩⟩
theorem LooksAt.set {x : Std} {ll l : Nat} {ks : List (Nat × List (Nat × List (List Int)))} {h : Hea} (a : LooksAt x ll ks h) (hl : l < ll) (o : O) : LooksAt x ll ks (h.set l o) := by
  obtain ⟨ls, e1, e2, e3⟩ := a
  refine ⟨ls, e1, by rw [List.getElem?_set_ne (by omega)]; exact e2, fun y hy => ⟨(e3 y hy).1, ?_⟩⟩
  have := (e3 y hy).1
  rw [List.getElem?_set_ne (by omega)]; exact (e3 y hy).2
theorem LooksAt.same {x : Std} {ll : Nat} {ks : List (Nat × List (Nat × List (List Int)))} {h : Hea} (a : LooksAt x ll ks h) : ∃ ps, h[ll]? = some (.lst ps) ∧ ps.length = ks.length ∧ h.set ll (.lst (ps ++ [])) = h := by
  obtain ⟨ls, e1, e2, e3⟩ := a
  refine ⟨_, e2, by simp [e1], ?_⟩
  obtain ⟨hlt, e⟩ := List.getElem?_eq_some_iff.mp e2
  rw [List.append_nil, ← e]
  exact List.set_getElem_self _
end Ev

namespace Ev
open PySem L2
structure ES where
  defs : List (Str × Nat)
  cons : List (Str × Nat)
  blts : List Str
  flds : List (Str × Str)
  mkrs : List (Str × Nat)
  mths : List ((Str × Str) × Nat)
structure MI where
  cls : Str
  qual : Str
  d : DI
def MI.he (m : MI) : He.DefD := ⟨(m.cls, some m.d.name), m.d.name, m.qual, defArgs m.d.st, defBody m.d.st, defScope m.d.st, [], []⟩
structure KI where
  c : Str
  mkr : Nat
  init : Nat
  n : Nat
  flds : List Str
def varsT : Nat → Nat → T .a
  | _, 0 => .nil
  | i, n + 1 => .cons (.var i) (varsT (i + 1) n)
def mkFn (c : Str) (init n : Nat) : Fn := ⟨n, n + 1, .asg (.gnm n) (.new c) (.ifs (.tcmp .isN (.call init (.cons (.var n) (varsT 0 n))) .non) (.ret (.var n)) .deadS .deadS)⟩
theorem rb {α β : Type} {a : α} {h : Hea} {f : α → Hea → R β} : (R.ok a h).bind f = f a h := rfl
section
variable {P : Program} {w : World} {K : PySem.W.Frag} {mg : Str → Option Value} {base : Heap}
end
end Ev


namespace Ev
open PySem L2
structure AI where
  key : Str
  d : DI
def AI.he (a : AI) : He.DefD := ⟨(a.key, none), a.d.name, a.d.name, defArgs a.d.st, defBody a.d.st, defScope a.d.st, [], []⟩
end Ev

set_option maxHeartbeats 1000000
namespace Ow
open PySem Ev

inductive V where
  | p (x : P)
  | tup (vs : List V)
  | lst (vs : List V)
  | dic (ks : List P) (vs : List V)
  | ins (c : Str) (ns : List Str) (vs : List V)

mutual
def Sep (A : List Nat) (h : Hea) : V → P → Prop
  | .p x, q => q = x
  | .tup vs, q => ∃ ps, q = .tup ps ∧ Seps A h vs ps
  | .lst vs, q => ∃ l ps, q = .ref l ∧ l ∉ A ∧ h[l]? = some (.lst ps) ∧ Seps A h vs ps
  | .dic ks vs, q => ∃ l ps, q = .ref l ∧ l ∉ A ∧ h[l]? = some (.dic (ks.zip ps)) ∧ ks.length = vs.length ∧ Seps A h vs ps
  | .ins c ns vs, q => ∃ l ps, q = .ref l ∧ l ∉ A ∧ h[l]? = some (.ins c (ns.zip ps)) ∧ ns.length = vs.length ∧ Seps A h vs ps
def Seps (A : List Nat) (h : Hea) : List V → List P → Prop
  | [], ps => ps = []
  | v :: vs, ps => ∃ q qs, ps = q :: qs ∧ Sep A h v q ∧ Seps A h vs qs
end
def SepO (A : List Nat) (h : Hea) : V → O → Prop
  | .lst vs, o => ∃ ps, o = .lst ps ∧ Seps A h vs ps
  | .dic ks vs, o => ∃ ps, o = .dic (ks.zip ps) ∧ ks.length = vs.length ∧ Seps A h vs ps
  | .ins c ns vs, o => ∃ ps, o = .ins c (ns.zip ps) ∧ ns.length = vs.length ∧ Seps A h vs ps
  | _, _ => False
theorem Sep.ofO {A : List Nat} {h : Hea} {v : V} {o : O} {l : Nat} (hl : l ∉ A) (e : h[l]? = some o) (s : SepO A h v o) : Sep A h v (.ref l) := by
  cases v with
  | p _ => exact s.elim
  | tup _ => exact s.elim
  | lst vs => obtain ⟨ps, rfl, s⟩ := s; rw [Sep]; exact ⟨l, ps, rfl, hl, e, s⟩
  | dic ks vs => obtain ⟨ps, rfl, n, s⟩ := s; rw [Sep]; exact ⟨l, ps, rfl, hl, e, n, s⟩
  | ins c ns vs => obtain ⟨ps, rfl, n, s⟩ := s; rw [Sep]; exact ⟨l, ps, rfl, hl, e, n, s⟩
section
variable {A A' : List Nat} {h h' : Hea}
mutual
theorem Sep.move (H : ∀ l o, l ∉ A → h[l]? = some o → l ∉ A' ∧ h'[l]? = some o) : ∀ (v : V) (q : P), Sep A h v q → Sep A' h' v q
  | .p x, q, s => by rw [Sep] at s ⊢; exact s
  | .tup vs, q, s => by
    rw [Sep] at s ⊢
    obtain ⟨ps, e, s⟩ := s
    exact ⟨ps, e, Seps.move H vs ps s⟩
  | .lst vs, q, s => by
    rw [Sep] at s ⊢
    obtain ⟨l, ps, e, hl, eo, s⟩ := s
    exact ⟨l, ps, e, (H l _ hl eo).1, (H l _ hl eo).2, Seps.move H vs ps s⟩
  | .dic ks vs, q, s => by
    rw [Sep] at s ⊢
    obtain ⟨l, ps, e, hl, eo, n, s⟩ := s
    exact ⟨l, ps, e, (H l _ hl eo).1, (H l _ hl eo).2, n, Seps.move H vs ps s⟩
  | .ins c ns vs, q, s => by
    rw [Sep] at s ⊢
    obtain ⟨l, ps, e, hl, eo, n, s⟩ := s
    exact ⟨l, ps, e, (H l _ hl eo).1, (H l _ hl eo).2, n, Seps.move H vs ps s⟩
theorem Seps.move (H : ∀ l o, l ∉ A → h[l]? = some o → l ∉ A' ∧ h'[l]? = some o) : ∀ (vs : List V) (ps : List P), Seps A h vs ps → Seps A' h' vs ps
  | [], ps, s => by rw [Seps] at s ⊢; exact s
  | v :: vs, ps, s => by
    rw [Seps] at s ⊢
    obtain ⟨q, qs, e, s1, s2⟩ := s
    exact ⟨q, qs, e, Sep.move H v q s1, Seps.move H vs qs s2⟩
end
theorem SepO.move (H : ∀ l o, l ∉ A → h[l]? = some o → l ∉ A' ∧ h'[l]? = some o) {v : V} {o : O} (s : SepO A h v o) : SepO A' h' v o := by
  cases v with
  | p _ => exact s.elim
  | tup _ => exact s.elim
  | lst vs => obtain ⟨ps, rfl, s⟩ := s; exact ⟨ps, rfl, Seps.move H vs ps s⟩
  | dic ks vs => obtain ⟨ps, rfl, n, s⟩ := s; exact ⟨ps, rfl, n, Seps.move H vs ps s⟩
  | ins c ns vs => obtain ⟨ps, rfl, n, s⟩ := s; exact ⟨ps, rfl, n, Seps.move H vs ps s⟩
end
theorem Seps.len {A : List Nat} {h : Hea} : ∀ {vs : List V} {ps : List P}, Seps A h vs ps → ps.length = vs.length
  | [], ps, s => by rw [Seps] at s; rw [s]; rfl
  | v :: vs, ps, s => by
    rw [Seps] at s
    obtain ⟨q, qs, rfl, _, s⟩ := s
    simp [Seps.len s]
theorem Seps.app {A : List Nat} {h : Hea} : ∀ {vs ws : List V} {ps qs : List P}, Seps A h vs ps → Seps A h ws qs → Seps A h (vs ++ ws) (ps ++ qs)
  | [], ws, ps, qs, s, t => by rw [Seps] at s; rw [s]; exact t
  | v :: vs, ws, ps, qs, s, t => by
    rw [Seps] at s
    obtain ⟨q, r, rfl, s1, s2⟩ := s
    rw [List.cons_append, Seps]
    exact ⟨q, r ++ qs, rfl, s1, s2.app t⟩
theorem Seps.one {A : List Nat} {h : Hea} {v : V} {q : P} (s : Sep A h v q) : Seps A h [v] [q] := by
  rw [Seps]; exact ⟨q, [], rfl, s, by rw [Seps]⟩
theorem Seps.nil {A : List Nat} {h : Hea} : Seps A h [] [] := by rw [Seps]
theorem Seps.cons {A : List Nat} {h : Hea} {v : V} {q : P} {vs : List V} {qs : List P} (s : Sep A h v q) (t : Seps A h vs qs) : Seps A h (v :: vs) (q :: qs) := by
  rw [Seps]; exact ⟨q, qs, rfl, s, t⟩
theorem Seps.get {A : List Nat} {h : Hea} : ∀ {vs : List V} {ps : List P} {i : Nat} {v : V}, Seps A h vs ps → vs[i]? = some v → ∃ q, ps[i]? = some q ∧ Sep A h v q
  | [], _, _, _, _, e => nomatch e
  | w :: vs, ps, i, v, s, e => by
    rw [Seps] at s
    obtain ⟨q, qs, rfl, s1, s2⟩ := s
    cases i with
    | zero => cases e; exact ⟨q, rfl, s1⟩
    | succ i => exact s2.get (i := i) e
theorem Seps.set {A : List Nat} {h : Hea} : ∀ {vs : List V} {ps : List P} {i : Nat} {v : V} {q : P}, Seps A h vs ps → Sep A h v q → Seps A h (vs.set i v) (ps.set i q)
  | [], ps, i, v, q, s, t => by rw [Seps] at s; rw [s]; exact Seps.nil
  | w :: vs, ps, i, v, q, s, t => by
    rw [Seps] at s
    obtain ⟨r, qs, rfl, s1, s2⟩ := s
    cases i with
    | zero => exact .cons t s2
    | succ i => exact .cons s1 (s2.set t)
theorem Seps.ps {A : List Nat} {h : Hea} : ∀ (ps qs : List P), Seps A h (ps.map .p) qs ↔ qs = ps
  | [], qs => by rw [List.map_nil, Seps]
  | p :: ps, qs => by
    rw [List.map_cons, Seps]
    constructor
    · rintro ⟨q, r, rfl, s, t⟩
      rw [Sep] at s
      rw [s, (Seps.ps ps r).mp t]
    · rintro rfl
      exact ⟨p, ps, rfl, by rw [Sep], (Seps.ps ps ps).mpr rfl⟩

structure Ext (B : List Nat) (h h' : Hea) : Prop where
  len : h.length ≤ h'.length
  at_ : ∀ l o, l ∉ B → h[l]? = some o → h'[l]? = some o
theorem Ext.refl {B : List Nat} {h : Hea} : Ext B h h := ⟨Nat.le_refl _, fun _ _ _ e => e⟩
theorem Ext.trans {B B1 : List Nat} {h h1 h2 : Hea} (a : Ext B h h1) (b : Ext B1 h1 h2) (hb : ∀ l ∈ B1, l ∈ B ∨ h.length ≤ l) : Ext B h h2 :=
  ⟨Nat.le_trans a.len b.len, fun l o hl e => b.at_ l o (fun hm => by
    rcases hb l hm with q | q
    · exact hl q
    · have := (List.getElem?_eq_some_iff.mp e).1; omega) (a.at_ l o hl e)⟩
theorem Ext.mono {B B' : List Nat} {h h' : Hea} (a : Ext B h h') (hb : ∀ l ∈ B, l ∈ B') : Ext B' h h' := ⟨a.len, fun l o hl e => a.at_ l o (fun q => hl (hb l q)) e⟩
theorem Ext.push {B : List Nat} {h r : Hea} : Ext B h (h ++ r) := ⟨by simp, fun l o _ e => by rw [List.getElem?_append_left (List.getElem?_eq_some_iff.mp e).1]; exact e⟩
theorem Ext.put {B : List Nat} {h : Hea} {l : Nat} {o : O} (hl : l ∈ B) : Ext B h (h.set l o) := ⟨by simp, fun k u hk e => by rw [List.getElem?_set_ne (fun z : l = k => hk (by rw [← z]; exact hl))]; exact e⟩
theorem Ext.grow {h h' : Hea} (a : Ext [] h h') : Grow h h' := by
  refine ⟨h'.drop h.length, ?_⟩
  refine List.ext_getElem? fun i => ?_
  by_cases hi : i < h.length
  · rw [List.getElem?_append_left hi]
    have := a.at_ i _ (by simp) (List.getElem?_eq_getElem hi)
    rw [this, List.getElem?_eq_getElem hi]
  · rw [List.getElem?_append_right (by omega), List.getElem?_drop]
    congr 1; omega
theorem Ext.ofGrow {B : List Nat} {h h' : Hea} (g : Grow h h') : Ext B h h' := by obtain ⟨r, rfl⟩ := g; exact .push

inductive Sl where
  | no
  | sh (v : V)
  | ow (v : V)
structure St where
  E : List Sl
  pn : Option Nat
def bw (pn : Option Nat) (As : List Nat) : List Nat := match pn with
  | none => As
  | some _ => 2 :: As
structure Ok (A0 : List Nat) (h : Hea) (σ : St) (s : Slots) (As : List Nat) : Prop where
  len : s.length = σ.E.length
  sh : ∀ (i : Nat) (v : V), σ.E[i]? = some (.sh v) → ∃ q, s[i]? = some (some q) ∧ Sep (A0 ++ As) h v q
  ow : ∀ (i : Nat) (v : V), σ.E[i]? = some (.ow v) → ∃ l x, s[i]? = some (some (.ref l)) ∧ l ∈ As ∧ h[l]? = some x ∧ SepO (A0 ++ As) h v x
  inj : ∀ (i j : Nat) (v w : V) (l : Nat), σ.E[i]? = some (.ow v) → σ.E[j]? = some (.ow w) → s[i]? = some (some (.ref l)) → s[j]? = some (some (.ref l)) → i = j
  dj : ∀ a ∈ As, a ∉ A0
  bd : ∀ a ∈ A0 ++ As, a < h.length
  pen : ∀ n, σ.pn = some n → Pen h n ∧ 1 ∈ A0 ∧ 2 ∈ A0
theorem keep_at {A A' B : List Nat} {h h' : Hea} (x : Ext B h h') (hB : ∀ b ∈ B, b ∈ A) (hA : ∀ a ∈ A', a ∈ A ∨ h.length ≤ a) : ∀ l o, l ∉ A → h[l]? = some o → l ∉ A' ∧ h'[l]? = some o := fun l o hl e =>
  ⟨fun q => by
    rcases hA l q with q | q
    · exact hl q
    · have := (List.getElem?_eq_some_iff.mp e).1; omega, x.at_ l o (fun q => hl (hB l q)) e⟩
theorem bw_sub {pn : Option Nat} {A0 As : List Nat} (h : ∀ n, pn = some n → 2 ∈ A0) : ∀ b ∈ bw pn As, b ∈ A0 ++ As := fun b hb => by
  cases pn with
  | none => exact List.mem_append_right _ hb
  | some n =>
    rcases List.mem_cons.mp hb with rfl | hb
    · exact List.mem_append_left _ (h n rfl)
    · exact List.mem_append_right _ hb
theorem Ok.bw_sub {A0 : List Nat} {h : Hea} {σ : St} {s : Slots} {As : List Nat} (k : Ok A0 h σ s As) : ∀ b ∈ bw σ.pn As, b ∈ A0 ++ As := Ow.bw_sub fun n e => (k.pen n e).2.2
theorem Sep.later {A0 As As' B : List Nat} {h h' : Hea} {v : V} {q : P} (s : Sep (A0 ++ As) h v q) (x : Ext B h h') (hB : ∀ b ∈ B, b ∈ A0 ++ As) (hA : ∀ a ∈ As', a ∈ As ∨ h.length ≤ a) : Sep (A0 ++ As') h' v q :=
  s.move (keep_at x hB fun a ha => by
    rcases List.mem_append.mp ha with q | q
    · exact .inl (List.mem_append_left _ q)
    · rcases hA a q with q | q
      · exact .inl (List.mem_append_right _ q)
      · exact .inr q) v q
theorem Seps.later {A0 As As' B : List Nat} {h h' : Hea} {v : List V} {q : List P} (s : Seps (A0 ++ As) h v q) (x : Ext B h h') (hB : ∀ b ∈ B, b ∈ A0 ++ As) (hA : ∀ a ∈ As', a ∈ As ∨ h.length ≤ a) : Seps (A0 ++ As') h' v q :=
  Seps.move (keep_at x hB fun a ha => by
    rcases List.mem_append.mp ha with q | q
    · exact .inl (List.mem_append_left _ q)
    · rcases hA a q with q | q
      · exact .inl (List.mem_append_right _ q)
      · exact .inr q) v q s
section
variable {A0 As : List Nat} {h h' : Hea} {σ : St} {s : Slots}
theorem Ok.grow (k : Ok A0 h σ s As) (x : Ext [] h h') : Ok A0 h' σ s As := by
  have m : ∀ l o, l ∉ A0 ++ As → h[l]? = some o → l ∉ A0 ++ As ∧ h'[l]? = some o := keep_at x (by simp) fun a ha => .inl ha
  refine ⟨k.len, fun i v e => ?_, fun i v e => ?_, k.inj, k.dj, fun a ha => ?_, fun n e => ?_⟩
  · obtain ⟨q, e1, e2⟩ := k.sh i v e
    exact ⟨q, e1, e2.move m v q⟩
  · obtain ⟨l, o, e1, e2, e3, e4⟩ := k.ow i v e
    exact ⟨l, o, e1, e2, x.at_ l o (by simp) e3, e4.move m⟩
  · exact Nat.lt_of_lt_of_le (k.bd a ha) x.len
  · exact ⟨(x.grow).pen (k.pen n e).1, (k.pen n e).2⟩
theorem Ok.setSh (k : Ok A0 h σ s As) {i : Nat} {v : V} {q : P} (hq : Sep (A0 ++ As) h v q) : Ok A0 h ⟨σ.E.set i (.sh v), σ.pn⟩ (s.set i (some q)) As := by
  refine ⟨by simp [k.len], fun j w e => ?_, fun j w e => ?_, fun j j' w w' l e1 e2 e3 e4 => ?_, k.dj, k.bd, k.pen⟩
  · simp only [List.getElem?_set] at e ⊢
    split at e
    · rename_i hij
      subst hij
      split at e
      · rename_i hl
        cases e
        rw [if_pos rfl, if_pos (by rw [k.len]; exact hl)]
        exact ⟨q, rfl, hq⟩
      · cases e
    · rename_i hij
      rw [if_neg hij]
      exact k.sh j w e
  · simp only [List.getElem?_set] at e ⊢
    split at e
    · split at e <;> cases e
    · rename_i hij
      rw [if_neg hij]
      exact k.ow j w e
  · simp only [List.getElem?_set] at e1 e2 e3 e4
    split at e1
    · split at e1 <;> cases e1
    split at e2
    · split at e2 <;> cases e2
    rename_i h1 h2
    rw [if_neg h1] at e3
    rw [if_neg h2] at e4
    exact k.inj j j' w w' l e1 e2 e3 e4
theorem Ok.setNo (k : Ok A0 h σ s As) {i : Nat} {o : Option P} : Ok A0 h ⟨σ.E.set i .no, σ.pn⟩ (s.set i o) As := by
  refine ⟨by simp [k.len], fun j w e => ?_, fun j w e => ?_, fun j j' w w' l e1 e2 e3 e4 => ?_, k.dj, k.bd, k.pen⟩
  · simp only [List.getElem?_set] at e ⊢
    split at e
    · split at e <;> cases e
    · rename_i hij
      rw [if_neg hij]
      exact k.sh j w e
  · simp only [List.getElem?_set] at e ⊢
    split at e
    · split at e <;> cases e
    · rename_i hij
      rw [if_neg hij]
      exact k.ow j w e
  · simp only [List.getElem?_set] at e1 e2 e3 e4
    split at e1
    · split at e1 <;> cases e1
    split at e2
    · split at e2 <;> cases e2
    rename_i h1 h2
    rw [if_neg h1] at e3
    rw [if_neg h2] at e4
    exact k.inj j j' w w' l e1 e2 e3 e4
theorem Ok.freeze (k : Ok A0 h σ s As) {i : Nat} {v : V} (e : σ.E[i]? = some (.ow v)) : ∃ l, s[i]? = some (some (.ref l)) ∧ l ∈ As ∧ Ok A0 h ⟨σ.E.set i (.sh v), σ.pn⟩ s (As.filter (· ≠ l)) ∧ Sep (A0 ++ As.filter (· ≠ l)) h v (.ref l) := by
  obtain ⟨l, x, es, hl, ex, hx⟩ := k.ow i v e
  have m : ∀ a o, a ∉ A0 ++ As → h[a]? = some o → a ∉ A0 ++ As.filter (· ≠ l) ∧ h[a]? = some o := fun a o ha eo => ⟨fun q => ha (by
    rcases List.mem_append.mp q with q | q
    · exact List.mem_append_left _ q
    · exact List.mem_append_right _ (List.mem_filter.mp q).1), eo⟩
  have hsep : Sep (A0 ++ As.filter (· ≠ l)) h v (.ref l) := Sep.ofO (by
    intro q
    rcases List.mem_append.mp q with q | q
    · exact k.dj l hl q
    · have := (List.mem_filter.mp q).2
      simp at this) ex (hx.move m)
  refine ⟨l, es, hl, ?_, hsep⟩
  refine ⟨by simp [k.len], fun j w ej => ?_, fun j w ej => ?_, fun j j' w w' l' e1 e2 e3 e4 => ?_, fun a ha => k.dj a (List.mem_filter.mp ha).1, fun a ha => k.bd a (by
    rcases List.mem_append.mp ha with q | q
    · exact List.mem_append_left _ q
    · exact List.mem_append_right _ (List.mem_filter.mp q).1), k.pen⟩
  · simp only [List.getElem?_set] at ej
    split at ej
    · rename_i hij
      subst hij
      split at ej
      · cases ej; exact ⟨_, es, hsep⟩
      · cases ej
    · obtain ⟨q, e1, e2⟩ := k.sh j w ej
      exact ⟨q, e1, e2.move m w q⟩
  · simp only [List.getElem?_set] at ej
    split at ej
    · split at ej <;> cases ej
    · rename_i hij
      obtain ⟨l', o, e1, e2, e3, e4⟩ := k.ow j w ej
      refine ⟨l', o, e1, List.mem_filter.mpr ⟨e2, ?_⟩, e3, e4.move m⟩
      simp only [ne_eq, decide_not, Bool.not_eq_true', decide_eq_false_iff_not]
      rintro rfl
      exact hij (k.inj i j v w l' e ej es e1)
  · simp only [List.getElem?_set] at e1 e2
    split at e1
    · split at e1 <;> cases e1
    split at e2
    · split at e2 <;> cases e2
    exact k.inj j j' w w' l' e1 e2 e3 e4
theorem Ok.setOw {l : Nat} {x : O} {v : V} (k : Ok (l :: A0) h σ s As) {i : Nat} (ex : h[l]? = some x) (hx : SepO (l :: A0 ++ As) h v x) (hl0 : l ∉ A0) (hl2 : ∀ n, σ.pn = some n → 2 < l) : Ok A0 h ⟨σ.E.set i (.ow v), σ.pn⟩ (s.set i (some (.ref l))) (l :: As) := by
  have m : ∀ a o, a ∉ l :: A0 ++ As → h[a]? = some o → a ∉ A0 ++ l :: As ∧ h[a]? = some o := fun a o ha eo => ⟨fun q => ha (by simp at q ⊢; rcases q with q | q | q <;> simp [q]), eo⟩
  have hlA : l ∉ As := fun q => k.dj l q (by simp)
  refine ⟨by simp [k.len], fun j w e => ?_, fun j w e => ?_, fun j j' w w' l' e1 e2 e3 e4 => ?_, fun a ha => ?_, fun a ha => k.bd a (by simp at ha ⊢; rcases ha with q | q | q <;> simp [q]), fun n e => ?_⟩
  · simp only [List.getElem?_set] at e ⊢
    split at e
    · split at e <;> cases e
    · rename_i hij
      rw [if_neg hij]
      obtain ⟨q, e1, e2⟩ := k.sh j w e
      exact ⟨q, e1, e2.move m w q⟩
  · simp only [List.getElem?_set] at e ⊢
    split at e
    · rename_i hij
      subst hij
      split at e
      · rename_i hlt
        cases e
        rw [if_pos rfl, if_pos (by rw [k.len]; exact hlt)]
        exact ⟨l, x, rfl, by simp, ex, hx.move m⟩
      · cases e
    · rename_i hij
      rw [if_neg hij]
      obtain ⟨l', o, e1, e2, e3, e4⟩ := k.ow j w e
      exact ⟨l', o, e1, by simp [e2], e3, e4.move m⟩
  · simp only [List.getElem?_set] at e1 e2 e3 e4
    split at e1
    · rename_i hij
      split at e2
      · rename_i hij'; rw [← hij, ← hij']
      · rename_i hij'
        exfalso
        obtain ⟨l2, _, f1, f2, _⟩ := k.ow j' w' e2
        rw [if_neg hij', f1] at e4
        cases e4
        rw [if_pos hij] at e3
        split at e3
        · cases e3; exact hlA f2
        · cases e3
    · rename_i hij
      split at e2
      · rename_i hij'
        exfalso
        obtain ⟨l2, _, f1, f2, _⟩ := k.ow j w e1
        rw [if_neg hij, f1] at e3
        cases e3
        rw [if_pos hij'] at e4
        split at e4
        · cases e4; exact hlA f2
        · cases e4
      · rename_i hij'
        rw [if_neg hij] at e3
        rw [if_neg hij'] at e4
        exact k.inj j j' w w' l' e1 e2 e3 e4
  · rcases List.mem_cons.mp ha with rfl | q
    · exact hl0
    · exact fun q2 => k.dj a q (by simp [q2])
  · have h2 := hl2 n e
    obtain ⟨p, p1, p2⟩ := k.pen n e
    refine ⟨p, ?_, ?_⟩
    · rcases List.mem_cons.mp p1 with q | q
      · omega
      · exact q
    · rcases List.mem_cons.mp p2 with q | q
      · omega
      · exact q
theorem Ok.write (k : Ok A0 h σ s As) {i l : Nat} {v : V} {x : O} (e : σ.E[i]? = some (.ow v)) (es : s[i]? = some (some (.ref l))) {w : V} (hx : SepO (A0 ++ As) h w x) : Ok A0 (h.set l x) ⟨σ.E.set i (.ow w), σ.pn⟩ s As := by
  obtain ⟨l', x', es', hl, ex, hx'⟩ := k.ow i v e
  rw [es] at es'; cases es'
  have hlt : l < h.length := (List.getElem?_eq_some_iff.mp ex).1
  have m : ∀ a o, a ∉ A0 ++ As → h[a]? = some o → a ∉ A0 ++ As ∧ (h.set l x)[a]? = some o := fun a o ha eo => ⟨ha, by
    rw [List.getElem?_set_ne (fun q : l = a => ha (by rw [← q]; exact List.mem_append_right _ hl))]; exact eo⟩
  refine ⟨by simp [k.len], fun j w' ej => ?_, fun j w' ej => ?_, fun j j' w1 w2 l' e1 e2 e3 e4 => ?_, k.dj, fun a ha => by rw [List.length_set]; exact k.bd a ha, fun n en => ?_⟩
  · simp only [List.getElem?_set] at ej
    split at ej
    · split at ej <;> cases ej
    · obtain ⟨q, e1, e2⟩ := k.sh j w' ej
      exact ⟨q, e1, e2.move m w' q⟩
  · simp only [List.getElem?_set] at ej
    split at ej
    · rename_i hij
      subst hij
      split at ej
      · cases ej
        exact ⟨l, x, es, hl, by rw [List.getElem?_set_self hlt], hx.move m⟩
      · cases ej
    · rename_i hij
      obtain ⟨l', o, e1, e2, e3, e4⟩ := k.ow j w' ej
      refine ⟨l', o, e1, e2, ?_, e4.move m⟩
      rw [List.getElem?_set_ne (fun q : l = l' => hij (k.inj i j v w' l e ej es (by rw [q]; exact e1)))]; exact e3
  · have own : ∀ {j : Nat} {w1 : V}, (σ.E.set i (.ow w))[j]? = some (.ow w1) → ∃ w1', σ.E[j]? = some (.ow w1') := fun {j w1} ej => by
      simp only [List.getElem?_set] at ej
      split at ej
      · rename_i hij; subst hij; exact ⟨v, e⟩
      · exact ⟨w1, ej⟩
    obtain ⟨_, f1⟩ := own e1
    obtain ⟨_, f2⟩ := own e2
    exact k.inj j j' _ _ l' f1 f2 e3 e4
  · obtain ⟨p, p1, p2⟩ := k.pen n en
    refine ⟨?_, p1, p2⟩
    have hn1 : l ≠ 1 := fun q => k.dj l hl (q ▸ p1)
    have hn2 : l ≠ 2 := fun q => k.dj l hl (q ▸ p2)
    obtain ⟨c, k', lf, h1, h2, h3, h4, h5, h6⟩ := p.ex
    refine ⟨c, k', lf, ?_, ?_, h3, h4, h5, h6⟩
    · rw [List.getElem?_set_ne hn1]; exact h1
    · rw [List.getElem?_set_ne hn2]; exact h2
theorem Ok.mv (k : Ok A0 h σ s As) {i j : Nat} {v : V} {o : Option P} (e : σ.E[i]? = some (.ow v)) (es : s[i]? = some o) (hj : j < σ.E.length) (hij : i ≠ j) : Ok A0 h ⟨(σ.E.set i .no).set j (.ow v), σ.pn⟩ (s.set j o) As := by
  obtain ⟨l, x, es', hl, ex, hx⟩ := k.ow i v e
  rw [es] at es'; cases es'
  have key : ∀ {a : Nat} {w : V}, ((σ.E.set i Sl.no).set j (.ow v))[a]? = some (.ow w) → (a = j ∧ w = v) ∨ (a ≠ j ∧ a ≠ i ∧ σ.E[a]? = some (.ow w)) := fun {a w} ea => by
    simp only [List.getElem?_set, List.length_set] at ea
    split at ea
    · rename_i q

      cases ea; exact .inl ⟨q.symm, rfl⟩
    · rename_i q
      split at ea
      · split at ea <;> cases ea
      · rename_i q2
        exact .inr ⟨fun z => q z.symm, fun z => q2 z.symm, ea⟩
  have sl : ∀ {a : Nat}, a ≠ j → (s.set j (some (.ref l)))[a]? = s[a]? := fun h => List.getElem?_set_ne (Ne.symm h)
  have sj : (s.set j (some (P.ref l)))[j]? = some (some (.ref l)) := by rw [List.getElem?_set_self (by rw [k.len]; exact hj)]
  refine ⟨by simp [k.len], fun a w ea => ?_, fun a w ea => ?_, fun a a' w w' l' e1 e2 e3 e4 => ?_, k.dj, k.bd, k.pen⟩
  · simp only [List.getElem?_set, List.length_set] at ea
    split at ea
    · cases ea
    · rename_i q
      split at ea
      · split at ea <;> cases ea
      · rw [sl (fun z => q z.symm)]; exact k.sh a w ea
  · rcases key ea with ⟨z1, z2⟩ | ⟨q1, q2, ea⟩
    · subst z1 z2; exact ⟨l, x, sj, hl, ex, hx⟩
    · rw [sl q1]; exact k.ow a w ea
  · rcases key e1 with ⟨z1, z2⟩ | ⟨q1, q2, f1⟩
    · subst z1 z2
      rcases key e2 with ⟨z1, z2⟩ | ⟨q3, q4, f2⟩
      · exact z1.symm
      · rw [sj] at e3; cases e3
        rw [sl q3] at e4
        exact absurd (k.inj i a' _ w' _ e f2 es e4).symm q4
    · rw [sl q1] at e3
      rcases key e2 with ⟨z1, z2⟩ | ⟨q3, q4, f2⟩
      · subst z1 z2
        rw [sj] at e4; cases e4
        exact absurd (k.inj i a _ w _ e f1 es e3).symm q2
      · rw [sl q3] at e4
        exact k.inj a a' w w' l' f1 f2 e3 e4
end
end Ow

namespace Ow
open PySem Ev
inductive Wh where
  | sep
  | mine (i : Nat)
  | new
  deriving DecidableEq
def Post (n : Nat) (A0 : List Nat) (h : Hea) (σ : St) (s : Slots) (As : List Nat) : Wh → V → P → Prop
  | .sep, v, q => Ok A0 h σ s As ∧ Sep (A0 ++ As) h v q
  | .mine i, v, q => Ok A0 h σ s As ∧ σ.E[i]? = some (.ow v) ∧ s[i]? = some (some q)
  | .new, v, q => ∃ l x, q = .ref l ∧ n ≤ l ∧ l ∉ A0 ∧ Ok (l :: A0) h σ s As ∧ h[l]? = some x ∧ SepO (l :: A0 ++ As) h v x
structure Step (pn : Option Nat) (As : List Nat) (h : Hea) (pn' : Option Nat) (As' : List Nat) (h' : Hea) : Prop where
  ext : Ext (bw pn As) h h'
  as : ∀ a ∈ As', a ∈ As ∨ h.length ≤ a
  pn : pn'.isSome = pn.isSome
theorem Step.refl {pn : Option Nat} {As : List Nat} {h : Hea} : Step pn As h pn As h := ⟨.refl, fun _ q => .inl q, rfl⟩
theorem Step.trans {pn pn1 pn2 : Option Nat} {As As1 As2 : List Nat} {h h1 h2 : Hea} (a : Step pn As h pn1 As1 h1) (b : Step pn1 As1 h1 pn2 As2 h2) : Step pn As h pn2 As2 h2 := by
  refine ⟨a.ext.trans b.ext fun l hl => ?_, fun x hx => ?_, b.pn.trans a.pn⟩
  · cases pn1 with
    | none =>
      rcases a.as l hl with q | q
      · left; cases pn with
        | none => exact q
        | some _ => exact List.mem_cons_of_mem _ q
      · exact .inr q
    | some _ =>
      cases pn with
      | none => have := a.pn; simp at this
      | some _ =>
        rcases List.mem_cons.mp hl with rfl | hl
        · exact .inl (by simp [bw])
        · rcases a.as l hl with q | q
          · exact .inl (List.mem_cons_of_mem _ q)
          · exact .inr q
  · rcases b.as x hx with q | q
    · exact a.as x q
    · exact .inr (Nat.le_trans a.ext.len q)
inductive FlV where
  | nx | bk | ct
  | rt (κ : Wh) (v : V)
def PostS (n : Nat) (A0 : List Nat) (h : Hea) (σ : St) (s : Slots) (As : List Nat) : FlV → Ev.Flow → Prop
  | .nx, f => f = .nx ∧ Ok A0 h σ s As
  | .bk, f => f = .bk ∧ Ok A0 h σ s As
  | .ct, f => f = .ct ∧ Ok A0 h σ s As
  | .rt κ v, f => ∃ q, f = .rt q ∧ Post n A0 h σ s As κ v q
section
variable (C : Cfg)
def RunE (t : T .e) (σ : St) (Φ : Wh → V → St → Prop) : Prop :=
  ∀ A0 s h As, Ok A0 h σ s As → ∃ q h', ev C t () s h = .ok q h' ∧ ∃ As' κ v σ', Step σ.pn As h σ'.pn As' h' ∧ Post h.length A0 h' σ' s As' κ v q ∧ Φ κ v σ'
def RunT (t : T .t) (σ : St) (Φ : Bool → St → Prop) : Prop :=
  ∀ A0 s h As, Ok A0 h σ s As → ∃ b h', ev C t () s h = .ok b h' ∧ ∃ As' σ', Step σ.pn As h σ'.pn As' h' ∧ Ok A0 h' σ' s As' ∧ Φ b σ'
def RunA (t : T .a) (σ : St) (Φ : List V → St → Prop) : Prop :=
  ∀ A0 s h As, Ok A0 h σ s As → ∃ qs h', ev C t () s h = .ok qs h' ∧ ∃ As' vs σ', Step σ.pn As h σ'.pn As' h' ∧ Ok A0 h' σ' s As' ∧ Seps (A0 ++ As') h' vs qs ∧ Φ vs σ'
def RunS (t : T .s) (σ : St) (Φ : FlV → St → Prop) : Prop :=
  ∀ A0 s h As, Ok A0 h σ s As → ∃ f s' h', ev C t () s h = .ok (f, s') h' ∧ ∃ As' fl σ', Step σ.pn As h σ'.pn As' h' ∧ PostS h.length A0 h' σ' s' As' fl f ∧ Φ fl σ'
def RunG (t : T .g) (σ : St) (κ : Wh) (v : V) (Φ : St → Prop) : Prop :=
  ∀ n A0 s h As q, n ≤ h.length → (∀ m, σ.pn = some m → 2 < n) → Post n A0 h σ s As κ v q → ∃ s' h', ev C t q s h = .ok s' h' ∧ ∃ As' σ', Ext (bw σ.pn As) h h' ∧ (∀ a ∈ As', a ∈ As ∨ n ≤ a) ∧ σ'.pn.isSome = σ.pn.isSome ∧ Ok A0 h' σ' s' As' ∧ Φ σ'
def RunGs (t : T .gs) (σ : St) (vs : List V) (Φ : St → Prop) : Prop :=
  ∀ n A0 s h As qs, n ≤ h.length → (∀ m, σ.pn = some m → 2 < n) → Ok A0 h σ s As → Seps (A0 ++ As) h vs qs → ∃ s' h', ev C t qs s h = .ok s' h' ∧ ∃ As' σ', Ext (bw σ.pn As) h h' ∧ (∀ a ∈ As', a ∈ As ∨ n ≤ a) ∧ σ'.pn.isSome = σ.pn.isSome ∧ Ok A0 h' σ' s' As' ∧ Φ σ'
def RunI (t : T .i) (σ : St) (Φ : List V → St → Prop) : Prop :=
  ∀ A0 s h As, Ok A0 h σ s As → ∃ w h', ev C t () s h = .ok w h' ∧ ∃ As' vs σ', Step σ.pn As h σ'.pn As' h' ∧ Ok A0 h' σ' s As' ∧ Seps (A0 ++ As') h' vs w.its ∧ (∀ x ∈ w.stay, h'[x.1]? = some x.2 ∧ x.1 ∉ bw σ'.pn As') ∧ Φ vs σ'
end
def CallR (f : List P → Hea → R P) (pn : Option Nat) (vs : List V) (Φ : Bool → V → Option Nat → Prop) : Prop :=
  ∀ A h ps, (∀ a ∈ A, a < h.length) → (∀ n, pn = some n → Pen h n ∧ 1 ∈ A ∧ 2 ∈ A) → Seps A h vs ps → ∃ q h', f ps h = .ok q h' ∧ ∃ fr v pn', Ext (bw pn []) h h' ∧ pn'.isSome = pn.isSome ∧ (∀ n, pn' = some n → Pen h' n) ∧
    (match fr with
      | false => Sep A h' v q
      | true => ∃ l x, q = .ref l ∧ h.length ≤ l ∧ h'[l]? = some x ∧ SepO (l :: A) h' v x) ∧ Φ fr v pn'
theorem Pen_len3 {h : Hea} {n : Nat} (p : Pen h n) : 2 < h.length := by
  obtain ⟨_, _, _, _, h2, _⟩ := p.ex
  exact (List.getElem?_eq_some_iff.mp h2).1
section
variable {A0 As As' : List Nat} {h h' : Hea} {σ : St} {s : Slots} {n : Nat} {κ : Wh} {v : V} {q : P}
theorem Ok.less {l : Nat} (k : Ok (l :: A0) h σ s As) (hl2 : ∀ n, σ.pn = some n → 2 < l) : Ok A0 h σ s As := by
  have m : ∀ a o, a ∉ l :: A0 ++ As → h[a]? = some o → a ∉ A0 ++ As ∧ h[a]? = some o := fun a o ha eo => ⟨fun q => ha (by simp at q ⊢; rcases q with q | q <;> simp [q]), eo⟩
  refine ⟨k.len, fun i v e => ?_, fun i v e => ?_, k.inj, fun a ha q => k.dj a ha (by simp [q]), fun a ha => k.bd a (by simp at ha ⊢; rcases ha with q | q <;> simp [q]), fun n e => ?_⟩
  · obtain ⟨q, e1, e2⟩ := k.sh i v e
    exact ⟨q, e1, e2.move m v q⟩
  · obtain ⟨l, o, e1, e2, e3, e4⟩ := k.ow i v e
    exact ⟨l, o, e1, e2, e3, e4.move m⟩
  · have h2 := hl2 n e
    obtain ⟨p, p1, p2⟩ := k.pen n e
    refine ⟨p, ?_, ?_⟩
    · rcases List.mem_cons.mp p1 with q | q
      · omega
      · exact q
    · rcases List.mem_cons.mp p2 with q | q
      · omega
      · exact q
def settle (κ : Wh) (v : V) (σ : St) : St := match κ with
  | .mine i => ⟨σ.E.set i (.sh v), σ.pn⟩
  | _ => σ
@[simp] theorem settle_sep {v : V} {σ : St} : settle .sep v σ = σ := rfl
@[simp] theorem settle_new {v : V} {σ : St} : settle .new v σ = σ := rfl
@[simp] theorem settle_mine {v : V} {σ : St} {i : Nat} : settle (.mine i) v σ = ⟨σ.E.set i (.sh v), σ.pn⟩ := rfl
theorem settle_pn {κ : Wh} {v : V} {σ : St} : (settle κ v σ).pn = σ.pn := by cases κ <;> rfl
theorem Post.settle (k : Post n A0 h σ s As κ v q) (hn : ∀ m, σ.pn = some m → 2 < n) : ∃ As', (∀ a ∈ As', a ∈ As) ∧ Ok A0 h (settle κ v σ) s As' ∧ Sep (A0 ++ As') h v q := by
  cases κ with
  | sep => exact ⟨As, fun _ q => q, k.1, k.2⟩
  | mine i =>
    obtain ⟨k, e, es⟩ := k
    obtain ⟨l, es', hl, k', hs⟩ := k.freeze e
    rw [es] at es'; cases es'
    exact ⟨_, fun a ha => (List.mem_filter.mp ha).1, k', hs⟩
  | new =>
    obtain ⟨l, x, rfl, hnl, hl0, k, ex, hx⟩ := k
    refine ⟨As, fun _ q => q, k.less fun m e => Nat.lt_of_lt_of_le (hn m e) hnl, Sep.ofO ?_ ex (hx.move fun a o ha eo => ⟨fun q => ha (by simp at q ⊢; rcases q with q | q <;> simp [q]), eo⟩)⟩
    intro q
    rcases List.mem_append.mp q with q | q
    · exact hl0 q
    · exact k.dj l q (by simp)
def Top (A : List Nat) (h : Hea) (v : V) (q : P) : Prop := Sep A h v q ∨ ∃ l x, q = .ref l ∧ h[l]? = some x ∧ SepO A h v x
theorem Post.top (k : Post n A0 h σ s As κ v q) : Top (A0 ++ As) h v q := by
  cases κ with
  | sep => exact .inl k.2
  | mine i =>
    obtain ⟨k, e, es⟩ := k
    obtain ⟨l, x, e1, _, e3, e4⟩ := k.ow i v e
    rw [es] at e1; cases e1
    exact .inr ⟨l, x, rfl, e3, e4⟩
  | new =>
    obtain ⟨l, x, rfl, hnl, hl0, k, ex, hx⟩ := k
    exact .inr ⟨l, x, rfl, ex, hx.move fun a o ha eo => ⟨fun q => ha (by simp at q ⊢; rcases q with q | q <;> simp [q]), eo⟩⟩
theorem Post.ok (k : Post n A0 h σ s As κ v q) (hn : ∀ m, σ.pn = some m → 2 < n) : Ok A0 h σ s As := by
  cases κ with
  | sep => exact k.1
  | mine i => exact k.1
  | new =>
    obtain ⟨l, x, rfl, hnl, hl0, k, ex, hx⟩ := k
    exact k.less fun m e => Nat.lt_of_lt_of_le (hn m e) hnl
theorem Ok.pen2 (k : Ok A0 h σ s As) : ∀ m, σ.pn = some m → 2 < h.length := fun m e => Pen_len3 (k.pen m e).1
end
end Ow

namespace Ow
open PySem Ev
section
variable {A0 As As' : List Nat} {h h' : Hea} {σ σ' : St} {s : Slots} {n : Nat} {κ : Wh} {v : V} {q : P}
theorem Top.move {A A' : List Nat} (H : ∀ l o, l ∉ A → h[l]? = some o → l ∉ A' ∧ h'[l]? = some o) (K : ∀ l x, q = .ref l → h[l]? = some x → h'[l]? = some x) (t : Top A h v q) : Top A' h' v q := by
  rcases t with t | ⟨l, x, e, ex, t⟩
  · exact .inl (t.move H v q)
  · exact .inr ⟨l, x, e, K l x e ex, t.move H⟩
theorem Sep.top {A : List Nat} (t : Sep A h v q) : Top A h v q := .inl t
theorem Top.p {A : List Nat} {x : P} (t : Top A h (.p x) q) : q = x := by
  rcases t with t | ⟨l, y, e, ex, t⟩
  · rw [Sep] at t; exact t
  · exact t.elim
theorem Top.lst {A : List Nat} {vs : List V} (t : Top A h (.lst vs) q) : ∃ l ps, q = .ref l ∧ h[l]? = some (.lst ps) ∧ Seps A h vs ps := by
  rcases t with t | ⟨l, y, e, ex, ps, rfl, t⟩
  · rw [Sep] at t; obtain ⟨l, ps, e, _, e2, t⟩ := t; exact ⟨l, ps, e, e2, t⟩
  · exact ⟨l, ps, e, ex, t⟩
theorem Top.dic {A : List Nat} {ks : List P} {vs : List V} (t : Top A h (.dic ks vs) q) : ∃ l ps, q = .ref l ∧ h[l]? = some (.dic (ks.zip ps)) ∧ ks.length = vs.length ∧ Seps A h vs ps := by
  rcases t with t | ⟨l, y, e, ex, ps, rfl, n, t⟩
  · rw [Sep] at t; obtain ⟨l, ps, e, _, e2, n, t⟩ := t; exact ⟨l, ps, e, e2, n, t⟩
  · exact ⟨l, ps, e, ex, n, t⟩
theorem Top.ins {A : List Nat} {c : Str} {ns : List Str} {vs : List V} (t : Top A h (.ins c ns vs) q) : ∃ l ps, q = .ref l ∧ h[l]? = some (.ins c (ns.zip ps)) ∧ ns.length = vs.length ∧ Seps A h vs ps := by
  rcases t with t | ⟨l, y, e, ex, ps, rfl, n, t⟩
  · rw [Sep] at t; obtain ⟨l, ps, e, _, e2, n, t⟩ := t; exact ⟨l, ps, e, e2, n, t⟩
  · exact ⟨l, ps, e, ex, n, t⟩
theorem Top.tup {A : List Nat} {vs : List V} (t : Top A h (.tup vs) q) : ∃ ps, q = .tup ps ∧ Seps A h vs ps := by
  rcases t with t | ⟨l, y, e, ex, t⟩
  · rw [Sep] at t; exact t
  · exact t.elim
theorem two {C : Cfg} {a b : T .e} {Φ : Wh → V → St → Prop} {Ψ : Wh → V → Wh → V → St → Prop} (ha : RunE C a σ Φ) (hb : ∀ κ1 v1 σ1, Φ κ1 v1 σ1 → RunE C b σ1 fun κ2 v2 σ2 => (∀ i, κ1 = .mine i → σ2.E = σ1.E) ∧ Ψ κ1 v1 κ2 v2 σ2)
    (k : Ok A0 h σ s As) : ∃ q1 h1 q2 h2, ev C a () s h = .ok q1 h1 ∧ ev C b () s h1 = .ok q2 h2 ∧ ∃ As' κ1 v1 κ2 v2 σ', Step σ.pn As h σ'.pn As' h2 ∧ Top (A0 ++ As') h2 v1 q1 ∧ Top (A0 ++ As') h2 v2 q2 ∧ Ok A0 h2 σ' s As' ∧ Ψ κ1 v1 κ2 v2 σ' := by
  obtain ⟨q1, h1, e1, As1, κ1, v1, σ1, st1, p1, f1⟩ := ha A0 s h As k
  have hn := k.pen2
  have hn1 : ∀ m, σ1.pn = some m → 2 < h.length := fun m e => by
    have := st1.pn
    rw [e] at this
    cases e0 : σ.pn with
    | none => rw [e0] at this; simp at this
    | some m0 => exact hn m0 e0
  have hb := hb κ1 v1 σ1 f1
  have hrun : ∀ A, Ok A h1 σ1 s As1 → ∃ q2 h2, ev C b () s h1 = .ok q2 h2 ∧ ∃ As' κ2 v2 σ', Step σ1.pn As1 h1 σ'.pn As' h2 ∧ Top (A ++ As') h2 v2 q2 ∧ Ok A h2 σ' s As' ∧ (∀ i, κ1 = .mine i → σ'.E = σ1.E) ∧ Ψ κ1 v1 κ2 v2 σ' := fun A k1 => by
    obtain ⟨q2, h2, e2, As2, κ2, v2, σ2, st2, p2, f2, f3⟩ := hb A s h1 As1 k1
    have hn2 : ∀ m, σ2.pn = some m → 2 < h1.length := fun m e => by
      have := st2.pn
      rw [e] at this
      cases e0 : σ1.pn with
      | none => rw [e0] at this; simp at this
      | some m0 => exact k1.pen2 m0 e0
    exact ⟨q2, h2, e2, As2, κ2, v2, σ2, st2, p2.top, p2.ok hn2, f2, f3⟩
  cases κ1 with
  | sep =>
    obtain ⟨q2, h2, e2, As2, κ2, v2, σ2, st2, t2, k2, _, f⟩ := hrun A0 p1.1
    exact ⟨q1, h1, q2, h2, e1, e2, As2, .sep, v1, κ2, v2, σ2, st1.trans st2, (p1.2.later st2.ext p1.1.bw_sub st2.as).top, t2, k2, f⟩
  | mine i =>
    obtain ⟨k1, ee, es⟩ := p1
    obtain ⟨q2, h2, e2, As2, κ2, v2, σ2, st2, t2, k2, fe, f⟩ := hrun A0 k1
    refine ⟨q1, h1, q2, h2, e1, e2, As2, .mine i, v1, κ2, v2, σ2, st1.trans st2, ?_, t2, k2, f⟩
    obtain ⟨l, x, e3, _, e4, e5⟩ := k2.ow i v1 (by rw [fe i rfl]; exact ee)
    rw [es] at e3; cases e3
    exact .inr ⟨l, x, rfl, e4, e5⟩
  | new =>
    obtain ⟨l, x, rfl, hnl, hl0, k1, ex, hx⟩ := p1
    obtain ⟨q2, h2, e2, As2, κ2, v2, σ2, st2, t2, k2, fe, f⟩ := hrun (l :: A0) k1
    have hn2 : ∀ m, σ2.pn = some m → 2 < l := fun m e => by
      have := (st1.trans st2).pn
      rw [e] at this
      cases e0 : σ.pn with
      | none => rw [e0] at this; simp at this
      | some m0 => exact Nat.lt_of_lt_of_le (hn m0 e0) hnl
    have m : ∀ a o, a ∉ l :: A0 ++ As2 → h2[a]? = some o → a ∉ A0 ++ As2 ∧ h2[a]? = some o := fun a o ha eo => ⟨fun q => ha (by simp at q ⊢; rcases q with q | q <;> simp [q]), eo⟩
    refine ⟨_, h1, q2, h2, e1, e2, As2, .new, v1, κ2, v2, σ2, st1.trans st2, .inr ⟨l, x, rfl, ?_, ?_⟩, t2.move m fun _ _ _ e => e, k2.less hn2, f⟩
    · exact st2.ext.at_ l x (fun q => by
        have hl1 : l ∉ As1 := fun q => k1.dj l q (by simp)
        cases epn : σ1.pn with
        | none => rw [epn] at q; exact hl1 q
        | some mm =>
          rw [epn] at q
          rcases List.mem_cons.mp q with z | q
          · have := hn1 mm epn; omega
          · exact hl1 q) ex
    · refine hx.move fun a o ha eo => ?_
      have := keep_at (A := l :: A0 ++ As1) (A' := l :: A0 ++ As2) st2.ext k1.bw_sub (fun a ha => by
        rcases List.mem_append.mp ha with q | q
        · exact .inl (List.mem_append_left _ q)
        · rcases st2.as a q with q | q
          · exact .inl (List.mem_append_right _ q)
          · exact .inr q) a o ha eo
      exact ⟨fun q => this.1 (by simp at q ⊢; rcases q with q | q <;> simp [q]), this.2⟩
end
def IdxR (v w u : V) : Prop := ∀ A h q r, Top A h v q → Top A h w r → ∃ z, idxV q r h = some z ∧ Sep A h u z
def CmpR (o : Cop) (v w : V) (b : Bool) : Prop := ∀ A h q r, Top A h v q → Top A h w r → cmpV o q r h = some b
def TruR (v : V) (b : Bool) : Prop := ∀ A h q, Top A h v q → truV q h = some b
def BinR (o : Bop) (v w : V) (κ : Wh) (u : V) : Prop := ∀ A h q r, Top A h v q → Top A h w r → match κ with
  | .sep => ∃ z, binV o q r h = .ok z h ∧ Sep A h u z
  | .new => ∃ x, binV o q r h = .ok (.ref h.length) (h ++ [x]) ∧ SepO A h u x
  | _ => False
def BltR (b : Blt) (v : V) (κ : Wh) (u : V) : Prop := ∀ A h q, Top A h v q → match κ with
  | .sep => ∃ z, bltV b [q] h = .ok z h ∧ Sep A h u z
  | .new => ∃ x, bltV b [q] h = .ok (.ref h.length) (h ++ [x]) ∧ SepO A h u x
  | _ => False
section
variable {C : Cfg} {σ : St} {Φ : Wh → V → St → Prop}
theorem o_var {i : Nat} {v : V} (e : σ.E[i]? = some (.sh v)) (q : Φ .sep v σ) : RunE C (.var i) σ Φ := fun A0 s h As k => by
  obtain ⟨p, es, hs⟩ := k.sh i v e
  exact ⟨p, h, by unfold ev; rw [es]; rfl, As, .sep, v, σ, .refl, ⟨k, hs⟩, q⟩
theorem o_own {i : Nat} {v : V} (e : σ.E[i]? = some (.ow v)) (q : Φ (.mine i) v σ) : RunE C (.var i) σ Φ := fun A0 s h As k => by
  obtain ⟨l, x, es, hl, ex, hs⟩ := k.ow i v e
  exact ⟨.ref l, h, by unfold ev; rw [es]; rfl, As, .mine i, v, σ, .refl, ⟨k, e, es⟩, q⟩
theorem o_lit {t : T .e} {x : P} (e : ∀ s h, ev C t () s h = .ok x h) (q : Φ .sep (.p x) σ) : RunE C t σ Φ := fun A0 s h As k =>
  ⟨x, h, e s h, As, .sep, .p x, σ, .refl, ⟨k, by rw [Sep]⟩, q⟩
theorem o_non (q : Φ .sep (.p .non) σ) : RunE C .non σ Φ := o_lit (fun s h => by unfold ev; rfl) q
theorem o_bl {b : Bool} (q : Φ .sep (.p (.bl b)) σ) : RunE C (.bl b) σ Φ := o_lit (fun s h => by unfold ev; rfl) q
theorem o_int {i : Int} (q : Φ .sep (.p (.int i)) σ) : RunE C (.int i) σ Φ := o_lit (fun s h => by unfold ev; rfl) q
theorem o_str {x : Str} (q : Φ .sep (.p (.str x)) σ) : RunE C (.str x) σ Φ := o_lit (fun s h => by unfold ev; rfl) q
theorem a_nil {Φ : List V → St → Prop} (q : Φ [] σ) : RunA C .nil σ Φ := fun A0 s h As k => ⟨[], h, by unfold ev; rfl, As, [], σ, .refl, k, .nil, q⟩
theorem a_cons {Φ : List V → St → Prop} {a : T .e} {as : T .a} (q : RunE C a σ fun κ v σ1 => RunA C as (settle κ v σ1) fun vs σ2 => Φ (v :: vs) σ2) : RunA C (.cons a as) σ Φ := fun A0 s h As k => by
  obtain ⟨q1, h1, e1, As1, κ1, v1, σ1, st1, p1, f1⟩ := q A0 s h As k
  have hn1 : ∀ m, σ1.pn = some m → 2 < h.length := fun m e => by
    have := st1.pn
    rw [e] at this
    cases e0 : σ.pn with
    | none => rw [e0] at this; simp at this
    | some m0 => exact k.pen2 m0 e0
  obtain ⟨As2, has, k2, hs⟩ := p1.settle hn1
  obtain ⟨q2, h2, e2, As3, vs, σ2, st2, k3, hs2, f2⟩ := f1 A0 s h1 As2 k2
  have st1' : Step σ.pn As h (settle κ1 v1 σ1).pn As2 h1 := ⟨st1.ext, fun a ha => st1.as a (has a ha), by rw [settle_pn]; exact st1.pn⟩
  refine ⟨q1 :: q2, h2, ?_, As3, v1 :: vs, σ2, st1'.trans st2, k3, .cons (hs.later st2.ext k2.bw_sub st2.as) hs2, f2⟩
  unfold ev
  rw [e1]
  show (ev C as () s h1).bind _ = _
  rw [e2]; rfl
def psOf : List V → Option (List P)
  | [] => some []
  | .p x :: vs => match psOf vs with
    | some ps => some (x :: ps)
    | none => none
  | _ => none
theorem psOf_eq : ∀ {vs : List V} {ps : List P}, psOf vs = some ps → vs = ps.map .p
  | [], ps, e => by cases e; rfl
  | v :: vs, ps, e => by
    cases v with
    | p x =>
      simp only [psOf] at e
      split at e
      · rename_i qs e2
        cases e
        rw [psOf_eq e2]; rfl
      · cases e
    | _ => cases e
theorem o_tup {as : T .a} (q : RunA C as σ fun vs σ' => ∃ ps, psOf vs = some ps ∧ ps.length ≤ SZ ∧ Φ .sep (.p (.tup ps)) σ') : RunE C (.tup as) σ Φ := fun A0 s h As k => by
  obtain ⟨qs, h1, e1, As1, vs, σ1, st1, k1, hs, ps, ep, hl, f⟩ := q A0 s h As k
  rw [psOf_eq ep] at hs
  obtain rfl := (Seps.ps _ _).mp hs
  refine ⟨.tup qs, h1, ?_, As1, .sep, .p (.tup qs), σ1, st1, ⟨k1, by rw [Sep]⟩, f⟩
  unfold ev; rw [e1]
  show mkTup qs h1 = _
  unfold mkTup; rw [if_pos hl]
theorem Ok.fresh {A0 As : List Nat} {h : Hea} {s : Slots} {x : O} (k : Ok A0 h σ s As) : Ok (h.length :: A0) (h ++ [x]) σ s As := by
  have m : ∀ l o, l ∉ A0 ++ As → h[l]? = some o → l ∉ h.length :: A0 ++ As ∧ (h ++ [x])[l]? = some o := keep_at (B := []) .push (by simp) fun a ha => by
    rcases List.mem_cons.mp ha with rfl | ha
    · exact .inr (Nat.le_refl _)
    · exact .inl ha
  refine ⟨k.len, fun i v e => ?_, fun i v e => ?_, k.inj, fun a ha q => ?_, fun a ha => ?_, fun n e => ?_⟩
  · obtain ⟨q, e1, e2⟩ := k.sh i v e
    exact ⟨q, e1, e2.move m v q⟩
  · obtain ⟨l, o, e1, e2, e3, e4⟩ := k.ow i v e
    exact ⟨l, o, e1, e2, by rw [List.getElem?_append_left (List.getElem?_eq_some_iff.mp e3).1]; exact e3, e4.move m⟩
  · rcases List.mem_cons.mp q with rfl | q
    · exact absurd (k.bd _ (List.mem_append_right _ ha)) (Nat.lt_irrefl _)
    · exact k.dj a ha q
  · rw [List.length_append]
    rcases List.mem_cons.mp ha with rfl | ha
    · simp
    · have := k.bd a ha; omega
  · obtain ⟨p, p1, p2⟩ := k.pen n e
    exact ⟨p.push, by simp [p1], by simp [p2]⟩
theorem SepO.fresh {A : List Nat} {h : Hea} {v : V} {x : O} (s : SepO A h v x) : SepO (h.length :: A) (h ++ [x]) v x :=
  s.move (keep_at (B := []) .push (by simp) fun a ha => by
    rcases List.mem_cons.mp ha with rfl | ha
    · exact .inr (Nat.le_refl _)
    · exact .inl ha)
theorem post_obj {A0 As As1 : List Nat} {h h1 : Hea} {s : Slots} {pn : Option Nat} {x : O} {v : V} (k : Ok A0 h1 σ s As1) (st : Step pn As h σ.pn As1 h1) (hx : SepO (A0 ++ As1) h1 v x) :
    Step pn As h σ.pn As1 (h1 ++ [x]) ∧ Post h.length A0 (h1 ++ [x]) σ s As1 .new v (.ref h1.length) :=
  ⟨⟨st.ext.trans (B1 := []) .push (by simp), st.as, st.pn⟩, h1.length, x, rfl, st.ext.len, fun q => absurd (k.bd _ (List.mem_append_left _ q)) (Nat.lt_irrefl _), k.fresh, by simp, hx.fresh⟩
theorem o_lst {as : T .a} (q : RunA C as σ fun vs σ' => vs.length ≤ SZ ∧ Φ .new (.lst vs) σ') : RunE C (.lst as) σ Φ := fun A0 s h As k => by
  obtain ⟨qs, h1, e1, As1, vs, σ1, st1, k1, hs, hl, f⟩ := q A0 s h As k
  obtain ⟨st2, p⟩ := post_obj (x := .lst qs) (v := .lst vs) k1 st1 ⟨qs, rfl, hs⟩
  refine ⟨.ref h1.length, h1 ++ [.lst qs], ?_, As1, .new, .lst vs, σ1, st2, p, f⟩
  unfold ev; rw [e1]
  show mkLst qs h1 = _
  unfold mkLst; rw [if_pos (by rw [hs.len]; exact hl)]; rfl
theorem o_dic0 (q : Φ .new (.dic [] []) σ) : RunE C .dic0 σ Φ := fun A0 s h As k => by
  obtain ⟨st2, p⟩ := post_obj (x := .dic []) (v := .dic [] []) k .refl ⟨[], rfl, rfl, .nil⟩
  exact ⟨.ref h.length, h ++ [.dic []], by unfold ev; rfl, As, .new, _, σ, st2, p, q⟩
theorem o_bin {o : Bop} {a b : T .e} (q : RunE C a σ fun κ1 v1 σ1 => RunE C b σ1 fun κ2 v2 σ2 => (∀ i, κ1 = .mine i → σ2.E = σ1.E) ∧ ∃ κ u, BinR o v1 v2 κ u ∧ Φ κ u σ2) : RunE C (.bin o a b) σ Φ := fun A0 s h As k => by
  obtain ⟨q1, h1, q2, h2, e1, e2, As1, κ1, v1, κ2, v2, σ1, st, t1, t2, k1, κ, u, hb, f⟩ := two q (fun _ _ _ q => q) k
  have hb := hb _ _ _ _ t1 t2
  cases κ with
  | sep =>
    obtain ⟨z, ez, hz⟩ := hb
    refine ⟨z, h2, ?_, As1, .sep, u, σ1, st, ⟨k1, hz⟩, f⟩
    unfold ev; rw [e1]
    show (ev C b () s h1).bind _ = _
    rw [e2]; exact ez
  | new =>
    obtain ⟨x, ez, hz⟩ := hb
    obtain ⟨st2, p⟩ := post_obj k1 st hz
    refine ⟨_, _, ?_, As1, .new, u, σ1, st2, p, f⟩
    unfold ev; rw [e1]
    show (ev C b () s h1).bind _ = _
    rw [e2]; exact ez
  | mine => exact hb.elim
theorem o_idx {a b : T .e} (q : RunE C a σ fun κ1 v1 σ1 => RunE C b σ1 fun κ2 v2 σ2 => (∀ i, κ1 = .mine i → σ2.E = σ1.E) ∧ ∃ u, IdxR v1 v2 u ∧ Φ .sep u σ2) : RunE C (.idx a b) σ Φ := fun A0 s h As k => by
  obtain ⟨q1, h1, q2, h2, e1, e2, As1, κ1, v1, κ2, v2, σ1, st, t1, t2, k1, u, hb, f⟩ := two q (fun _ _ _ q => q) k
  obtain ⟨z, ez, hz⟩ := hb _ _ _ _ t1 t2
  refine ⟨z, h2, ?_, As1, .sep, u, σ1, st, ⟨k1, hz⟩, f⟩
  unfold ev; rw [e1]
  show (ev C b () s h1).bind _ = _
  rw [e2]
  show R.of (idxV q1 q2 h2) h2 = _
  rw [ez]; rfl
theorem o_cmp {o : Cop} {a b : T .e} (q : RunE C a σ fun κ1 v1 σ1 => RunE C b σ1 fun κ2 v2 σ2 => (∀ i, κ1 = .mine i → σ2.E = σ1.E) ∧ ∃ r, CmpR o v1 v2 r ∧ Φ .sep (.p (.bl r)) σ2) : RunE C (.cmp o a b) σ Φ := fun A0 s h As k => by
  obtain ⟨q1, h1, q2, h2, e1, e2, As1, κ1, v1, κ2, v2, σ1, st, t1, t2, k1, u, hb, f⟩ := two q (fun _ _ _ q => q) k
  have ez := hb _ _ _ _ t1 t2
  refine ⟨.bl u, h2, ?_, As1, .sep, _, σ1, st, ⟨k1, by rw [Sep]⟩, f⟩
  unfold ev; rw [e1]
  show (ev C b () s h1).bind _ = _
  rw [e2]
  show (R.of (cmpV o q1 q2 h2) h2).bind _ = _
  rw [ez]; rfl
theorem o_tcmp {Φ : Bool → St → Prop} {o : Cop} {a b : T .e} (q : RunE C a σ fun κ1 v1 σ1 => RunE C b σ1 fun κ2 v2 σ2 => (∀ i, κ1 = .mine i → σ2.E = σ1.E) ∧ ∃ r, CmpR o v1 v2 r ∧ Φ r σ2) : RunT C (.tcmp o a b) σ Φ := fun A0 s h As k => by
  obtain ⟨q1, h1, q2, h2, e1, e2, As1, κ1, v1, κ2, v2, σ1, st, t1, t2, k1, u, hb, f⟩ := two q (fun _ _ _ q => q) k
  have ez := hb _ _ _ _ t1 t2
  refine ⟨u, h2, ?_, As1, σ1, st, k1, f⟩
  unfold ev; rw [e1]
  show (ev C b () s h1).bind _ = _
  rw [e2]
  show R.of (cmpV o q1 q2 h2) h2 = _
  rw [ez]; rfl
theorem RunE.one {a : T .e} {Ψ : Wh → V → St → Prop} {A0 As : List Nat} {s : Slots} {h : Hea} (q : RunE C a σ Ψ) (k : Ok A0 h σ s As) : ∃ q1 h1, ev C a () s h = .ok q1 h1 ∧ ∃ As' κ v σ', Step σ.pn As h σ'.pn As' h1 ∧ Top (A0 ++ As') h1 v q1 ∧ Ok A0 h1 σ' s As' ∧ Ψ κ v σ' := by
  obtain ⟨q1, h1, e1, As1, κ1, v1, σ1, st1, p1, f1⟩ := q A0 s h As k
  have hn1 : ∀ m, σ1.pn = some m → 2 < h.length := fun m e => by
    have := st1.pn
    rw [e] at this
    cases e0 : σ.pn with
    | none => rw [e0] at this; simp at this
    | some m0 => exact k.pen2 m0 e0
  exact ⟨q1, h1, e1, As1, κ1, v1, σ1, st1, p1.top, p1.ok hn1, f1⟩
theorem o_tval {Φ : Bool → St → Prop} {a : T .e} (q : RunE C a σ fun _ v σ1 => ∃ r, TruR v r ∧ Φ r σ1) : RunT C (.tval a) σ Φ := fun A0 s h As k => by
  obtain ⟨q1, h1, e1, As1, κ1, v1, σ1, st, t1, k1, u, hb, f⟩ := q.one k
  refine ⟨u, h1, ?_, As1, σ1, st, k1, f⟩
  unfold ev; rw [e1]
  show R.of (truV q1 h1) h1 = _
  rw [hb _ _ _ t1]; rfl
theorem o_notv {a : T .e} (q : RunE C a σ fun _ v σ1 => ∃ r, TruR v r ∧ Φ .sep (.p (.bl (!r))) σ1) : RunE C (.notv a) σ Φ := fun A0 s h As k => by
  obtain ⟨q1, h1, e1, As1, κ1, v1, σ1, st, t1, k1, u, hb, f⟩ := q.one k
  refine ⟨.bl (!u), h1, ?_, As1, .sep, _, σ1, st, ⟨k1, by rw [Sep]⟩, f⟩
  unfold ev; rw [e1]
  show (R.of (truV q1 h1) h1).bind _ = _
  rw [hb _ _ _ t1]; rfl
theorem o_blt {b : Blt} {a : T .e} (q : RunE C a σ fun _ v σ1 => ∃ κ u, BltR b v κ u ∧ Φ κ u σ1) : RunE C (.blt b (.cons a .nil)) σ Φ := fun A0 s h As k => by
  obtain ⟨q1, h1, e1, As1, κ1, v1, σ1, st, t1, k1, κ, u, hb, f⟩ := q.one k
  have hb := hb _ _ _ t1
  have e2 : ev C (.blt b (.cons a .nil)) () s h = bltV b [q1] h1 := by
    have e3 : ev C (.cons a .nil) () s h = .ok [q1] h1 := by
      unfold ev; rw [e1]
      have : ev C .nil () s h1 = .ok [] h1 := by unfold ev; rfl
      simp only [R.bind_ok, this]
    unfold ev; rw [e3]; rfl
  cases κ with
  | sep =>
    obtain ⟨z, ez, hz⟩ := hb
    exact ⟨z, h1, e2.trans ez, As1, .sep, u, σ1, st, ⟨k1, hz⟩, f⟩
  | new =>
    obtain ⟨x, ez, hz⟩ := hb
    obtain ⟨st2, p⟩ := post_obj k1 st hz
    exact ⟨_, _, e2.trans ez, As1, .new, u, σ1, st2, p, f⟩
  | mine => exact hb.elim
def fget : List Str → List V → Str → Option V
  | n :: ns, v :: vs, f => if n = f then some v else fget ns vs f
  | _, _, _ => none
theorem fget_ok {A : List Nat} {h : Hea} {f : Str} {w : V} : ∀ {ns : List Str} {vs : List V} {ps : List P}, fget ns vs f = some w → Seps A h vs ps → ∃ z, (ns.zip ps).lookup f = some z ∧ Sep A h w z
  | [], _, _, e, _ => nomatch e
  | n :: ns, [], _, e, _ => nomatch e
  | n :: ns, v :: vs, ps, e, s => by
    rw [Seps] at s
    obtain ⟨q, qs, rfl, s1, s2⟩ := s
    simp only [fget] at e
    by_cases hn : n = f
    · subst hn
      rw [if_pos rfl] at e; cases e
      exact ⟨q, by simp [List.lookup], s1⟩
    · rw [if_neg hn] at e
      obtain ⟨z, e1, e2⟩ := fget_ok e s2
      refine ⟨z, ?_, e2⟩
      rw [List.zip_cons_cons, List.lookup_cons]
      have : (f == n) = false := by simp [Ne.symm hn]
      rw [this]; exact e1
theorem o_fld {c : Str} {a : T .e} {f : Str} (q : RunE C a σ fun _ v σ1 => ∃ ns vs w, v = .ins c ns vs ∧ fget ns vs f = some w ∧ Φ .sep w σ1) : RunE C (.fld c a f) σ Φ := fun A0 s h As k => by
  obtain ⟨q1, h1, e1, As1, κ1, v1, σ1, st, t1, k1, ns, vs, w, rfl, ew, fq⟩ := q.one k
  obtain ⟨l, ps, rfl, el, hn, hs⟩ := t1.ins
  obtain ⟨z, ez, hz⟩ := fget_ok ew hs
  refine ⟨z, h1, ?_, As1, .sep, w, σ1, st, ⟨k1, hz⟩, fq⟩
  unfold ev; rw [e1]
  show R.of (fldV c (.ref l) f h1) h1 = _
  simp only [fldV, el, if_true, ez]; rfl
theorem t_true {Φ : Bool → St → Prop} (q : Φ true σ) : RunT C .ttrue σ Φ := fun A0 s h As k => ⟨true, h, by unfold ev; rfl, As, σ, .refl, k, q⟩
theorem RunT.seq {C : Cfg} {σ : St} {t : T .t} {Φ : Bool → St → Prop} {A0 As : List Nat} {s : Slots} {h : Hea} (q : RunT C t σ Φ) (k : Ok A0 h σ s As) : ∃ b h1, ev C t () s h = .ok b h1 ∧ ∃ As' σ', Step σ.pn As h σ'.pn As' h1 ∧ Ok A0 h1 σ' s As' ∧ Φ b σ' := q A0 s h As k
theorem t_and {Φ : Bool → St → Prop} {a b : T .t} (q : RunT C a σ fun r σ1 => (r = true → RunT C b σ1 Φ) ∧ (r = false → Φ false σ1)) : RunT C (.tand a b) σ Φ := fun A0 s h As k => by
  obtain ⟨r, h1, e1, As1, σ1, st1, k1, f1, f2⟩ := q A0 s h As k
  cases r with
  | true =>
    obtain ⟨r2, h2, e2, As2, σ2, st2, k2, f⟩ := f1 rfl A0 s h1 As1 k1
    exact ⟨r2, h2, by unfold ev; rw [e1]; exact e2, As2, σ2, st1.trans st2, k2, f⟩
  | false => exact ⟨false, h1, by unfold ev; rw [e1]; rfl, As1, σ1, st1, k1, f2 rfl⟩
theorem t_or {Φ : Bool → St → Prop} {a b : T .t} (q : RunT C a σ fun r σ1 => (r = true → Φ true σ1) ∧ (r = false → RunT C b σ1 Φ)) : RunT C (.tor a b) σ Φ := fun A0 s h As k => by
  obtain ⟨r, h1, e1, As1, σ1, st1, k1, f1, f2⟩ := q A0 s h As k
  cases r with
  | false =>
    obtain ⟨r2, h2, e2, As2, σ2, st2, k2, f⟩ := f2 rfl A0 s h1 As1 k1
    exact ⟨r2, h2, by unfold ev; rw [e1]; exact e2, As2, σ2, st1.trans st2, k2, f⟩
  | true => exact ⟨true, h1, by unfold ev; rw [e1]; rfl, As1, σ1, st1, k1, f1 rfl⟩
theorem t_not {Φ : Bool → St → Prop} {a : T .t} (q : RunT C a σ fun r σ1 => Φ (!r) σ1) : RunT C (.tnot a) σ Φ := fun A0 s h As k => by
  obtain ⟨r, h1, e1, As1, σ1, st1, k1, f1⟩ := q A0 s h As k
  exact ⟨!r, h1, by unfold ev; rw [e1]; rfl, As1, σ1, st1, k1, f1⟩
theorem Post.from {n m : Nat} {A0 As : List Nat} {h : Hea} {s : Slots} {κ : Wh} {v : V} {q : P} (p : Post n A0 h σ s As κ v q) (hm : m ≤ n) : Post m A0 h σ s As κ v q := by
  cases κ with
  | sep => exact p
  | mine i => exact p
  | new =>
    obtain ⟨l, x, e, hl, r⟩ := p
    exact ⟨l, x, e, Nat.le_trans hm hl, r⟩
theorem o_ife {c : T .t} {a b : T .e} (q : RunT C c σ fun r σ1 => (r = true → RunE C a σ1 Φ) ∧ (r = false → RunE C b σ1 Φ)) : RunE C (.ife c a b) σ Φ := fun A0 s h As k => by
  obtain ⟨r, h1, e1, As1, σ1, st1, k1, f1, f2⟩ := q A0 s h As k
  cases r with
  | true =>
    obtain ⟨q2, h2, e2, As2, κ, v, σ2, st2, p, f⟩ := f1 rfl A0 s h1 As1 k1
    exact ⟨q2, h2, by unfold ev; rw [e1]; exact e2, As2, κ, v, σ2, st1.trans st2, p.from st1.ext.len, f⟩
  | false =>
    obtain ⟨q2, h2, e2, As2, κ, v, σ2, st2, p, f⟩ := f2 rfl A0 s h1 As1 k1
    exact ⟨q2, h2, by unfold ev; rw [e1]; exact e2, As2, κ, v, σ2, st1.trans st2, p.from st1.ext.len, f⟩
theorem o_call {g : Nat} {as : T .a} (q : RunA C as σ fun vs σ' => CallR (C.call g) σ'.pn vs fun fr v pn => Φ (if fr then .new else .sep) v ⟨σ'.E, pn⟩) : RunE C (.call g as) σ Φ := fun A0 s h As k => by
  obtain ⟨qs, h1, e1, As1, vs, σ1, st1, k1, hs, hc⟩ := q A0 s h As k
  obtain ⟨q2, h2, e2, fr, v, pn, x2, hp, hpen, hv, f⟩ := hc (A0 ++ As1) h1 qs k1.bd (fun n e => ⟨(k1.pen n e).1, List.mem_append_left _ (k1.pen n e).2.1, List.mem_append_left _ (k1.pen n e).2.2⟩) hs
  have hb2 : ∀ b ∈ bw σ1.pn [], b ∈ A0 ++ As1 := fun b hb => by
    cases ep : σ1.pn with
    | none => rw [ep] at hb; cases hb
    | some n =>
      rw [ep] at hb
      rcases List.mem_cons.mp hb with rfl | hb
      · exact List.mem_append_left _ (k1.pen n ep).2.2
      · cases hb
  have hbs : ∀ b ∈ bw σ1.pn [], b ∉ As1 := fun b hb q => by
    cases ep : σ1.pn with
    | none => rw [ep] at hb; cases hb
    | some n =>
      rw [ep] at hb
      rcases List.mem_cons.mp hb with rfl | hb
      · exact k1.dj _ q (k1.pen n ep).2.2
      · cases hb
  have k2 : Ok A0 h2 ⟨σ1.E, pn⟩ s As1 := by
    have m : ∀ l o, l ∉ A0 ++ As1 → h1[l]? = some o → l ∉ A0 ++ As1 ∧ h2[l]? = some o := keep_at x2 hb2 fun a ha => .inl ha
    refine ⟨k1.len, fun i v e => ?_, fun i v e => ?_, k1.inj, k1.dj, fun a ha => Nat.lt_of_lt_of_le (k1.bd a ha) x2.len, fun n e => ?_⟩
    · obtain ⟨q, e1, e2⟩ := k1.sh i v e
      exact ⟨q, e1, e2.move m v q⟩
    · obtain ⟨l, o, e1, e2, e3, e4⟩ := k1.ow i v e
      exact ⟨l, o, e1, e2, x2.at_ l o (fun q => hbs l q e2) e3, e4.move m⟩
    · refine ⟨hpen n e, ?_⟩
      have e' : pn = some n := e
      have := hp
      rw [e'] at this
      cases e0 : σ1.pn with
      | none => rw [e0] at this; simp at this
      | some m => exact (k1.pen m e0).2
  have ee : ev C (.call g as) () s h = .ok q2 h2 := by
    unfold ev; rw [e1]; exact e2
  have st2 : Step σ.pn As h pn As1 h2 := st1.trans ⟨x2.mono (fun l hl => by
    cases ep : σ1.pn with
    | none => rw [ep] at hl; cases hl
    | some n =>
      rw [ep] at hl
      rcases List.mem_cons.mp hl with rfl | hl
      · simp [bw]
      · cases hl), fun a ha => .inl ha, hp⟩
  cases fr with
  | false => exact ⟨q2, h2, ee, As1, .sep, v, ⟨σ1.E, pn⟩, st2, ⟨k2, hv⟩, f⟩
  | true =>
    obtain ⟨l, x, rfl, hl, ex, hx⟩ := hv
    have hl0 : l ∉ A0 := fun q => by
      have := k1.bd l (List.mem_append_left _ q); omega
    have hl1 : l ∉ As1 := fun q => by
      have := k1.bd l (List.mem_append_right _ q); omega
    refine ⟨_, h2, ee, As1, .new, v, ⟨σ1.E, pn⟩, st2, ⟨l, x, rfl, Nat.le_trans st1.ext.len hl, hl0, ?_, ex, ?_⟩, f⟩
    · have m : ∀ a o, a ∉ A0 ++ As1 → h1[a]? = some o → a ∉ l :: A0 ++ As1 ∧ h2[a]? = some o := keep_at x2 hb2 fun a ha => by
        rcases List.mem_cons.mp ha with rfl | ha
        · exact .inr hl
        · exact .inl ha
      refine ⟨k1.len, fun i v e => ?_, fun i v e => ?_, k1.inj, fun a ha q => ?_, fun a ha => ?_, fun n e => ⟨(k2.pen n e).1, by simp [(k2.pen n e).2.1], by simp [(k2.pen n e).2.2]⟩⟩
      · obtain ⟨q, e1, e2⟩ := k1.sh i v e
        exact ⟨q, e1, e2.move m v q⟩
      · obtain ⟨l, o, e1, e2, e3, e4⟩ := k1.ow i v e
        exact ⟨l, o, e1, e2, x2.at_ l o (fun q => hbs l q e2) e3, e4.move m⟩
      · rcases List.mem_cons.mp q with rfl | q
        · exact hl1 ha
        · exact k1.dj a ha q
      · rcases List.mem_cons.mp ha with rfl | ha
        · exact (List.getElem?_eq_some_iff.mp ex).1
        · exact k2.bd a ha
    · exact hx.move fun a o ha eo => ⟨ha, eo⟩
end
end Ow

namespace Ow
open PySem Ev
theorem pn_pos {pn pn' : Option Nat} {a : Nat} (h : pn'.isSome = pn.isSome) (k : ∀ m, pn = some m → 2 < a) : ∀ m, pn' = some m → 2 < a := fun m e => by
  rw [e] at h
  cases e0 : pn with
  | none => rw [e0] at h; simp at h
  | some m0 => exact k m0 e0
def bindS (i : Nat) (κ : Wh) (v : V) (σ : St) : St := match κ with
  | .sep => ⟨σ.E.set i (.sh v), σ.pn⟩
  | .new => ⟨σ.E.set i (.ow v), σ.pn⟩
  | .mine j => ⟨(σ.E.set j (.sh v)).set i (.sh v), σ.pn⟩
section
variable {C : Cfg} {σ : St}
theorem post_bind {n A0 h s As κ v q} {i : Nat} (p : Post n A0 h σ s As κ v q) (hn : ∀ m, σ.pn = some m → 2 < n) : ∃ As', (∀ a ∈ As', a ∈ As ∨ n ≤ a) ∧ Ok A0 h (bindS i κ v σ) (s.set i (some q)) As' := by
  cases κ with
  | sep => exact ⟨As, fun _ q => .inl q, p.1.setSh p.2⟩
  | mine j =>
    obtain ⟨k, e, es⟩ := p
    obtain ⟨l, es', hl, k', hs⟩ := k.freeze e
    rw [es] at es'; cases es'
    exact ⟨_, fun a ha => .inl (List.mem_filter.mp ha).1, k'.setSh hs⟩
  | new =>
    obtain ⟨l, x, rfl, hnl, hl0, k, ex, hx⟩ := p
    exact ⟨l :: As, fun a ha => by
      rcases List.mem_cons.mp ha with rfl | ha
      · exact .inr hnl
      · exact .inl ha, k.setOw ex hx hl0 fun m e => Nat.lt_of_lt_of_le (hn m e) hnl⟩
theorem g_nm {κ : Wh} {v : V} {Ψ : St → Prop} {i : Nat} (q : Ψ (bindS i κ v σ)) : RunG C (.gnm i) σ κ v Ψ := fun n A0 s h As x hn h2 p => by
  obtain ⟨As', ha, k⟩ := post_bind (i := i) p h2
  refine ⟨s.set i (some x), h, by unfold ev; rfl, As', bindS i κ v σ, .refl, ha, ?_, k, q⟩
  cases κ <;> rfl
theorem g_nmS {κ : Wh} {v : V} {Ψ : St → Prop} {i : Nat} (q : Ψ ⟨(settle κ v σ).E.set i (.sh v), σ.pn⟩) : RunG C (.gnm i) σ κ v Ψ := fun n A0 s h As x hn h2 p => by
  obtain ⟨As', ha, k, hs⟩ := p.settle h2
  have kk := k.setSh (i := i) hs
  rw [settle_pn] at kk
  exact ⟨s.set i (some x), h, by unfold ev; rfl, As', ⟨(settle κ v σ).E.set i (.sh v), σ.pn⟩, .refl, fun a q => .inl (ha a q), rfl, kk, q⟩
theorem g_mv {j : Nat} {v : V} {Ψ : St → Prop} {i : Nat} (hij : j ≠ i) (hi : i < σ.E.length) (q : Ψ ⟨(σ.E.set j .no).set i (.ow v), σ.pn⟩) : RunG C (.gnm i) σ (.mine j) v Ψ := fun n A0 s h As x hn h2 p => by
  obtain ⟨k, e, es⟩ := p
  exact ⟨s.set i (some x), h, by unfold ev; rfl, As, ⟨(σ.E.set j .no).set i (.ow v), σ.pn⟩, .refl, fun a q => .inl q, rfl, k.mv e es hi hij, q⟩
theorem g_tupP {κ : Wh} {ps : List P} {gs : T .gs} {Ψ : St → Prop} (hl : ps.length = glen gs) (q : RunGs C gs σ (ps.map .p) Ψ) : RunG C (.gtup gs) σ κ (.p (.tup ps)) Ψ := fun n A0 s h As x hn h2 p => by
  obtain rfl := p.top.p
  obtain ⟨s', h', e, r⟩ := q n A0 s h As ps hn h2 (p.ok h2) ((Seps.ps _ _).mpr rfl)
  exact ⟨s', h', by unfold ev; simp only [hl, if_true]; exact e, r⟩
theorem gs_nil {Ψ : St → Prop} (q : Ψ σ) : RunGs C .gnil σ [] Ψ := fun n A0 s h As qs hn h2 k hs => by
  rw [Seps] at hs; subst hs
  exact ⟨s, h, by unfold ev; rfl, As, σ, .refl, fun a q => .inl q, rfl, k, q⟩
theorem gs_cons {v : V} {vs : List V} {g : T .g} {gs : T .gs} {Ψ : St → Prop} (q : RunG C g σ .sep v fun σ1 => RunGs C gs σ1 vs Ψ) : RunGs C (.gcons g gs) σ (v :: vs) Ψ := fun n A0 s h As qs hn h2 k hs => by
  rw [Seps] at hs
  obtain ⟨x, r, rfl, hs1, hs2⟩ := hs
  obtain ⟨s1, h1, e1, As1, σ1, x1, ha1, hp1, k1, q⟩ := q h.length A0 s h As x (Nat.le_refl _) k.pen2 ⟨k, hs1⟩
  obtain ⟨s2, h2', e2, As2, σ2, x2, ha2, hp2, k2, q⟩ := q n A0 s1 h1 As1 r (Nat.le_trans hn x1.len) (pn_pos hp1 h2) k1 (hs2.later x1 k.bw_sub ha1)
  have st : Step σ.pn As h σ1.pn As1 h1 := ⟨x1, ha1, hp1⟩
  refine ⟨s2, h2', by unfold ev; simp only; rw [e1]; exact e2, As2, σ2, ?_, fun a ha => ?_, hp2.trans hp1, k2, q⟩
  · exact x1.trans x2 fun l hl => by
      rcases Ow.bw_sub (A0 := [2]) (As := As1) (fun _ _ => by simp) l hl with z
      cases ep : σ1.pn with
      | none =>
        rw [ep] at hl
        rcases ha1 l hl with z | z
        · left; cases σ.pn with
          | none => exact z
          | some _ => exact List.mem_cons_of_mem _ z
        · exact .inr z
      | some m =>
        rw [ep] at hl hp1
        cases ep2 : σ.pn with
        | none => rw [ep2] at hp1; simp at hp1
        | some m2 =>
          rcases List.mem_cons.mp hl with rfl | hl
          · exact .inl (by simp [bw])
          · rcases ha1 l hl with z | z
            · exact .inl (List.mem_cons_of_mem _ z)
            · exact .inr z
  · rcases ha2 a ha with z | z
    · rcases ha1 a z with z | z
      · exact .inl z
      · exact .inr (Nat.le_trans hn z)
    · exact .inr z
def dget : List P → List V → P → Option V
  | k :: ks, v :: vs, x => if P.beq k x then some v else dget ks vs x
  | _, _, _ => none
theorem dget_ok {A : List Nat} {h : Hea} {x : P} {w : V} : ∀ {ks : List P} {vs : List V} {ps : List P}, dget ks vs x = some w → Seps A h vs ps → ∃ q, kvGet (ks.zip ps) x = some q ∧ Sep A h w q
  | [], _, _, e, _ => nomatch e
  | k :: ks, [], _, e, _ => nomatch e
  | k :: ks, v :: vs, ps, e, s => by
    rw [Seps] at s
    obtain ⟨p, r, rfl, s1, s2⟩ := s
    simp only [dget] at e
    simp only [List.zip_cons_cons, kvGet]
    by_cases hb : P.beq k x = true
    · rw [if_pos hb] at e ⊢; cases e; exact ⟨p, rfl, s1⟩
    · rw [if_neg hb] at e ⊢; exact dget_ok e s2
end
section
variable {C : Cfg} {σ : St} {Φ : Wh → V → St → Prop}
theorem bw_as {pn pn' : Option Nat} {As As' : List Nat} {h h' : Hea} (st : Step pn As h pn' As' h') {l : Nat} (hl : l ∈ As') : l ∈ bw pn As ∨ h.length ≤ l := by
  rcases st.as l hl with z | z
  · left; cases pn with
    | none => exact z
    | some _ => exact List.mem_cons_of_mem _ z
  · exact .inr z
theorem Step.write {pn pn' : Option Nat} {As As' : List Nat} {h h' : Hea} (st : Step pn As h pn' As' h') {l : Nat} (hl : l ∈ As') (o : O) : Step pn As h pn' As' (h'.set l o) :=
  ⟨st.ext.trans (B1 := [l]) (Ext.put (by simp)) fun m hm => by rw [List.mem_singleton.mp hm]; exact bw_as st hl, st.as, st.pn⟩
def itemsV : V → Option (List V)
  | .lst vs => some vs
  | .tup vs => some vs
  | .p (.tup ps) => some (ps.map .p)
  | _ => none
theorem e_extend {j : Nat} {e : T .e} {vs0 : List V} (e0 : σ.E[j]? = some (.ow (.lst vs0)))
    (q : RunE C e σ fun κ v σ1 => ∃ vs ws, itemsV v = some ws ∧ σ1.E[j]? = some (.ow (.lst vs)) ∧ vs.length + ws.length ≤ SZ ∧ Φ .sep (.p .non) ⟨σ1.E.set j (.ow (.lst (vs ++ ws))), σ1.pn⟩) : RunE C (.bmt .extend (.var j) (.cons e .nil)) σ Φ := fun A0 s h As k => by
  obtain ⟨l0, x0, es0, hl0, ex0, hx0⟩ := k.ow j _ e0
  obtain ⟨ps0, rfl, _⟩ := hx0
  obtain ⟨y, h1, e1, As1, κ, v, σ1, st, t, k2, vs, ws, ei, ej, hsz, q⟩ := q.one k
  obtain ⟨l, x', es, hl, ex, hx⟩ := k2.ow j _ ej
  rw [es0] at es; cases es
  obtain ⟨qs, rfl, hqs⟩ := hx
  have ev1 : ev C (.var j) () s h = .ok (.ref l0) h := by unfold ev; rw [es0]; rfl
  have hr : rcvOk .extend (.ref l0) h = true := by simp only [rcvOk, ex0]
  have e3 : ev C (.cons e .nil) () s h = .ok [y] h1 := by
    unfold ev; rw [e1]
    have : ev C .nil () s h1 = .ok [] h1 := by unfold ev; rfl
    simp only [R.bind_ok, this]
  have main : ∀ rs, Seps (A0 ++ As1) h1 ws rs → bmtV .extend (.ref l0) [y] h1 = .ok .non (h1.set l0 (.lst (qs ++ rs))) → ∃ q h', ev C (.bmt .extend (.var j) (.cons e .nil)) () s h = .ok q h' ∧ ∃ As' κ v σ', Step σ.pn As h σ'.pn As' h' ∧ Post h.length A0 h' σ' s As' κ v q ∧ Φ κ v σ' := fun rs hrs eb => by
    have kw := k2.write (w := .lst (vs ++ ws)) (x := .lst (qs ++ rs)) ej es0 ⟨_, rfl, hqs.app hrs⟩
    refine ⟨.non, h1.set l0 (.lst (qs ++ rs)), ?_, As1, .sep, .p .non, ⟨σ1.E.set j (.ow (.lst (vs ++ ws))), σ1.pn⟩, st.write hl _, ⟨kw, by rw [Sep]⟩, q⟩
    unfold ev
    rw [ev1]
    simp only [R.bind_ok, hr, if_true]
    rw [e3]
    exact eb
  have hq1 := hqs.len
  cases v with
  | lst vs' =>
    cases ei
    obtain ⟨l2, ps, rfl, e4, hs⟩ := t.lst
    refine main ps hs ?_
    have := hs.len
    simp only [bmtV, ex, e4, if_pos (show qs.length + ps.length ≤ SZ by omega)]
  | tup vs' =>
    cases ei
    obtain ⟨ps, rfl, hs⟩ := t.tup
    refine main ps hs ?_
    have := hs.len
    simp only [bmtV, ex, if_pos (show qs.length + ps.length ≤ SZ by omega)]
  | p x =>
    obtain rfl := t.p
    cases y with
    | tup ps =>
      cases ei
      refine main ps ((Seps.ps _ _).mpr rfl) ?_
      simp only [List.length_map] at hsz
      simp only [bmtV, ex, if_pos (show qs.length + ps.length ≤ SZ by omega)]
    | _ => cases ei
  | dic _ _ => cases ei
  | ins _ _ _ => cases ei
end
section
variable {C : Cfg} {σ : St} {Ψ : FlV → St → Prop}
theorem PostS.from {n m : Nat} {A0 As : List Nat} {h : Hea} {s : Slots} {fl : FlV} {f : Ev.Flow} (p : PostS n A0 h σ s As fl f) (hm : m ≤ n) : PostS m A0 h σ s As fl f := by
  cases fl with
  | rt κ v => obtain ⟨q, e, p⟩ := p; exact ⟨q, e, p.from hm⟩
  | _ => exact p
theorem RunS.behind {t : T .s} {pn : Option Nat} {As As1 : List Nat} {h h1 : Hea} {A0 : List Nat} {s1 : Slots} (st : Step pn As h σ.pn As1 h1) (k : Ok A0 h1 σ s1 As1) (q : RunS C t σ Ψ) : ∃ f s' h', ev C t () s1 h1 = .ok (f, s') h' ∧ ∃ As' fl σ', Step pn As h σ'.pn As' h' ∧ PostS h.length A0 h' σ' s' As' fl f ∧ Ψ fl σ' := by
  obtain ⟨f, s', h', e, As', fl, σ', st', p, q⟩ := q A0 s1 h1 As1 k
  exact ⟨f, s', h', e, As', fl, σ', st.trans st', p.from st.ext.len, q⟩
theorem s_skip (q : Ψ .nx σ) : RunS C .skip σ Ψ := fun A0 s h As k => ⟨.nx, s, h, by unfold ev; rfl, As, .nx, σ, .refl, ⟨rfl, k⟩, q⟩
theorem s_brk (q : Ψ .bk σ) : RunS C .brk σ Ψ := fun A0 s h As k => ⟨.bk, s, h, by unfold ev; rfl, As, .bk, σ, .refl, ⟨rfl, k⟩, q⟩
theorem s_cnt (q : Ψ .ct σ) : RunS C .cnt σ Ψ := fun A0 s h As k => ⟨.ct, s, h, by unfold ev; rfl, As, .ct, σ, .refl, ⟨rfl, k⟩, q⟩
theorem s_retN (q : Ψ (.rt .sep (.p .non)) σ) : RunS C .retN σ Ψ := fun A0 s h As k => ⟨.rt .non, s, h, by unfold ev; rfl, As, .rt .sep (.p .non), σ, .refl, ⟨.non, rfl, k, by rw [Sep]⟩, q⟩
theorem s_ret {a : T .e} (q : RunE C a σ fun κ v σ1 => Ψ (.rt κ v) σ1) : RunS C (.ret a) σ Ψ := fun A0 s h As k => by
  obtain ⟨x, h1, e, As1, κ, v, σ1, st, p, q⟩ := q A0 s h As k
  exact ⟨.rt x, s, h1, by unfold ev; rw [e]; rfl, As1, .rt κ v, σ1, st, ⟨x, rfl, p⟩, q⟩
theorem s_exp {a : T .e} {t : T .s} (q : RunE C a σ fun κ v σ1 => RunS C t σ1 Ψ) : RunS C (.exp a t) σ Ψ := fun A0 s h As k => by
  obtain ⟨x, h1, e, As1, κ, v, σ1, st, p, q⟩ := q A0 s h As k
  obtain ⟨f, s', h', e2, r⟩ := q.behind st (p.ok (pn_pos st.pn k.pen2))
  exact ⟨f, s', h', by unfold ev; rw [e]; exact e2, r⟩
theorem s_asg {g : T .g} {a : T .e} {t : T .s} (q : RunE C a σ fun κ v σ1 => RunG C g σ1 κ v fun σ2 => RunS C t σ2 Ψ) : RunS C (.asg g a t) σ Ψ := fun A0 s h As k => by
  obtain ⟨x, h1, e, As1, κ, v, σ1, st, p, q⟩ := q A0 s h As k
  obtain ⟨s2, h2, e2, As2, σ2, x2, ha2, hp2, k2, q⟩ := q h.length A0 s h1 As1 x st.ext.len (pn_pos st.pn k.pen2) p
  have st2 : Step σ.pn As h σ2.pn As2 h2 := by
    refine ⟨st.ext.trans x2 fun l hl => ?_, fun a ha => ?_, hp2.trans st.pn⟩
    · cases ep : σ1.pn with
      | none => rw [ep] at hl; exact bw_as st hl
      | some m =>
        rw [ep] at hl
        have hp := st.pn
        rw [ep] at hp
        rcases List.mem_cons.mp hl with rfl | hl
        · cases e0 : σ.pn with
          | none => rw [e0] at hp; simp at hp
          | some m0 => exact .inl (by simp [bw])
        · exact bw_as st hl
    · rcases ha2 a ha with z | z
      · exact st.as a z
      · exact .inr z
  obtain ⟨f, s', h', e3, r⟩ := q.behind st2 k2
  exact ⟨f, s', h', by unfold ev; rw [e]; simp only [R.bind_ok]; rw [e2]; exact e3, r⟩
theorem s_ifs {c : T .t} {a b t : T .s} (q : RunT C c σ fun r σ1 => (r = true → RunS C a σ1 fun fl σ2 => match fl with | .nx => RunS C t σ2 Ψ | fl => Ψ fl σ2) ∧ (r = false → RunS C b σ1 fun fl σ2 => match fl with | .nx => RunS C t σ2 Ψ | fl => Ψ fl σ2)) : RunS C (.ifs c a b t) σ Ψ := fun A0 s h As k => by
  obtain ⟨r, h1, e, As1, σ1, st, k1, q1, q2⟩ := q A0 s h As k
  have main : RunS C (if r then a else b) σ1 fun fl σ2 => match fl with | .nx => RunS C t σ2 Ψ | fl => Ψ fl σ2 := by
    cases r with
    | true => exact q1 rfl
    | false => exact q2 rfl
  obtain ⟨f, s', h', e2, As2, fl, σ2, st2, p2, q⟩ := main.behind st k1
  have e3 : (if r = true then ev C a () s h1 else ev C b () s h1) = .ok (f, s') h' := by
    cases r with
    | true => exact e2
    | false => exact e2
  cases fl with
  | nx =>
    obtain ⟨rfl, k2⟩ := p2
    obtain ⟨f, s'', h'', e4, r⟩ := RunS.behind st2 k2 q
    exact ⟨f, s'', h'', by unfold ev; rw [e]; simp only [R.bind_ok]; rw [e3]; exact e4, r⟩
  | bk => obtain ⟨rfl, k2⟩ := p2; exact ⟨.bk, s', h', by unfold ev; rw [e]; simp only [R.bind_ok]; rw [e3]; rfl, As2, .bk, σ2, st2, ⟨rfl, k2⟩, q⟩
  | ct => obtain ⟨rfl, k2⟩ := p2; exact ⟨.ct, s', h', by unfold ev; rw [e]; simp only [R.bind_ok]; rw [e3]; rfl, As2, .ct, σ2, st2, ⟨rfl, k2⟩, q⟩
  | rt κ v => obtain ⟨x, rfl, k2⟩ := p2; exact ⟨.rt x, s', h', by unfold ev; rw [e]; simp only [R.bind_ok]; rw [e3]; rfl, As2, .rt κ v, σ2, st2, ⟨x, rfl, k2⟩, q⟩
end
end Ow

namespace Ow
open PySem Ev
def Kin (A : List Nat) (h : Hea) : List (Bool × V) → List P → List Nat → Prop
  | [], qs, ls => qs = [] ∧ ls = []
  | (false, v) :: r, qs, ls => ∃ q qs', qs = q :: qs' ∧ Sep A h v q ∧ Kin A h r qs' ls
  | (true, v) :: r, qs, ls => ∃ l qs' ls' x, qs = .ref l :: qs' ∧ ls = l :: ls' ∧ h[l]? = some x ∧ SepO A h v x ∧ Kin A h r qs' ls'
theorem Kin.move {A A' : List Nat} {h h' : Hea} (H : ∀ l o, l ∉ A → h[l]? = some o → l ∉ A' ∧ h'[l]? = some o) : ∀ {r : List (Bool × V)} {qs : List P} {ls : List Nat}, (∀ l ∈ ls, ∀ x, h[l]? = some x → h'[l]? = some x) → Kin A h r qs ls → Kin A' h' r qs ls
  | [], _, _, _, k => k
  | (false, v) :: r, qs, ls, K, k => by
    obtain ⟨q, qs', e, s, k⟩ := k
    exact ⟨q, qs', e, s.move H v q, k.move H K⟩
  | (true, v) :: r, qs, ls, K, k => by
    obtain ⟨l, qs', ls', x, e, e2, e3, s, k⟩ := k
    subst e2
    exact ⟨l, qs', ls', x, e, rfl, K l (by simp) x e3, s.move H, k.move H fun a ha => K a (by simp [ha])⟩
def RunK (C : Cfg) (t : T .a) (σ : St) (Φ : List (Bool × V) → St → Prop) : Prop :=
  ∀ A0 s h As, Ok A0 h σ s As → ∃ qs h', ev C t () s h = .ok qs h' ∧ ∃ As' ls r σ', Step σ.pn As h σ'.pn As' h' ∧ Ok (ls ++ A0) h' σ' s As' ∧ (∀ l ∈ ls, h.length ≤ l ∧ l ∉ A0) ∧ ls.Nodup ∧ Kin (ls ++ A0 ++ As') h' r qs ls ∧ Φ r σ'
section
variable {C : Cfg} {σ : St}
theorem k_nil {Φ : List (Bool × V) → St → Prop} (q : Φ [] σ) : RunK C .nil σ Φ := fun A0 s h As k => ⟨[], h, by unfold ev; rfl, As, [], [], σ, .refl, k, by simp, List.nodup_nil, ⟨rfl, rfl⟩, q⟩
def isNew : Wh → Bool
  | .new => true
  | _ => false
theorem k_cons {Φ : List (Bool × V) → St → Prop} {a : T .e} {as : T .a} (q : RunE C a σ fun κ v σ1 => RunK C as (settle κ v σ1) fun r σ2 => Φ ((isNew κ, v) :: r) σ2) : RunK C (.cons a as) σ Φ := fun A0 s h As k => by
  obtain ⟨q1, h1, e1, As1, κ1, v1, σ1, st1, p1, f1⟩ := q A0 s h As k
  have hn1 := pn_pos st1.pn k.pen2
  have fin : ∀ {q2 : List P} {h2 : Hea}, ev C as () s h1 = .ok q2 h2 → ev C (.cons a as) () s h = .ok (q1 :: q2) h2 := fun e2 => by
    unfold ev; rw [e1]; simp only [R.bind_ok]; rw [e2]; rfl
  have old : isNew κ1 = false → ∃ As2, (∀ a ∈ As2, a ∈ As1) ∧ Ok A0 h1 (settle κ1 v1 σ1) s As2 ∧ Sep (A0 ++ As2) h1 v1 q1 := fun _ => p1.settle hn1
  cases hκ : isNew κ1 with
  | false =>
    obtain ⟨As2, has, k2, hs⟩ := old hκ
    obtain ⟨q2, h2, e2, As3, ls, r, σ2, st2, k3, hls, hnd, hk, f⟩ := f1 A0 s h1 As2 k2
    have st1' : Step σ.pn As h (settle κ1 v1 σ1).pn As2 h1 := ⟨st1.ext, fun a ha => st1.as a (has a ha), by rw [settle_pn]; exact st1.pn⟩
    refine ⟨q1 :: q2, h2, fin e2, As3, ls, (isNew κ1, v1) :: r, σ2, st1'.trans st2, k3, fun l hl => ⟨Nat.le_trans st1.ext.len (hls l hl).1, (hls l hl).2⟩, hnd, ?_, f⟩
    rw [hκ]
    refine ⟨q1, q2, rfl, ?_, hk⟩
    refine hs.move (keep_at st2.ext k2.bw_sub fun a ha => ?_) v1 q1
    rcases List.mem_append.mp ha with z | z
    · rcases List.mem_append.mp z with z | z
      · exact .inr (hls a z).1
      · exact .inl (List.mem_append_left _ z)
    · rcases st2.as a z with z | z
      · exact .inl (List.mem_append_right _ z)
      · exact .inr z
  | true =>
    cases κ1 with
    | sep => cases hκ
    | mine => cases hκ
    | new =>
      obtain ⟨l, x, rfl, hnl, hl0, k1, ex, hx⟩ := p1
      obtain ⟨q2, h2, e2, As3, ls, r, σ2, st2, k3, hls, hnd, hk, f⟩ := f1 (l :: A0) s h1 As1 k1
      have hl1 : l ∉ bw σ1.pn As1 := fun z => by
        have z := k1.bw_sub l z
        cases ep : σ1.pn with
        | none =>
          have z' : l ∈ bw σ1.pn As1 := by assumption
          rw [ep] at z'; exact k1.dj l z' (by simp)
        | some m =>
          have z' : l ∈ bw σ1.pn As1 := by assumption
          rw [ep] at z'
          rcases List.mem_cons.mp z' with z | z
          · have := hn1 m ep; omega
          · exact k1.dj l z (by simp)
      have m : ∀ a o, a ∉ ls ++ l :: A0 ++ As3 → h2[a]? = some o → a ∉ (l :: ls) ++ A0 ++ As3 ∧ h2[a]? = some o := fun a o ha eo => ⟨fun z => ha (by simp at z ⊢; rcases z with z | z | z | z <;> simp [z]), eo⟩
      refine ⟨.ref l :: q2, h2, fin e2, As3, l :: ls, (true, v1) :: r, σ2, st1.trans st2, ?_, fun a ha => ?_, ?_, ⟨l, q2, ls, x, rfl, rfl, st2.ext.at_ l x hl1 ex, ?_, ?_⟩, f⟩
      · refine ⟨k3.len, fun i v e => ?_, fun i v e => ?_, k3.inj, fun a ha z => k3.dj a ha (by simp at z ⊢; rcases z with z | z | z <;> simp [z]), fun a ha => k3.bd a (by simp at ha ⊢; rcases ha with z | z | z | z <;> simp [z]), fun n e => ⟨(k3.pen n e).1, by have := (k3.pen n e).2.1; simp at this ⊢; rcases this with z | z | z <;> simp [z], by have := (k3.pen n e).2.2; simp at this ⊢; rcases this with z | z | z <;> simp [z]⟩⟩
        · obtain ⟨q, e1, e2⟩ := k3.sh i v e
          exact ⟨q, e1, e2.move m v q⟩
        · obtain ⟨l, o, e1, e2, e3, e4⟩ := k3.ow i v e
          exact ⟨l, o, e1, e2, e3, e4.move m⟩
      · rcases List.mem_cons.mp ha with rfl | ha
        · exact ⟨hnl, hl0⟩
        · exact ⟨Nat.le_trans st1.ext.len (hls a ha).1, fun z => (hls a ha).2 (by simp [z])⟩
      · refine List.nodup_cons.mpr ⟨fun z => (hls l z).2 (by simp), hnd⟩
      · refine hx.move fun a o ha eo => ?_
        have := keep_at (A := l :: A0 ++ As1) (A' := (l :: ls) ++ A0 ++ As3) st2.ext k1.bw_sub (fun a ha => by
          simp at ha ⊢
          rcases ha with z | z | z | z
          · simp [z]
          · exact .inr (hls a z).1
          · simp [z]
          · rcases st2.as a z with z | z
            · simp [z]
            · exact .inr z) a o ha eo
        exact this
      · exact hk.move m fun _ _ _ e => e
def bindK : List Nat → List (Bool × V) → List Sl → List Sl
  | i :: is, (b, v) :: r, E => bindK is r (E.set i (if b then .ow v else .sh v))
  | _, _, E => E
theorem bind_k {h : Hea} {pn : Option Nat} {A0 : List Nat} {b : Nat} : ∀ {is : List Nat} {r : List (Bool × V)} {qs : List P} {ls : List Nat} {E : List Sl} {s : Slots} {As : List Nat}, r.length = is.length → Ok (ls ++ A0) h ⟨E, pn⟩ s As → (∀ l ∈ ls, b ≤ l ∧ l ∉ A0) → (∀ m, pn = some m → 2 < b) → ls.Nodup → Kin (ls ++ A0 ++ As) h r qs ls → ∃ As', (∀ a ∈ As', a ∈ As ∨ b ≤ a) ∧ Ok A0 h ⟨bindK is r E, pn⟩ (setAll s is qs) As' ∧ qs.length = is.length
  | [], [], qs, ls, E, s, As, _, k, _, _, _, hk => by
    obtain ⟨rfl, rfl⟩ := hk
    exact ⟨As, fun _ z => .inl z, k, rfl⟩
  | [], _ :: _, _, _, _, _, _, hl, _, _, _, _, _ => nomatch hl
  | _ :: _, [], _, _, _, _, _, hl, _, _, _, _, _ => nomatch hl
  | i :: is, (false, v) :: r, qs, ls, E, s, As, hl, k, hls, hb, nd, hk => by
    obtain ⟨q, qs', rfl, hs, hk⟩ := hk
    obtain ⟨As', h1, h2, h3⟩ := bind_k (is := is) (r := r) (Nat.succ.inj hl) (k.setSh (i := i) hs) hls hb nd hk
    exact ⟨As', h1, h2, by simp [h3]⟩
  | i :: is, (true, v) :: r, qs, ls, E, s, As, hl, k, hls, hb, nd, hk => by
    obtain ⟨l, qs', ls', x, rfl, rfl, ex, hs, hk⟩ := hk
    have hl' := hls l (by simp)
    obtain ⟨nd1, nd2⟩ := List.nodup_cons.mp nd
    have k1 := Ok.setOw (i := i) (v := v) (A0 := ls' ++ A0) k ex hs (fun z => by
      rcases List.mem_append.mp z with z | z
      · exact nd1 z
      · exact hl'.2 z) fun m e => Nat.lt_of_lt_of_le (hb m e) hl'.1
    have m : ∀ a o, a ∉ l :: ls' ++ A0 ++ As → h[a]? = some o → a ∉ ls' ++ A0 ++ l :: As ∧ h[a]? = some o := fun a o ha eo => ⟨fun z => ha (by simp at z ⊢; rcases z with z | z | z | z <;> simp [z]), eo⟩
    obtain ⟨As', h1, h2, h3⟩ := bind_k (is := is) (r := r) (Nat.succ.inj hl) k1 (fun a ha => hls a (by simp [ha])) hb nd2 (hk.move m fun _ _ _ e => e)
    refine ⟨As', fun a ha => ?_, h2, by simp [h3]⟩
    rcases h1 a ha with z | z
    · rcases List.mem_cons.mp z with rfl | z
      · exact .inr hl'.1
      · exact .inl z
    · exact .inr z
theorem s_par {Ψ : FlV → St → Prop} {is : List Nat} {as : T .a} {t : T .s} (q : RunK C as σ fun r σ1 => r.length = is.length ∧ RunS C t ⟨bindK is r σ1.E, σ1.pn⟩ Ψ) : RunS C (.par is as t) σ Ψ := fun A0 s h As k => by
  obtain ⟨qs, h1, e1, As1, ls, r, σ1, st, k1, hls, nd, hk, hl, q⟩ := q A0 s h As k
  obtain ⟨As2, ha, k2, hq⟩ := bind_k (b := h.length) hl k1 hls (pn_pos st.pn k.pen2) nd hk
  obtain ⟨f, s', h', e2, rr⟩ := RunS.behind (σ := ⟨bindK is r σ1.E, σ1.pn⟩) ⟨st.ext, fun a z => by
    rcases ha a z with z | z
    · exact st.as a z
    · exact .inr z, st.pn⟩ k2 q
  refine ⟨f, s', h', ?_, rr⟩
  unfold ev; rw [e1]; simp only [R.bind_ok]; rw [if_pos hq]; exact e2
end
section
variable {C : Cfg} {σ : St} {Φ : List V → St → Prop}
theorem i_seq {a : T .e} (q : RunE C a σ fun κ v σ1 => ∃ vs, itemsV v = some vs ∧ Φ vs (settle κ v σ1)) : RunI C (.isq a) σ Φ := fun A0 s h As k => by
  obtain ⟨x, h1, e1, As1, κ, v, σ1, st, p, vs, ei, q⟩ := q A0 s h As k
  obtain ⟨As2, ha, k2, hs⟩ := p.settle (pn_pos st.pn k.pen2)
  have st2 : Step σ.pn As h (settle κ v σ1).pn As2 h1 := ⟨st.ext, fun a z => st.as a (ha a z), by rw [settle_pn]; exact st.pn⟩
  have fin : ∀ {w : Wk}, walkSeq x h1 = .ok w h1 → ev C (.isq a) () s h = .ok w h1 := fun ew => by unfold ev; rw [e1]; exact ew
  cases v with
  | lst ws =>
    cases ei
    rw [Sep] at hs
    obtain ⟨l, ps, rfl, hl, el, hs⟩ := hs
    refine ⟨⟨ps, [(l, .lst ps)]⟩, h1, fin (by simp only [walkSeq, el]), As2, _, _, st2, k2, hs, fun y hy => ?_, q⟩
    rw [List.mem_singleton.mp hy]
    exact ⟨el, fun z => hl (k2.bw_sub l z)⟩
  | tup ws =>
    cases ei
    rw [Sep] at hs
    obtain ⟨ps, rfl, hs⟩ := hs
    exact ⟨⟨ps, []⟩, h1, fin rfl, As2, _, _, st2, k2, hs, fun y hy => (nomatch hy), q⟩
  | p y =>
    rw [Sep] at hs; subst hs
    cases x with
    | tup ps =>
      cases ei
      exact ⟨⟨ps, []⟩, h1, fin rfl, As2, ps.map .p, _, st2, k2, (Seps.ps _ _).mpr rfl, fun y hy => (nomatch hy), q⟩
    | _ => cases ei
  | dic _ _ => cases ei
  | ins _ _ _ => cases ei
theorem i_rng {a : T .e} (q : RunE C a σ fun κ v σ1 => ∃ j : Int, v = .p (.int j) ∧ -4611686018427387904 ≤ j ∧ j < 4611686018427387904 ∧ Φ ((List.range j.toNat).map fun i => .p (.int (i : Nat))) σ1) : RunI C (.irng a) σ Φ := fun A0 s h As k => by
  obtain ⟨x, h1, e1, As1, κ, v, σ1, st, t1, k1, j, rfl, b1, b2, q⟩ := q.one k
  obtain rfl := t1.p
  refine ⟨⟨(List.range j.toNat).map fun i => .int (0 + (i : Nat)), []⟩, h1, ?_, As1, _, σ1, st, k1, ?_, fun y hy => (nomatch hy), q⟩
  · unfold ev; rw [e1]; simp only [R.bind_ok]; rw [if_pos ⟨b1, b2⟩]
  · rw [show ((List.range j.toNat).map fun i => V.p (.int (i : Nat))) = ((List.range j.toNat).map fun (i : Nat) => P.int (0 + (i : Int))).map .p by simp [Function.comp_def]]
    exact (Seps.ps _ _).mpr rfl
def pairV (a b : V) : V := match a, b with
  | .p x, .p y => .p (.tup [x, y])
  | a, b => .tup [a, b]
theorem pairV_ok {A : List Nat} {h : Hea} {a b : V} {x y : P} (ha : Sep A h a x) (hb : Sep A h b y) : Sep A h (pairV a b) (.tup [x, y]) := by
  have gen : Sep A h (.tup [a, b]) (.tup [x, y]) := by rw [Sep]; exact ⟨_, rfl, .cons ha (.one hb)⟩
  cases a with
  | p u =>
    cases b with
    | p w => rw [Sep] at ha hb; subst ha hb; show Sep A h (.p _) _; rw [Sep]
    | _ => exact gen
  | _ => cases b <;> exact gen
theorem walk_items {A : List Nat} {B : List Nat} {h : Hea} {v : V} {q : P} {vs : List V} (ei : itemsV v = some vs) (hs : Sep A h v q) (hB : ∀ b ∈ B, b ∈ A) : ∃ w, walkSeq q h = .ok w h ∧ Seps A h vs w.its ∧ ∀ x ∈ w.stay, h[x.1]? = some x.2 ∧ x.1 ∉ B := by
  cases v with
  | lst ws =>
    cases ei
    rw [Sep] at hs
    obtain ⟨l, ps, rfl, hl, el, hs⟩ := hs
    refine ⟨⟨ps, [(l, .lst ps)]⟩, by simp only [walkSeq, el], hs, fun y hy => ?_⟩
    rw [List.mem_singleton.mp hy]
    exact ⟨el, fun z => hl (hB l z)⟩
  | tup ws =>
    cases ei
    rw [Sep] at hs
    obtain ⟨ps, rfl, hs⟩ := hs
    exact ⟨⟨ps, []⟩, rfl, hs, fun y hy => (nomatch hy)⟩
  | p y =>
    rw [Sep] at hs; subst hs
    cases q with
    | tup ps => cases ei; exact ⟨⟨ps, []⟩, rfl, (Seps.ps _ _).mpr rfl, fun y hy => (nomatch hy)⟩
    | _ => cases ei
  | dic _ _ => cases ei
  | ins _ _ _ => cases ei
def enumV (vs : List V) : List V := vs.zipIdx.map fun x => pairV (.p (.int (x.2 : Nat))) x.1
theorem enumV_ok {A : List Nat} {h : Hea} : ∀ {vs : List V} {ps : List P} (n : Nat), Seps A h vs ps → Seps A h ((vs.zipIdx n).map fun x => pairV (.p (.int (x.2 : Nat))) x.1) ((ps.zipIdx n).map fun x => P.tup [.int (x.2 : Nat), x.1])
  | [], ps, n, s => by rw [Seps] at s; subst s; exact .nil
  | v :: vs, ps, n, s => by
    rw [Seps] at s
    obtain ⟨q, qs, rfl, s1, s2⟩ := s
    rw [List.zipIdx_cons, List.zipIdx_cons, List.map_cons, List.map_cons]
    exact .cons (pairV_ok (by rw [Sep]) s1) (enumV_ok (n + 1) s2)
theorem i_enum {a : T .e} (q : RunE C a σ fun κ v σ1 => ∃ vs, itemsV v = some vs ∧ Φ (enumV vs) (settle κ v σ1)) : RunI C (.ienum a) σ Φ := fun A0 s h As k => by
  obtain ⟨x, h1, e1, As1, κ, v, σ1, st, p, vs, ei, q⟩ := q A0 s h As k
  obtain ⟨As2, ha, k2, hs⟩ := p.settle (pn_pos st.pn k.pen2)
  have st2 : Step σ.pn As h (settle κ v σ1).pn As2 h1 := ⟨st.ext, fun a z => st.as a (ha a z), by rw [settle_pn]; exact st.pn⟩
  obtain ⟨w, ew, hw, hst⟩ := walk_items ei hs k2.bw_sub
  refine ⟨⟨w.its.zipIdx.map fun x => .tup [.int (x.2 : Nat), x.1], w.stay⟩, h1, ?_, As2, _, _, st2, k2, enumV_ok 0 hw, hst, q⟩
  unfold ev; rw [e1]; simp only [R.bind_ok]; rw [ew]; rfl
end
theorem holds_of {w : List (Nat × O)} {h : Hea} (e : ∀ x ∈ w, h[x.1]? = some x.2) : Wk.holds w h = true := by
  unfold Wk.holds
  exact List.all_eq_true.mpr fun x hx => decide_eq_true (e x hx)
theorem stay_later {pn pn' : Option Nat} {As As' : List Nat} {h h' : Hea} {w : List (Nat × O)} (hw : ∀ x ∈ w, h[x.1]? = some x.2 ∧ x.1 ∉ bw pn As) (st : Step pn As h pn' As' h') : ∀ x ∈ w, h'[x.1]? = some x.2 ∧ x.1 ∉ bw pn' As' := fun x hx => by
  obtain ⟨e1, e2⟩ := hw x hx
  refine ⟨st.ext.at_ _ _ e2 e1, fun z => ?_⟩
  have hlt := (List.getElem?_eq_some_iff.mp e1).1
  cases ep : pn' with
  | none =>
    rw [ep] at z
    rcases bw_as st z with z | z
    · exact e2 z
    · omega
  | some m =>
    rw [ep] at z
    rcases List.mem_cons.mp z with z | z
    · have := st.pn
      rw [ep] at this
      cases e0 : pn with
      | none => rw [e0] at this; simp at this
      | some m0 => rw [e0] at e2; exact e2 (by simp [bw, z])
    · rcases bw_as st z with z | z
      · exact e2 z
      · omega
section
variable {C : Cfg} {σ : St} {Ψ : FlV → St → Prop}
theorem for_run {g : T .g} {b t : T .s} {stay : List (Nat × O)} (vs : List V) (Inv : Nat → St → Prop)
    (step : ∀ i v σ, vs[i]? = some v → Inv i σ → RunG C g σ .sep v fun σ2 => RunS C b σ2 fun fl σ3 => match fl with
      | .nx => Inv (i + 1) σ3
      | .ct => Inv (i + 1) σ3
      | .bk => RunS C t σ3 Ψ
      | .rt κ v => Ψ (.rt κ v) σ3)
    (fin : ∀ σ, Inv vs.length σ → RunS C t σ Ψ) {pn0 : Option Nat} {As0 : List Nat} {h0 : Hea} {A0 : List Nat} : ∀ (ws : List V) (i : Nat) (its : List P) (σ : St) (s : Slots) (h : Hea) (As : List Nat), vs.drop i = ws → i ≤ vs.length → Inv i σ → Step pn0 As0 h0 σ.pn As h → Ok A0 h σ s As → Seps (A0 ++ As) h ws its → (∀ x ∈ stay, h[x.1]? = some x.2 ∧ x.1 ∉ bw σ.pn As) →
    ∃ f s' h', ((forL stay (fun p s h => (ev C g p s h).bind fun s h => ev C b () s h) its s h).bind fun r h => match r.1 with
      | .nx => ev C t () r.2 h
      | _ => .ok r h) = .ok (f, s') h' ∧ ∃ As' fl σ', Step pn0 As0 h0 σ'.pn As' h' ∧ PostS h0.length A0 h' σ' s' As' fl f ∧ Ψ fl σ'
  | [], i, its, σ, s, h, As, hd, hi, hI, st, k, hs, hst => by
    rw [Seps] at hs; subst hs
    have hil : i = vs.length := by
      have := congrArg List.length hd
      simp at this; omega
    rw [hil] at hI
    obtain ⟨f, s', h', e, r⟩ := RunS.behind st k (fin σ hI)
    refine ⟨f, s', h', ?_, r⟩
    unfold forL
    rw [if_pos (holds_of fun x hx => (hst x hx).1)]
    exact e
  | w :: ws, i, its, σ, s, h, As, hd, hi, hI, st, k, hs, hst => by
    have hlt : i < vs.length := by
      have := congrArg List.length hd
      simp at this; omega
    have e2 := List.drop_eq_getElem_cons hlt
    rw [hd] at e2
    have ew : w = vs[i] := (List.cons.inj e2).1
    have ed : ws = vs.drop (i + 1) := (List.cons.inj e2).2
    have ei : vs[i]? = some w := by rw [List.getElem?_eq_getElem hlt, ew]
    rw [Seps] at hs
    obtain ⟨q, qs, rfl, hq, hqs⟩ := hs
    obtain ⟨s1, h1, e1, As1, σ1, x1, ha1, hp1, k1, hb⟩ := step i w σ ei hI h.length A0 s h As q (Nat.le_refl _) k.pen2 ⟨k, hq⟩
    have st1 : Step σ.pn As h σ1.pn As1 h1 := ⟨x1, ha1, hp1⟩
    obtain ⟨f, s2, h2, e3, As2, fl, σ2, st2, p2, hr⟩ := hb A0 s1 h1 As1 k1
    have st12 := st1.trans st2
    have hold : Wk.holds stay h = true := holds_of fun x hx => (hst x hx).1
    have hrun : ∀ (K : Ev.Flow × Slots → Hea → R (Ev.Flow × Slots)), (forL stay (fun p s h => (ev C g p s h).bind fun s h => ev C b () s h) (q :: qs) s h).bind K = (match f with
      | .nx => forL stay (fun p s h => (ev C g p s h).bind fun s h => ev C b () s h) qs s2 h2
      | .ct => forL stay (fun p s h => (ev C g p s h).bind fun s h => ev C b () s h) qs s2 h2
      | .bk => .ok (.nx, s2) h2
      | .rt v => .ok (.rt v, s2) h2).bind K := fun K => by
      conv => lhs; unfold forL
      rw [if_pos hold, e1]
      simp only [R.bind_ok]
      rw [e3]
      simp only [R.bind_ok]
      all_goals (cases f <;> rfl)
    rw [hrun]
    cases fl with
    | nx =>
      obtain ⟨rfl, k2⟩ := p2
      exact for_run vs Inv step fin ws (i + 1) qs σ2 s2 h2 As2 ed.symm hlt hr (st.trans st12) k2 (hqs.later st12.ext k.bw_sub st12.as) (stay_later hst st12)
    | ct =>
      obtain ⟨rfl, k2⟩ := p2
      exact for_run vs Inv step fin ws (i + 1) qs σ2 s2 h2 As2 ed.symm hlt hr (st.trans st12) k2 (hqs.later st12.ext k.bw_sub st12.as) (stay_later hst st12)
    | bk =>
      obtain ⟨rfl, k2⟩ := p2
      exact RunS.behind (st.trans st12) k2 hr
    | rt κ v =>
      obtain ⟨x, rfl, p2⟩ := p2
      exact ⟨.rt x, s2, h2, rfl, As2, .rt κ v, σ2, st.trans st12, ⟨x, rfl, p2.from (Nat.le_trans st.ext.len st1.ext.len)⟩, hr⟩
theorem s_for {g : T .g} {it : T .i} {b t : T .s} (q : RunI C it σ fun vs σ1 => ∃ Inv : Nat → St → Prop, Inv 0 σ1 ∧
    (∀ i v σ, vs[i]? = some v → Inv i σ → RunG C g σ .sep v fun σ2 => RunS C b σ2 fun fl σ3 => match fl with
      | .nx => Inv (i + 1) σ3
      | .ct => Inv (i + 1) σ3
      | .bk => RunS C t σ3 Ψ
      | .rt κ v => Ψ (.rt κ v) σ3) ∧ (∀ σ, Inv vs.length σ → RunS C t σ Ψ)) : RunS C (.for_ g it b t) σ Ψ := fun A0 s h As k => by
  obtain ⟨w, h1, e1, As1, vs, σ1, st, k1, hs, hst, Inv, i0, step, fin⟩ := q A0 s h As k
  obtain ⟨f, s', h', e2, r⟩ := for_run vs Inv step fin vs 0 w.its σ1 s h1 As1 rfl (Nat.zero_le _) i0 st k1 hs hst
  refine ⟨f, s', h', ?_, r⟩
  unfold ev; rw [e1]; exact e2
end
def wipeE (E : List Sl) : List Nat → List Sl
  | [] => E
  | i :: is => (wipeE E is).set i .no
def notOw (E : List Sl) (own : List Nat) : Bool := own.all fun i => match E[i]? with
  | some (.ow _) => false
  | _ => true
theorem Ok.wipe {A0 As : List Nat} {h : Hea} {pn : Option Nat} {E : List Sl} {s : Slots} (k : Ok A0 h ⟨E, pn⟩ s As) : ∀ own : List Nat, Ok A0 h ⟨wipeE E own, pn⟩ (Ev.wipe s own) As
  | [] => k
  | i :: is => (k.wipe is).setNo
theorem wipe_get {s : Slots} {j : Nat} : ∀ {own : List Nat}, j ∉ own → (Ev.wipe s own)[j]? = s[j]?
  | [], _ => rfl
  | i :: is, h => by
    simp only [Ev.wipe]
    rw [List.getElem?_set_ne (fun z => h (by rw [z]; simp)), wipe_get fun z => h (List.mem_cons_of_mem _ z)]
theorem wipeE_get {s : List Sl} {j : Nat} : ∀ {own : List Nat}, j ∉ own → (wipeE s own)[j]? = s[j]?
  | [], _ => rfl
  | i :: is, h => by
    simp only [wipeE]
    rw [List.getElem?_set_ne (fun z => h (by rw [z]; simp)), wipeE_get fun z => h (List.mem_cons_of_mem _ z)]
theorem Ok.back {A0 As As' : List Nat} {h h' : Hea} {σ : St} {pn' : Option Nat} {s sb : Slots} {E' : List Sl} {own : List Nat} (k : Ok A0 h σ s As) (st : Step σ.pn As h pn' As' h') (k' : Ok A0 h' ⟨E', pn'⟩ sb As')
    (hE : ∀ j, j ∉ own → E'[j]? = σ.E[j]?) (hs : ∀ j, j ∉ own → sb[j]? = s[j]?) (hno : notOw σ.E own = true) : Ok A0 h' ⟨σ.E, pn'⟩ s As' := by
  have nw : ∀ {j : Nat} {v : V}, σ.E[j]? = some (.ow v) → j ∉ own := fun {j v} e hj => by
    have := List.all_eq_true.mp hno j hj
    rw [e] at this; cases this
  refine ⟨k.len, fun j v e => ?_, fun j v e => ?_, k.inj, k'.dj, k'.bd, k'.pen⟩
  · obtain ⟨q, e1, e2⟩ := k.sh j v e
    exact ⟨q, e1, e2.later st.ext k.bw_sub st.as⟩
  · have hj := nw e
    have e' : E'[j]? = some (.ow v) := by rw [hE j hj]; exact e
    obtain ⟨l, x, e1, e2, e3, e4⟩ := k'.ow j v e'
    exact ⟨l, x, by rw [← hs j hj]; exact e1, e2, e3, e4⟩
def TgOk (C : Cfg) (g : T .g) (own : List Nat) (E : List Sl) (v : V) (E' : List Sl) : Prop := (∀ j, j ∉ own → E'[j]? = E[j]?) ∧ ∀ A0 h pn s As q, Ok A0 h ⟨E, pn⟩ s As → Sep (A0 ++ As) h v q → ∃ s', ev C g q s h = .ok s' h ∧ Ok A0 h ⟨E', pn⟩ s' As ∧ ∀ j, j ∉ own → s'[j]? = s[j]?
section
variable {C : Cfg} {σ : St} {Φ : Wh → V → St → Prop}
theorem tg_nm {own : List Nat} {E : List Sl} {v : V} {i : Nat} (hi : i ∈ own) : TgOk C (.gnm i) own E v (E.set i (.sh v)) :=
  ⟨fun j hj => List.getElem?_set_ne (fun z => hj (by rw [← z]; exact hi)), fun A0 h pn s As q k hs => ⟨s.set i (some q), by unfold ev; rfl, k.setSh hs, fun j hj => List.getElem?_set_ne (fun z => hj (by rw [← z]; exact hi))⟩⟩
theorem tg_pair {own : List Nat} {E : List Sl} {a b : V} {i j : Nat} (hi : i ∈ own) (hj : j ∈ own) : TgOk C (.gtup (.gcons (.gnm i) (.gcons (.gnm j) .gnil))) own E (pairV a b) ((E.set i (.sh a)).set j (.sh b)) := by
  refine ⟨fun k hk => ?_, fun A0 h pn s As q k hs => ?_⟩
  · rw [List.getElem?_set_ne (fun z => hk (by rw [← z]; exact hj)), List.getElem?_set_ne (fun z => hk (by rw [← z]; exact hi))]
  · have : ∃ x y, q = .tup [x, y] ∧ Sep (A0 ++ As) h a x ∧ Sep (A0 ++ As) h b y := by
      have gen : Sep (A0 ++ As) h (.tup [a, b]) q → ∃ x y, q = .tup [x, y] ∧ Sep (A0 ++ As) h a x ∧ Sep (A0 ++ As) h b y := fun hz => by
        rw [Sep] at hz
        obtain ⟨ps, rfl, hz⟩ := hz
        rw [Seps] at hz
        obtain ⟨x, r, rfl, h1, hz⟩ := hz
        rw [Seps] at hz
        obtain ⟨y, r, rfl, h2, hz⟩ := hz
        rw [Seps] at hz; subst hz
        exact ⟨x, y, rfl, h1, h2⟩
      cases a with
      | p u =>
        cases b with
        | p w =>
          have hs : Sep (A0 ++ As) h (.p (.tup [u, w])) q := hs
          rw [Sep] at hs
          exact ⟨u, w, hs, by rw [Sep], by rw [Sep]⟩
        | _ => exact gen hs
      | _ => cases b <;> exact gen hs
    obtain ⟨x, y, rfl, h1, h2⟩ := this
    refine ⟨(s.set i (some x)).set j (some y), ?_, (k.setSh h1).setSh h2, fun k hk => ?_⟩
    · unfold ev
      simp only [List.length_cons, List.length_nil, glen, if_true]
      unfold ev
      simp only
      have e1 : ev C (.gnm i) x s h = .ok (s.set i (some x)) h := by unfold ev; rfl
      rw [e1]; simp only [R.bind_ok]
      unfold ev
      simp only
      have e2 : ev C (.gnm j) y (s.set i (some x)) h = .ok ((s.set i (some x)).set j (some y)) h := by unfold ev; rfl
      rw [e2]; simp only [R.bind_ok]
      unfold ev
      rfl
    · rw [List.getElem?_set_ne (fun z => hk (by rw [← z]; exact hj)), List.getElem?_set_ne (fun z => hk (by rw [← z]; exact hi))]
theorem lc_run {own : List Nat} {g : T .g} {c : T .t} {elt : T .e} {stay : List (Nat × O)} {E : List Sl} (hno : notOw E own = true) (vs : List V) (hl : vs.length ≤ SZ) (Inv : Nat → List V → Option Nat → Prop)
    (step : ∀ i v acc pn, vs[i]? = some v → Inv i acc pn → ∃ E', TgOk C g own (wipeE E own) v E' ∧ RunT C c ⟨E', pn⟩ fun b σ1 => σ1.E = E' ∧ (b = false → Inv (i + 1) acc σ1.pn) ∧ (b = true → RunE C elt σ1 fun κ w σ2 => (settle κ w σ2).E = E' ∧ Inv (i + 1) (acc ++ [w]) σ2.pn))
    {pn0 : Option Nat} {As0 : List Nat} {h0 : Hea} {A0 : List Nat} {s : Slots} : ∀ (ws : List V) (i : Nat) (its : List P) (acc : List V) (ap : List P) (pn : Option Nat) (h : Hea) (As : List Nat), vs.drop i = ws → i ≤ vs.length → acc.length ≤ i → Inv i acc pn → Step pn0 As0 h0 pn As h → Ok A0 h ⟨E, pn⟩ s As → Seps (A0 ++ As) h ws its → Seps (A0 ++ As) h acc ap → (∀ x ∈ stay, h[x.1]? = some x.2 ∧ x.1 ∉ bw pn As) →
    ∃ rs h', lcL stay (fun p h => (ev C g p (Ev.wipe s own) h).bind fun s' h => (ev C c () s' h).bind fun b h => if b then (ev C elt () s' h).bind fun v h => .ok (some v) h else .ok none h) its ap h = .ok rs h' ∧ ∃ As' acc' pn', Step pn0 As0 h0 pn' As' h' ∧ Ok A0 h' ⟨E, pn'⟩ s As' ∧ Seps (A0 ++ As') h' acc' rs ∧ acc'.length ≤ vs.length ∧ Inv vs.length acc' pn'
  | [], i, its, acc, ap, pn, h, As, hd, hi, ha, hI, st, k, hs, hap, hst => by
    rw [Seps] at hs; subst hs
    have hil : i = vs.length := by
      have := congrArg List.length hd
      simp at this; omega
    rw [hil] at hI
    refine ⟨ap, h, ?_, As, acc, pn, st, k, hap, by omega, hI⟩
    unfold lcL
    rw [if_pos (holds_of fun x hx => (hst x hx).1)]
  | w :: ws, i, its, acc, ap, pn, h, As, hd, hi, ha, hI, st, k, hs, hap, hst => by
    have hlt : i < vs.length := by
      have := congrArg List.length hd
      simp at this; omega
    have e2 := List.drop_eq_getElem_cons hlt
    rw [hd] at e2
    have ew : w = vs[i] := (List.cons.inj e2).1
    have ed : ws = vs.drop (i + 1) := (List.cons.inj e2).2
    have ei : vs[i]? = some w := by rw [List.getElem?_eq_getElem hlt, ew]
    rw [Seps] at hs
    obtain ⟨q, qs, rfl, hq, hqs⟩ := hs
    obtain ⟨E', ⟨tE, tg⟩, hc⟩ := step i w acc pn ei hI
    obtain ⟨sb, e1, k1, hsb⟩ := tg A0 h pn _ As q (k.wipe own) hq
    obtain ⟨b, h1, e3, As1, σ1, st1, k2, hE1, qf, qt⟩ := hc A0 sb h As k1
    have hold : Wk.holds stay h = true := holds_of fun x hx => (hst x hx).1
    have hEo : ∀ j, j ∉ own → E'[j]? = E[j]? := fun j hj => (tE j hj).trans (wipeE_get hj)
    have hso : ∀ j, j ∉ own → sb[j]? = s[j]? := fun j hj => (hsb j hj).trans (wipe_get hj)
    cases b with
    | false =>
      have k3 : Ok A0 h1 ⟨E, σ1.pn⟩ s As1 := k.back (σ := ⟨E, pn⟩) (own := own) st1 k2 (fun j hj => by rw [hE1]; exact hEo j hj) hso hno
      obtain ⟨rs, h', e5, r⟩ := lc_run hno vs hl Inv step ws (i + 1) qs acc ap σ1.pn h1 As1 ed.symm hlt (by omega) (qf rfl) (st.trans st1) k3 (hqs.later st1.ext (show ∀ b ∈ bw pn As, b ∈ A0 ++ As from Ok.bw_sub k) st1.as) (hap.later st1.ext (show ∀ b ∈ bw pn As, b ∈ A0 ++ As from Ok.bw_sub k) st1.as) (stay_later hst st1)
      refine ⟨rs, h', ?_, r⟩
      unfold lcL
      rw [if_pos hold, e1]; simp only [R.bind_ok]
      rw [e3]; simp only [R.bind_ok, if_false, Bool.false_eq_true]
      exact e5
    | true =>
      obtain ⟨x, h2, e4, As2, κ, v, σ2, st2, p2, hE2, hI2⟩ := qt rfl A0 sb h1 As1 k2
      obtain ⟨As3, ha3, k3, hv⟩ := p2.settle (pn_pos st2.pn k2.pen2)
      have st2' : Step σ1.pn As1 h1 σ2.pn As3 h2 := ⟨st2.ext, fun a z => st2.as a (ha3 a z), st2.pn⟩
      have st12 := st1.trans st2'
      have k3' : Ok A0 h2 ⟨(settle κ v σ2).E, σ2.pn⟩ sb As3 := by
        have := k3
        rw [show settle κ v σ2 = ⟨(settle κ v σ2).E, (settle κ v σ2).pn⟩ from rfl, settle_pn] at this
        exact this
      have k4 : Ok A0 h2 ⟨E, σ2.pn⟩ s As3 := k.back (σ := ⟨E, pn⟩) (own := own) st12 k3' (fun j hj => by rw [hE2]; exact hEo j hj) hso hno
      have hacc := (hap.later st12.ext (show ∀ b ∈ bw pn As, b ∈ A0 ++ As from Ok.bw_sub k) st12.as)
      obtain ⟨rs, h', e5, r⟩ := lc_run hno vs hl Inv step ws (i + 1) qs (acc ++ [v]) (ap ++ [x]) σ2.pn h2 As3 ed.symm hlt (by simp; omega) hI2 (st.trans st12) k4 (hqs.later st12.ext (show ∀ b ∈ bw pn As, b ∈ A0 ++ As from Ok.bw_sub k) st12.as) (hacc.app (.one hv)) (stay_later hst st12)
      refine ⟨rs, h', ?_, r⟩
      unfold lcL
      rw [if_pos hold, e1]; simp only [R.bind_ok]
      rw [e3]; simp only [R.bind_ok, if_true]
      rw [e4]; simp only [R.bind_ok]
      rw [if_pos (by rw [hap.len]; omega)]
      exact e5
theorem o_lc {own : List Nat} {elt : T .e} {g : T .g} {it : T .i} {c : T .t} (q : RunI C it σ fun vs σ0 => notOw σ0.E own = true ∧ vs.length ≤ SZ ∧ ∃ Inv : Nat → List V → Option Nat → Prop, Inv 0 [] σ0.pn ∧
    (∀ i v acc pn, vs[i]? = some v → Inv i acc pn → ∃ E', TgOk C g own (wipeE σ0.E own) v E' ∧ RunT C c ⟨E', pn⟩ fun b σ1 => σ1.E = E' ∧ (b = false → Inv (i + 1) acc σ1.pn) ∧ (b = true → RunE C elt σ1 fun κ w σ2 => (settle κ w σ2).E = E' ∧ Inv (i + 1) (acc ++ [w]) σ2.pn)) ∧
    (∀ acc pn, Inv vs.length acc pn → Φ .new (.lst acc) ⟨σ0.E, pn⟩)) : RunE C (.lc own elt g it c) σ Φ := fun A0 s h As k => by
  obtain ⟨w, h1, e1, As1, vs, σ1, st, k1, hs, hst, hno, hl, Inv, i0, step, fin⟩ := q A0 s h As k
  obtain ⟨rs, h2, e2, As2, acc, pn, st2, k2, hr, hlen, hI⟩ := lc_run hno vs hl Inv step vs 0 w.its [] [] σ1.pn h1 As1 rfl (Nat.zero_le _) (Nat.le_refl _) i0 st k1 hs .nil hst
  obtain ⟨st3, p⟩ := post_obj (σ := ⟨σ1.E, pn⟩) (x := .lst rs) (v := .lst acc) k2 st2 ⟨rs, rfl, hr⟩
  refine ⟨.ref h2.length, h2 ++ [.lst rs], ?_, As2, .new, .lst acc, ⟨σ1.E, pn⟩, st3, p, fin acc pn hI⟩
  unfold ev; rw [e1]; simp only [R.bind_ok]; rw [e2]; simp only [R.calm, R.bind_ok]
  unfold mkLst; rw [if_pos (by rw [hr.len]; omega)]; rfl
theorem o_lcm {α : Type} {own : List Nat} {elt : T .e} {g : T .g} {it : T .i} {c : T .t} {xs : List α} {f w : α → V} {t : α → Bool} (q : RunI C it σ fun vs σ0 => vs = xs.map f ∧ notOw σ0.E own = true ∧ xs.length ≤ SZ ∧
    (∀ x ∈ xs, ∃ E', TgOk C g own (wipeE σ0.E own) (f x) E' ∧ RunT C c ⟨E', σ0.pn⟩ fun b σ1 => σ1 = ⟨E', σ0.pn⟩ ∧ b = t x ∧ (t x = true → RunE C elt ⟨E', σ0.pn⟩ fun κ u σ2 => settle κ u σ2 = ⟨E', σ0.pn⟩ ∧ u = w x)) ∧
    Φ .new (.lst ((xs.filter t).map w)) σ0) : RunE C (.lc own elt g it c) σ Φ := by
  refine o_lc fun A0 s h As k => ?_
  obtain ⟨wk, h1, e1, As1, vs, σ0, st, k1, hs, hst, rfl, hno, hl, step, fin⟩ := q A0 s h As k
  refine ⟨wk, h1, e1, As1, _, σ0, st, k1, hs, hst, hno, by simpa using hl, fun i acc pn => acc = ((xs.take i).filter t).map w ∧ pn = σ0.pn, ⟨rfl, rfl⟩, ?_, fun acc pn hI => ?_⟩
  · rintro i v acc pn hv ⟨rfl, rfl⟩
    rw [List.getElem?_map, Option.map_eq_some_iff] at hv
    obtain ⟨x, hx, rfl⟩ := hv
    obtain ⟨E', tg, hc⟩ := step x (List.mem_of_getElem? hx)
    have et : ((xs.take (i + 1)).filter t).map w = ((xs.take i).filter t).map w ++ (if t x = true then [w x] else []) := by
      rw [List.take_add_one, hx, List.filter_append, List.map_append]
      cases hb : t x <;> simp [List.filter_cons, hb]
    refine ⟨E', tg, fun A0 s h As k => ?_⟩
    obtain ⟨b, h1, e1, As1, σ1, st1, k2, rfl, rfl, qe⟩ := hc A0 s h As k
    refine ⟨_, h1, e1, As1, _, st1, k2, rfl, fun z => ⟨by rw [et, z]; simp, rfl⟩, fun z => ?_⟩
    intro A0 s h As k
    obtain ⟨x', h', e', As', κ, u, σ', st', p', e5, rfl⟩ := qe z A0 s h As k
    refine ⟨x', h', e', As', κ, _, σ', st', p', by rw [e5], by rw [et, z]; simp, ?_⟩
    have := congrArg St.pn e5
    rw [settle_pn] at this
    exact this
  · obtain ⟨rfl, rfl⟩ := hI
    simpa using fin
end
theorem ok_start {A : List Nat} {h : Hea} {pn : Option Nat} {vs : List V} {ps : List P} {n : Nat} (hA : ∀ a ∈ A, a < h.length) (hp : ∀ n, pn = some n → Pen h n ∧ 1 ∈ A ∧ 2 ∈ A) (hs : Seps A h vs ps) : Ok A h ⟨vs.map .sh ++ List.replicate n .no, pn⟩ (ps.map some ++ List.replicate n none) [] := by
  have hl := hs.len
  refine ⟨by simp [hl], fun i v e => ?_, fun i v e => ?_, fun i j v w l e => ?_, (fun a ha => nomatch ha), by simpa using hA, hp⟩
  · rw [List.getElem?_append] at e ⊢
    simp only [List.length_map] at e ⊢
    split at e
    · rename_i hlt
      rw [if_pos (by omega)]
      rw [List.getElem?_map, Option.map_eq_some_iff] at e
      obtain ⟨w, e, z⟩ := e
      cases z
      obtain ⟨q, e1, e2⟩ := hs.get e
      exact ⟨q, by rw [List.getElem?_map, e1]; rfl, by rw [List.append_nil]; exact e2⟩
    · rw [List.getElem?_replicate] at e
      split at e <;> cases e
  · exfalso
    rw [List.getElem?_append] at e
    split at e
    · rw [List.getElem?_map, Option.map_eq_some_iff] at e
      obtain ⟨w, e, z⟩ := e
      cases z
    · rw [List.getElem?_replicate] at e
      split at e <;> cases e
  · exfalso
    rw [List.getElem?_append] at e
    split at e
    · rw [List.getElem?_map, Option.map_eq_some_iff] at e
      obtain ⟨w, e, z⟩ := e
      cases z
    · rw [List.getElem?_replicate] at e
      split at e <;> cases e
def frOf : Wh → Bool
  | .sep => false
  | _ => true
theorem callR_fn {G : Prog} {W d g : Nat} {f : Fn} {pn : Option Nat} {vs : List V} {Φ : Bool → V → Option Nat → Prop} (e : G.fn g = some f) (hl : vs.length = f.params)
    (q : RunS ⟨callN G W d, G.con, W⟩ f.body ⟨vs.map .sh ++ List.replicate (f.slots - f.params) .no, pn⟩ fun fl σ => match fl with
      | .rt κ v => Φ (frOf κ) v σ.pn
      | .nx => Φ false (.p .non) σ.pn
      | _ => False) : CallR (callN G W (d + 1) g) pn vs Φ := fun A h ps hA hp hs => by
  have hpl := hs.len
  obtain ⟨fl, s', h', e2, As', flv, σ', st, p, hq⟩ := q A _ h [] (ok_start hA hp hs)
  have er : ∀ {x : P}, fl = .rt x → callN G W (d + 1) g ps h = .ok x h' := fun {x} ex => by
    rw [call_fn e]
    unfold runFn
    rw [if_pos (by rw [hpl]; exact hl), e2, ex]; rfl
  have hx : Ext (bw pn []) h h' := st.ext
  cases flv with
  | nx =>
    obtain ⟨rfl, k⟩ := p
    refine ⟨.non, h', ?_, false, .p .non, σ'.pn, hx, st.pn, fun n en => (k.pen n en).1, by simp only; rw [Sep], hq⟩
    rw [call_fn e]
    unfold runFn
    rw [if_pos (by rw [hpl]; exact hl), e2]; rfl
  | bk => exact hq.elim
  | ct => exact hq.elim
  | rt κ v =>
    obtain ⟨x, rfl, p⟩ := p
    have hn := pn_pos (a := h.length) st.pn fun m em => Pen_len3 (hp m em).1
    have kk := p.ok hn
    refine ⟨x, h', er rfl, frOf κ, v, σ'.pn, hx, st.pn, fun n en => (kk.pen n en).1, ?_, hq⟩
    cases κ with
    | sep =>
      have m : ∀ a o, a ∉ A ++ As' → h'[a]? = some o → a ∉ A ∧ h'[a]? = some o := fun a o ha eo => ⟨fun z => ha (List.mem_append_left _ z), eo⟩
      exact p.2.move m v x
    | mine i =>
      obtain ⟨k, ee, es⟩ := p
      obtain ⟨l, o, e3, e4, e5, e6⟩ := k.ow i v ee
      rw [es] at e3; cases e3
      refine ⟨l, o, rfl, ?_, e5, e6.move fun a o ha eo => ⟨fun z => ha (by
        rcases List.mem_cons.mp z with rfl | z
        · exact List.mem_append_right _ e4
        · exact List.mem_append_left _ z), eo⟩⟩
      rcases st.as l e4 with z | z
      · cases z
      · exact z
    | new =>
      obtain ⟨l, o, rfl, hnl, hl0, k, ex, hx⟩ := p
      exact ⟨l, o, rfl, hnl, ex, hx.move fun a o ha eo => ⟨fun z => ha (by simp at z ⊢; rcases z with z | z <;> simp [z]), eo⟩⟩
theorem CallR.imp {f : List P → Hea → R P} {pn : Option Nat} {vs : List V} {Φ Ψ : Bool → V → Option Nat → Prop} (q : CallR f pn vs Φ) (k : ∀ fr v pn, Φ fr v pn → Ψ fr v pn) : CallR f pn vs Ψ := fun A h ps hA hp hs => by
  obtain ⟨x, h', e, fr, v, pn', a, b, c, d, hq⟩ := q A h ps hA hp hs
  exact ⟨x, h', e, fr, v, pn', a, b, c, d, k _ _ _ hq⟩
theorem CallR.any {f : List P → Hea → R P} {pn : Option Nat} {vs : List V} {Φ : Bool → V → Option Nat → Prop} (q : CallR f none vs fun fr v _ => Φ fr v pn) : CallR f pn vs Φ := fun A h ps hA hp hs => by
  obtain ⟨x, h', e, fr, v, pn', a, b, c, d, hq⟩ := q A h ps hA (fun _ z => nomatch z) hs
  exact ⟨x, h', e, fr, v, pn, a.mono (fun _ z => nomatch z), rfl, fun n en => (Ext.grow a).pen (hp n en).1, d, hq⟩
theorem CallR.ofRet {f : List P → Hea → R P} {ps : List P} {Q : P → Prop} (q : ∀ h, Ret (f ps h) fun v h' => Q v ∧ Grow h h') : CallR f none (ps.map .p) fun fr v _ => fr = false ∧ ∃ x, v = .p x ∧ Q x := fun A h qs hA hp hs => by
  obtain rfl := (Seps.ps _ _).mp hs
  obtain ⟨x, h', e, hq, g⟩ := q h
  exact ⟨x, h', e, false, .p x, none, .ofGrow g, rfl, (fun _ z => nomatch z), (by simp only; rw [Sep]), rfl, x, rfl, hq⟩
theorem CallR.ret {f : List P → Hea → R P} {ps : List P} {Q : P → Prop} (q : CallR f none (ps.map .p) fun fr v _ => ∃ x, v = .p x ∧ fr = false ∧ Q x) (h : Hea) : Ret (f ps h) fun v h' => Q v ∧ Grow h h' := by
  obtain ⟨x, h', e, fr, v, pn', a, b, c, d, y, rfl, rfl, hq⟩ := q [] h ps (fun _ z => nomatch z) (fun _ z => nomatch z) ((Seps.ps _ _).mpr rfl)
  have d : Sep [] h' (.p y) x := d
  rw [Sep] at d; subst d
  exact ⟨x, h', e, hq, a.grow⟩
end Ow

namespace Ow
open PySem Ev
def Tops (A : List Nat) (h : Hea) : List V → List P → Prop
  | [], ps => ps = []
  | v :: vs, ps => ∃ q qs, ps = q :: qs ∧ Top A h v q ∧ Tops A h vs qs
def RunB (C : Cfg) (t : T .a) (σ : St) (Φ : List V → Prop) : Prop :=
  ∀ A0 s h As, Ok A0 h σ s As → ∃ qs h', ev C t () s h = .ok qs h' ∧ ∃ As' vs, Step σ.pn As h σ.pn As' h' ∧ Ok A0 h' σ s As' ∧ Tops (A0 ++ As') h' vs qs ∧ Φ vs
section
variable {C : Cfg} {σ : St} {Φ : Wh → V → St → Prop}
theorem b_nil {Φ : List V → Prop} (q : Φ []) : RunB C .nil σ Φ := fun A0 s h As k => ⟨[], h, by unfold ev; rfl, As, [], .refl, k, rfl, q⟩
end
theorem idx_tupP {ps : List P} {i : Int} {x : P} (e : L2.atI ps i = some x) : IdxR (.p (.tup ps)) (.p (.int i)) (.p x) := fun A h q r t u => by
  rw [t.p, u.p]; exact ⟨x, e, by rw [Sep]⟩
theorem atI_len {α β : Type} {xs : List α} {ys : List β} (hl : ys.length = xs.length) {i : Int} {v : α} (e : L2.atI xs i = some v) : ∃ j : Nat, xs[j]? = some v ∧ ∀ w, ys[j]? = some w → L2.atI ys i = some w := by
  unfold L2.atI at e ⊢
  rw [hl]
  cases hj : L2.ixN xs.length i with
  | none => rw [hj] at e; cases e
  | some j => rw [hj] at e; exact ⟨j, e, fun w h => h⟩
theorem idx_seps {A : List Nat} {h : Hea} {vs : List V} {ps : List P} {i : Int} {v : V} (s : Seps A h vs ps) (e : L2.atI vs i = some v) : ∃ z, L2.atI ps i = some z ∧ Sep A h v z := by
  obtain ⟨j, e1, e2⟩ := atI_len s.len e
  obtain ⟨q, e3, e4⟩ := s.get e1
  exact ⟨q, e2 q e3, e4⟩
theorem idx_lst {vs : List V} {i : Int} {v : V} (e : L2.atI vs i = some v) : IdxR (.lst vs) (.p (.int i)) v := fun A h q r t u => by
  rw [u.p]
  obtain ⟨l, ps, rfl, el, s⟩ := t.lst
  obtain ⟨z, e1, e2⟩ := idx_seps s e
  exact ⟨z, by simp only [idxV, el, e1], e2⟩
theorem cmp_p {o : Cop} {x y : P} {b : Bool} (e : ∀ h, cmpV o x y h = some b) : CmpR o (.p x) (.p y) b := fun A h q r t u => by rw [t.p, u.p]; exact e h
theorem cmp_is {v : V} : CmpR .isN v (.p .non) (match v with | .p x => isNone x | _ => false) := fun A h q r t u => by
  rw [u.p]
  show isV q .non = _
  cases v with
  | p x => rw [t.p]; rfl
  | tup vs => obtain ⟨ps, rfl, s⟩ := t.tup; rfl
  | lst vs => obtain ⟨l, ps, rfl, el, s⟩ := t.lst; rfl
  | dic ks vs => obtain ⟨l, ps, rfl, el, s⟩ := t.dic; rfl
  | ins c ns vs => obtain ⟨l, ps, rfl, el, s⟩ := t.ins; rfl
theorem cmp_not {o o' : Cop} {v w : V} {b : Bool} (h : CmpR o v w b) (e : ∀ x y h, cmpV o' x y h = (cmpV o x y h).map (!·)) : CmpR o' v w (!b) := fun A g q r t u => by rw [e, h A g q r t u]; rfl
theorem cmp_notN {v : V} : CmpR .notN v (.p .non) (match v with | .p x => !isNone x | _ => true) := by
  have := cmp_not (o' := .notN) (cmp_is (v := v)) fun _ _ _ => rfl
  cases v <;> exact this
theorem cmp_eqL {n : Nat} (hn : n ≤ 60) {ps qs : List P} (h : plnPs n ps = true) (hq : plnPs n qs = true) : CmpR .eq (.lst (ps.map .p)) (.lst (qs.map .p)) (decide (ps = qs)) := fun A g q r t u => by
  obtain ⟨l, ps', rfl, el, s⟩ := t.lst
  obtain ⟨l2, qs', rfl, el2, s2⟩ := u.lst
  rw [(Seps.ps _ _).mp s] at el
  rw [(Seps.ps _ _).mp s2] at el2
  exact eq_plnL hn el el2 h hq
theorem cmp_neL {n : Nat} (hn : n ≤ 60) {ps qs : List P} (h : plnPs n ps = true) (hq : plnPs n qs = true) : CmpR .ne (.lst (ps.map .p)) (.lst (qs.map .p)) (!decide (ps = qs)) := fun A g q r t u => by
  obtain ⟨l, ps', rfl, el, s⟩ := t.lst
  obtain ⟨l2, qs', rfl, el2, s2⟩ := u.lst
  rw [(Seps.ps _ _).mp s] at el
  rw [(Seps.ps _ _).mp s2] at el2
  exact ne_plnL hn el el2 h hq
theorem cmp_neN {n : Nat} (hn : n ≤ 60) {α : Type} {f : α → P} {xs : List α} (h : plnPs n (xs.map f) = true) : CmpR .ne (.lst (xs.map fun x => .p (f x))) (.lst []) (!decide (xs = [])) := by
  have := cmp_neL hn (qs := []) h rfl
  rw [List.map_map] at this
  have e : decide (xs.map f = []) = decide (xs = []) := by cases xs <;> rfl
  rw [e] at this
  exact this
theorem cmp_eqN {n : Nat} (hn : n ≤ 60) {α : Type} {f : α → P} {xs : List α} (h : plnPs n (xs.map f) = true) : CmpR .eq (.lst (xs.map fun x => .p (f x))) (.lst []) (decide (xs = [])) := by
  have := cmp_eqL hn (qs := []) h rfl
  rw [List.map_map] at this
  have e : decide (xs.map f = []) = decide (xs = []) := by cases xs <;> rfl
  rw [e] at this
  exact this
theorem tru_p {x : P} {b : Bool} (e : ∀ h, truV x h = some b) : TruR (.p x) b := fun A h q t => by rw [t.p]; exact e h
theorem bin_p {o : Bop} {x y z : P} (e : ∀ h, binV o x y h = .ok z h) : BinR o (.p x) (.p y) .sep (.p z) := fun A h q r t u => by rw [t.p, u.p]; exact ⟨z, e h, by rw [Sep]⟩
theorem bin_add {i j : Int} : BinR .add (.p (.int i)) (.p (.int j)) .sep (.p (.int (i + j))) := bin_p fun _ => rfl
theorem bin_sub {i j : Int} : BinR .sub (.p (.int i)) (.p (.int j)) .sep (.p (.int (i - j))) := bin_p fun _ => rfl
theorem bin_tup {a b : List P} (hl : a.length + b.length ≤ SZ) : BinR .add (.p (.tup a)) (.p (.tup b)) .sep (.p (.tup (a ++ b))) := bin_p fun h => by
  show mkTup (a ++ b) h = _
  unfold mkTup; rw [if_pos (by rw [List.length_append]; exact hl)]
theorem blt_p {b : Blt} {x y : P} (e : ∀ h, bltV b [x] h = .ok y h) : BltR b (.p x) .sep (.p y) := fun A h q t => by rw [t.p]; exact ⟨y, e h, by rw [Sep]⟩
theorem len_lst {vs : List V} : BltR .len (.lst vs) .sep (.p (.int vs.length)) := fun A h q t => by
  obtain ⟨l, ps, rfl, el, s⟩ := t.lst
  exact ⟨.int ps.length, by simp only [bltV, el], by rw [Sep, s.len]⟩
theorem len_tupP {ps : List P} : BltR .len (.p (.tup ps)) .sep (.p (.int ps.length)) := blt_p fun _ => rfl
theorem tuple_ps {ps : List P} : BltR .tuple (.lst (ps.map .p)) .sep (.p (.tup ps)) := fun A h q t => by
  obtain ⟨l, ps', rfl, el, s⟩ := t.lst
  rw [(Seps.ps _ _).mp s] at el
  exact ⟨.tup ps, by simp only [bltV, el], by rw [Sep]⟩
theorem tuple_map {α : Type} {f : α → P} {xs : List α} : BltR .tuple (.lst (xs.map fun x => .p (f x))) .sep (.p (.tup (xs.map f))) := by
  have := tuple_ps (ps := xs.map f)
  rwa [List.map_map] at this
end Ow

namespace Ow
open PySem Ev
section
variable {σ : St} {Φ : Wh → V → St → Prop}
theorem x_tup {vs : List V} {ps : List P} (e : psOf vs = some ps) (hl : Nat.ble ps.length SZ = true) {q : List P → Prop} (h : q ps) : ∃ ps, psOf vs = some ps ∧ ps.length ≤ SZ ∧ q ps := ⟨ps, e, Nat.le_of_ble_eq_true hl, h⟩
theorem x_lst {n : Nat} (hl : Nat.ble n SZ = true) {q : Prop} (h : q) : n ≤ SZ ∧ q := ⟨Nat.le_of_ble_eq_true hl, h⟩
theorem x_seq {v : V} {vs : List V} (e : itemsV v = some vs) {q : List V → Prop} (h : q vs) : ∃ vs, itemsV v = some vs ∧ q vs := ⟨vs, e, h⟩
theorem x_par {a b : Nat} (e : a = b) {q : Prop} (h : q) : a = b ∧ q := ⟨e, h⟩
theorem x_idx {κ : Wh} {E : List Sl} {v w u : V} (hi : IdxR v w u) {q : V → Prop} (h : q u) : (∀ i, κ = .mine i → E = E) ∧ ∃ u, IdxR v w u ∧ q u := ⟨fun _ _ => rfl, u, hi, h⟩
theorem x_bin {κ0 : Wh} {E : List Sl} {o : Bop} {v w u : V} {κ : Wh} (hb : BinR o v w κ u) {q : Wh → V → Prop} (h : q κ u) : (∀ i, κ0 = .mine i → E = E) ∧ ∃ κ u, BinR o v w κ u ∧ q κ u := ⟨fun _ _ => rfl, κ, u, hb, h⟩
theorem x_cmp {κ0 : Wh} {E : List Sl} {o : Cop} {v w : V} {r : Bool} (hb : CmpR o v w r) {q : Bool → Prop} (h : q r) : (∀ i, κ0 = .mine i → E = E) ∧ ∃ r, CmpR o v w r ∧ q r := ⟨fun _ _ => rfl, r, hb, h⟩
theorem x_tru {v : V} {r : Bool} (hb : TruR v r) {q : Bool → Prop} (h : q r) : ∃ r, TruR v r ∧ q r := ⟨r, hb, h⟩
theorem x_blt {b : Blt} {v u : V} {κ : Wh} (hb : BltR b v κ u) {q : Wh → V → Prop} (h : q κ u) : ∃ κ u, BltR b v κ u ∧ q κ u := ⟨κ, u, hb, h⟩
end
theorem c_eq_str {a b : Str} : CmpR .eq (.p (.str a)) (.p (.str b)) (decide (a = b)) := cmp_p fun _ => eq_str
theorem c_ne_str {a b : Str} : CmpR .ne (.p (.str a)) (.p (.str b)) (!decide (a = b)) := cmp_p fun _ => ne_str
theorem c_eq_int {a b : Int} : CmpR .eq (.p (.int a)) (.p (.int b)) (decide (a = b)) := cmp_p fun _ => eq_int
theorem c_ne_int {a b : Int} : CmpR .ne (.p (.int a)) (.p (.int b)) (!decide (a = b)) := cmp_p fun _ => ne_int
theorem c_lt_int {a b : Int} : CmpR .lt (.p (.int a)) (.p (.int b)) (decide (a < b)) := cmp_p fun _ => rfl
theorem c_le_int {a b : Int} : CmpR .le (.p (.int a)) (.p (.int b)) (decide (a ≤ b)) := cmp_p fun _ => rfl
theorem c_gt_int {a b : Int} : CmpR .gt (.p (.int a)) (.p (.int b)) (decide (b < a)) := cmp_p fun _ => rfl
theorem c_ge_int {a b : Int} : CmpR .ge (.p (.int a)) (.p (.int b)) (decide (b ≤ a)) := cmp_p fun _ => rfl
theorem blt_int {i : Int} : BltR .int (.p (.int i)) .sep (.p (.int i)) := blt_p fun _ => rfl
theorem len_map {α : Type} {f : α → P} {xs : List α} : BltR .len (.p (.tup (xs.map f))) .sep (.p (.int (xs.length : Int))) := blt_p fun h => by
  show R.ok (P.int ((xs.map f).length : Int)) h = _
  rw [List.length_map]
theorem get_ps {α : Type} {xs : List α} {f : α → P} {i : Nat} {v : V} (e : ((xs.map f).map V.p)[i]? = some v) : ∃ x, xs[i]? = some x ∧ v = .p (f x) := by
  rw [List.getElem?_map, List.getElem?_map] at e
  cases h : xs[i]? with
  | none => rw [h] at e; cases e
  | some x => rw [h] at e; cases e; exact ⟨x, rfl, rfl⟩
theorem get_vs {α : Type} {xs : List α} {f : α → V} {i : Nat} {v : V} (e : (xs.map f)[i]? = some v) : ∃ x, xs[i]? = some x ∧ v = f x := by
  rw [List.getElem?_map] at e
  cases h : xs[i]? with
  | none => rw [h] at e; cases e
  | some x => rw [h] at e; cases e; exact ⟨x, rfl, rfl⟩
section
variable {C : Cfg} {σ : St}
theorem tg_pairP {own : List Nat} {E : List Sl} {a b : P} {i j : Nat} (hi : i ∈ own) (hj : j ∈ own) : TgOk C (.gtup (.gcons (.gnm i) (.gcons (.gnm j) .gnil))) own E (.p (.tup [a, b])) ((E.set i (.sh (.p a))).set j (.sh (.p b))) := tg_pair (a := .p a) (b := .p b) hi hj
end
theorem o_lcM {C : Cfg} {σ : St} {Φ : Wh → V → St → Prop} {α : Type} {own : List Nat} {elt : T .e} {g : T .g} {it : T .i} (xs : List α) (f w : α → V) (q : RunI C it σ fun vs σ0 => vs = xs.map f ∧ notOw σ0.E own = true ∧ xs.length ≤ SZ ∧
    (∀ x ∈ xs, ∃ E', TgOk C g own (wipeE σ0.E own) (f x) E' ∧ RunE C elt ⟨E', σ0.pn⟩ fun κ u σ2 => settle κ u σ2 = ⟨E', σ0.pn⟩ ∧ u = w x) ∧
    Φ .new (.lst (xs.map w)) σ0) : RunE C (.lc own elt g it .ttrue) σ Φ := by
  refine o_lcm (xs := xs) (f := f) (w := w) (t := fun _ => true) fun A0 s h As k => ?_
  obtain ⟨wk, h1, e1, As1, vs, σ0, st, k1, hs, hst, e2, hno, hl, step, fin⟩ := q A0 s h As k
  refine ⟨wk, h1, e1, As1, vs, σ0, st, k1, hs, hst, e2, hno, hl, fun x hx => ?_, ?_⟩
  · obtain ⟨E', t1, t2⟩ := step x hx
    exact ⟨E', t1, t_true ⟨rfl, rfl, fun _ => t2⟩⟩
  · rw [List.filter_eq_self.mpr fun _ _ => rfl]; exact fin
section
variable {C : Cfg} {σ : St} {v : V}
theorem a_sep {as : T .a} {Φ : List V → St → Prop} (q : RunA C as σ Φ) : RunA C as (settle .sep v σ) Φ := q
theorem a_new {as : T .a} {Φ : List V → St → Prop} (q : RunA C as σ Φ) : RunA C as (settle .new v σ) Φ := q
theorem k_sep {as : T .a} {Φ : List (Bool × V) → St → Prop} (q : RunK C as σ Φ) : RunK C as (settle .sep v σ) Φ := q
theorem k_new {as : T .a} {Φ : List (Bool × V) → St → Prop} (q : RunK C as σ Φ) : RunK C as (settle .new v σ) Φ := q
end
end Ow

set_option maxHeartbeats 2000000
namespace Ev.Code
open PySem Ev
def f_full_parts : Fn where
  params := 3
  slots := 10
  body := (.asg (.gnm 3) (.lst (.cons (.tup (.cons (.tup .nil) (.cons (.var 1) .nil))) .nil))
  (.for_ (.gnm 4) (.isq (.var 2))
  (.asg (.gnm 5) (.lst .nil)
  (.for_ (.gtup (.gcons (.gnm 6) (.gcons (.gnm 7) .gnil))) (.isq (.var 3))
  (.exp (.bmt .extend (.var 5) (.cons (.lc [8, 9] (.tup (.cons (.bin .add (.var 6) (.tup (.cons (.var 8) .nil))) (.cons (.var 9) .nil))) (.gtup (.gcons (.gnm 8) (.gcons (.gnm 9) .gnil))) (.isq (.call 20 (.cons (.var 0) (.cons (.var 7) (.cons (.var 4) .nil))))) .ttrue) .nil))
  .skip)
  (.asg (.gnm 3) (.var 5)
  .skip)))
  (.ret (.var 3))))

end Ev.Code
namespace Ow
open PySem Ev Ev.Code
local macro_rules | `(tactic| sizeOf_list_dec) => `(tactic| repeat (first | with_reducible refine a_sep ?_ | with_reducible refine a_new ?_ | with_reducible refine k_sep ?_ | with_reducible refine k_new ?_ | with_reducible refine g_mv (by decide) (by simp) ?_ | with_reducible refine s_asg ?_ | with_reducible refine s_par ?_ | with_reducible refine s_ret ?_ | with_reducible refine s_retN ?_ | with_reducible refine s_exp ?_ | with_reducible refine s_ifs ?_ | with_reducible refine s_skip ?_ | with_reducible refine s_brk ?_ | with_reducible refine s_cnt ?_ | with_reducible refine g_nm ?_ | with_reducible refine gs_nil ?_ | with_reducible refine gs_cons ?_ | with_reducible refine o_non ?_ | with_reducible refine o_bl ?_ | with_reducible refine o_int ?_ | with_reducible refine o_str ?_ | with_reducible refine a_nil ?_ | with_reducible refine a_cons ?_ | with_reducible refine k_nil ?_ | with_reducible refine k_cons ?_ | with_reducible refine b_nil ?_ | with_reducible refine o_callS ?_ | with_reducible refine o_idx ?_ | with_reducible refine o_bin ?_ | with_reducible refine o_cmp ?_ | with_reducible refine o_tcmp ?_ | with_reducible refine o_tval ?_ | with_reducible refine o_notv ?_ | with_reducible refine o_blt ?_ | with_reducible refine o_fld ?_ | with_reducible refine t_true ?_ | with_reducible refine t_and ?_ | with_reducible refine t_or ?_ | with_reducible refine t_not ?_ | with_reducible refine o_ife ?_ | with_reducible refine o_tup ?_ | with_reducible refine o_lst ?_ | with_reducible refine o_dic0 ?_ | with_reducible refine i_seq ?_ | with_reducible refine i_rng ?_ | with_reducible refine i_enum ?_ | ((with_reducible apply o_var); exact rfl) | ((with_reducible apply o_own); exact rfl) | with_reducible refine g_tupP rfl ?_ | with_reducible refine x_tup rfl rfl ?_ | with_reducible refine x_lst rfl ?_ | with_reducible refine x_seq rfl ?_ | with_reducible refine x_par rfl ?_ | refine x_idx (idx_tupP rfl) ?_ | with_reducible refine x_bin bin_add ?_ | with_reducible refine x_bin bin_sub ?_ | with_reducible refine x_bin (bin_tup (Nat.le_of_ble_eq_true rfl)) ?_ | with_reducible refine x_cmp c_eq_str ?_ | with_reducible refine x_cmp c_ne_str ?_ | with_reducible refine x_cmp c_eq_int ?_ | with_reducible refine x_cmp c_ne_int ?_ | with_reducible refine x_cmp c_lt_int ?_ | with_reducible refine x_cmp c_le_int ?_ | with_reducible refine x_cmp c_gt_int ?_ | with_reducible refine x_cmp c_ge_int ?_ | with_reducible refine x_cmp cmp_is ?_ | with_reducible refine x_cmp cmp_notN ?_ | with_reducible refine x_blt len_map ?_ | with_reducible refine x_blt len_tupP ?_ | with_reducible refine x_blt len_lst ?_ | with_reducible refine x_blt blt_int ?_ | refine if_t rfl ?_ | refine if_f rfl ?_))
abbrev Fpt := List Int × List (List Int)
def encCl (cells : List Nat) : P := .tup (cells.map fun c : Nat => P.int (c : Int))
theorem flat_le {α β : Type} {f : α → List β} {k : Nat} : ∀ {xs : List α}, (∀ x ∈ xs, (f x).length ≤ k) → (xs.flatMap f).length ≤ k * xs.length
  | [], _ => by simp
  | x :: xs, h => by
    have h1 := h x (by simp)
    have h2 := flat_le (xs := xs) fun y hy => h y (by simp [hy])
    simp only [List.flatMap_cons, List.length_append, List.length_cons, Nat.mul_add]
    omega
structure FOk (H : Hs) (n : Nat) (x : Fpt) : Prop where
  wid : x.1.length = n
  ct : ∀ c ∈ x.2, Ct H.zs c
  len : x.2.length ≤ 100
end Ow

namespace Ev
open PySem Ev.Code
section
variable {C : Cfg} {s : Slots} {h : Hea}
end
end Ev

namespace Ev.Code
open PySem Ev
def m_looks_init : Fn where
  params := 4
  slots := 4
  body := (.setf "Looks" (.var 0) "ground" (.var 1)
  (.setf "Looks" (.var 0) "road" (.var 2)
  (.setf "Looks" (.var 0) "cells" (.var 3)
  (.setf "Looks" (.var 0) "rows" .dic0
  (.setf "Looks" (.var 0) "waiting" (.lst .nil)
  .skip)))))

def m_looks_take : Fn where
  params := 4
  slots := 6
  body := (.for_ (.gtup (.gcons (.gnm 4) (.gcons (.gnm 5) .gnil))) (.isq (.call 65 (.cons (.fld "Looks" (.var 0) "ground") (.cons (.var 2) (.cons (.fld "Looks" (.var 0) "cells") .nil)))))
  (.ifs (.tcmp .nin (.tup (.cons (.var 1) (.cons (.var 5) .nil))) (.fld "Looks" (.var 0) "rows"))
  (.asg (.gsub (.fld "Looks" (.var 0) "rows") (.tup (.cons (.var 1) (.cons (.var 5) .nil)))) (.bin .add (.var 3) (.tup (.cons (.tup (.cons (.var 1) (.cons (.var 4) .nil))) .nil)))
  (.exp (.bmt .append (.fld "Looks" (.var 0) "waiting") (.cons (.tup (.cons (.var 1) (.cons (.var 5) .nil))) .nil))
  .skip))
  .skip
  .skip)
  .skip)

def m_looks_spoilt_row : Fn where
  params := 3
  slots := 7
  body := (.exp (.meth "Looks" "take" 66 (.var 0) (.cons (.var 1) (.cons (.var 2) (.cons (.tup .nil) .nil))))
  (.whl (.tcmp .ne (.fld "Looks" (.var 0) "waiting") (.lst .nil))
  (.asg (.gnm 3) (.bmt .pop (.fld "Looks" (.var 0) "waiting") (.cons (.int 0) .nil))
  (.asg (.gnm 4) (.call 42 (.cons (.fld "Looks" (.var 0) "ground") (.cons (.fld "Looks" (.var 0) "road") (.cons (.idx (.var 3) (.int 0)) (.cons (.idx (.var 3) (.int 1)) .nil)))))
  (.ifs (.tcmp .isN (.var 4) .non)
  (.ret (.idx (.fld "Looks" (.var 0) "rows") (.var 3)))
  .skip
  (.for_ (.gtup (.gcons (.gnm 5) (.gcons (.gnm 6) .gnil))) (.isq (.var 4))
  (.exp (.meth "Looks" "take" 66 (.var 0) (.cons (.var 5) (.cons (.var 6) (.cons (.idx (.fld "Looks" (.var 0) "rows") (.var 3)) .nil))))
  .skip)
  .skip))))
  (.ret .non)))

def f_spoilt : Fn where
  params := 5
  slots := 5
  body := (.ret (.meth "Looks" "spoilt_row" 67 (.call 68 (.cons (.var 0) (.cons (.var 1) (.cons (.var 4) .nil)))) (.cons (.var 2) (.cons (.var 3) .nil))))

end Ev.Code
namespace Ow
open PySem Ev Ev.Code
end Ow
namespace Ev
open PySem Ev.Code Ow
local macro_rules | `(tactic| bv_omega) => `(tactic| repeat (first | with_reducible refine r_asg ?_ | with_reducible refine r_bin ?_ | with_reducible refine r_int ?_ | with_reducible refine r_str ?_ | with_reducible refine r_non ?_ | with_reducible refine r_bl ?_ | with_reducible refine r_blt ?_ | with_reducible refine r_call ?_ | with_reducible refine r_cons ?_ | with_reducible refine r_nil ?_ | with_reducible refine r_tup ?_ | with_reducible refine r_lst ?_ | with_reducible refine r_idx ?_ | with_reducible refine r_slcH ?_ | with_reducible refine r_slcL ?_ | with_reducible refine r_slcT ?_ | with_reducible refine r_slcN ?_ | with_reducible refine r_ret ?_ | with_reducible refine r_exp ?_ | with_reducible refine r_ifs ?_ | with_reducible refine r_ife ?_ | with_reducible refine r_tcmp ?_ | with_reducible refine r_tand ?_ | with_reducible refine r_tor ?_ | with_reducible refine r_tnot ?_ | with_reducible refine r_tval ?_ | with_reducible refine r_ttrue ?_ | with_reducible refine r_cmp ?_ | with_reducible refine r_notv ?_ | with_reducible refine r_andv ?_ | with_reducible refine r_orv ?_ | with_reducible refine r_gnm ?_ | with_reducible refine r_gcons ?_ | with_reducible refine r_gnil ?_ | with_reducible refine r_gsub ?_ | with_reducible refine r_for ?_ | with_reducible refine r_isq ?_ | with_reducible refine r_ienum ?_ | with_reducible refine r_skip ?_ | with_reducible refine r_retN ?_ | with_reducible refine r_brk ?_ | with_reducible refine r_cnt ?_ | with_reducible refine r_lc ?_ | with_reducible refine r_dc ?_ | with_reducible refine r_sset ?_ | with_reducible refine r_walkT ?_ | with_reducible refine v_int ?_ | with_reducible refine v_add ?_ | with_reducible refine v_sub ?_ | with_reducible refine v_lenTm ?_ | with_reducible refine v_lenT ?_ | with_reducible refine v_slcT ?_ | with_reducible refine v_listT ?_ | with_reducible refine or_rt ?_ | with_reducible refine or_nx ?_ | with_reducible refine or_ct ?_ | with_reducible refine or_bk ?_ | with_reducible refine fin_rt ?_ | with_reducible refine ex_int ?_ | ((with_reducible apply r_var); exact rfl) | with_reducible refine r_gtup rfl ?_ | with_reducible refine len_ok rfl ?_ | with_reducible refine ex_cmp eq_str ?_ | with_reducible refine ex_cmp ne_str ?_ | with_reducible refine ex_cmp eq_int ?_ | with_reducible refine ex_cmp ne_int ?_ | with_reducible refine ex_cmp lt_int ?_ | with_reducible refine ex_cmp le_int ?_ | with_reducible refine ex_cmp gt_int ?_ | with_reducible refine ex_cmp ge_int ?_ | with_reducible refine ex_cmp isN_v ?_ | with_reducible refine ex_cmp notN_v ?_ | with_reducible refine r_par ?_ | refine par_ok rfl ?_ | refine ex_idx rfl ?_ | refine if_t rfl ?_ | refine if_f rfl ?_ | refine ex_tru rfl ?_))
abbrev LRow := List (Nat × List Int)
abbrev LRows := List (Std × LRow)
def encLR (r : LRow) : P := .tup (r.map fun y => P.tup [.int (y.1 : Int), encR y.2])
def lookR (r : LRows) (x : Std) : LRow := match r with
  | [] => []
  | y :: r => if y.1 = x then y.2 else lookR r x
structure BI (H : Hs) (R : List Plc) (s : LRows × List Std) : Prop where
  nd : (s.1.map (·.1)).Nodup
  ok : ∀ y ∈ s.1, OkS H R y.1
  len : ∀ (k : Nat) (y : Std × LRow), s.1[k]? = some y → y.2.length ≤ k + 1
  sub : ∀ x ∈ s.2, x ∈ s.1.map (·.1)
  wnd : s.2.Nodup
theorem BI.few {H : Hs} {R : List Plc} {s : LRows × List Std} (b : BI H R s) (hz : Sizes H.zs) (h8 : (contL H.zs).length ≤ 8) (rok : RtOk H R) : s.1.length ≤ 2048 := by
  have := few_stands hz h8 rok b.nd (fun x hx => by
    obtain ⟨y, hy, rfl⟩ := List.mem_map.mp hx
    exact b.ok y hy)
  simpa using this
theorem BI.put {H : Hs} {R : List Plc} {s : LRows × List Std} (b : BI H R s) {x : Std} {row : LRow} (hx : OkS H R x) (hn : x ∉ s.1.map (·.1)) (hr : row.length ≤ s.1.length + 1) : BI H R (s.1 ++ [(x, row)], s.2 ++ [x]) := by
  refine ⟨?_, fun y hy => ?_, fun k y e => ?_, fun y hy => ?_, ?_⟩
  · rw [List.map_append]
    exact List.nodup_append.mpr ⟨b.nd, by simp, fun a ha c hc e => hn (by simp at hc; rw [← hc, ← e]; exact ha)⟩
  · rcases List.mem_append.mp hy with hy | hy
    · exact b.ok y hy
    · rw [List.mem_singleton.mp hy]; exact hx
  · simp only [List.getElem?_append] at e
    split at e
    · exact b.len k y e
    · rename_i hk
      have hk' : k = s.1.length := by
        have := (List.getElem?_eq_some_iff.mp e).1
        simp at this; omega
      subst hk'
      simp at e; subst e; exact hr
  · rw [List.map_append]
    rcases List.mem_append.mp hy with hy | hy
    · exact List.mem_append_left _ (b.sub y hy)
    · rw [List.mem_singleton.mp hy]; simp
  · exact List.nodup_append.mpr ⟨b.wnd, by simp, fun a ha c hc e => hn (by simp at hc; rw [← hc, ← e]; exact b.sub a ha)⟩
theorem lookR_len {H : Hs} {R : List Plc} : ∀ {r : LRows} {x : Std} {n : Nat}, (∀ (k : Nat) (y : Std × LRow), r[k]? = some y → y.2.length ≤ n + k + 1) → (lookR r x).length ≤ n + r.length
  | [], _, _, _ => by simp [lookR]
  | y :: r, x, n, h => by
    simp only [lookR]
    split
    · have := h 0 y rfl; simp; omega
    · have := lookR_len (H := H) (R := R) (r := r) (x := x) (n := n + 1) fun k z e => by
        have := h (k + 1) z (by simpa using e); omega
      simp; omega
theorem BI.look {H : Hs} {R : List Plc} {s : LRows × List Std} (b : BI H R s) (x : Std) : (lookR s.1 x).length ≤ s.1.length := by
  have := lookR_len (H := H) (R := R) (r := s.1) (x := x) (n := 0) fun k y e => by have := b.len k y e; omega
  omega
structure LooksO (h : Hea) (l lr lw : Nat) (H : Hs) (R : List Plc) (cells : List Nat) (s : LRows × List Std) : Prop where
  ins : h[l]? = some (.ins "Looks" [("ground", H.enc), ("road", encRt R), ("cells", encCl cells), ("rows", .ref lr), ("waiting", .ref lw)])
  rows : h[lr]? = some (.dic (s.1.map fun y => (encS y.1, encLR y.2)))
  wait : h[lw]? = some (.lst (s.2.map encS))
  ne1 : l ≠ lr
  ne2 : l ≠ lw
  ne3 : lr ≠ lw
theorem LooksO.grow {h h' : Hea} {l lr lw : Nat} {H : Hs} {R : List Plc} {cells : List Nat} {s : LRows × List Std} (k : LooksO h l lr lw H R cells s) (g : Grow h h') : LooksO h' l lr lw H R cells s := ⟨g.get k.ins, g.get k.rows, g.get k.wait, k.ne1, k.ne2, k.ne3⟩
structure HasLooks (G : Prog) : Prop where
  go : HasGo G
  f20 : G.fn 20 = some f_seen_parts
  f65 : G.fn 65 = some f_full_parts
  f66 : G.fn 66 = some m_looks_take
  f67 : G.fn 67 = some m_looks_spoilt_row
  f68 : G.fn 68 = some (mkFn "Looks" 75 3)
  f75 : G.fn 75 = some m_looks_init
  f69 : G.fn 69 = some f_spoilt
section
variable {G : Prog} {W d : Nat} {H : Hs} {R : List Plc} {cells : List Nat}
theorem BI.pop {s : LRows} {x : Std} {w : List Std} (b : BI H R (s, x :: w)) : BI H R (s, w) := ⟨b.nd, b.ok, b.len, fun y hy => b.sub y (List.mem_cons_of_mem _ hy), (List.nodup_cons.mp b.wnd).2⟩
theorem BI.nil : BI H R ([], []) := ⟨List.nodup_nil, fun y hy => (nomatch hy), fun k y e => by simp at e, fun x hx => (nomatch hx), List.nodup_nil⟩
end
end Ev

set_option maxHeartbeats 1000000
namespace Ow
open PySem Ev
theorem Ok.seen {A0 As As2 : List Nat} {h h2 : Hea} {σ : St} {pn' : Option Nat} {s : Slots} {E2 : List Sl} (k : Ok A0 h σ s As) (st : Step σ.pn [] h pn' As2 h2) (k2 : Ok (A0 ++ As) h2 ⟨E2, pn'⟩ s As2) : Ok A0 h2 ⟨σ.E, pn'⟩ s (As ++ As2) := by
  have hb : ∀ b ∈ bw σ.pn [], b ∈ A0 ++ As := fun b hb => by
    cases ep : σ.pn with
    | none => rw [ep] at hb; cases hb
    | some n =>
      rw [ep] at hb
      rcases List.mem_cons.mp hb with rfl | hb
      · exact List.mem_append_left _ (k.pen n ep).2.2
      · cases hb
  have hbs : ∀ b ∈ bw σ.pn [], b ∉ As := fun b hb q => by
    cases ep : σ.pn with
    | none => rw [ep] at hb; cases hb
    | some n =>
      rw [ep] at hb
      rcases List.mem_cons.mp hb with rfl | hb
      · exact k.dj _ q (k.pen n ep).2.2
      · cases hb
  have hn : ∀ a ∈ As2, h.length ≤ a := fun a ha => by
    rcases st.as a ha with z | z
    · cases z
    · exact z
  have m : ∀ l o, l ∉ A0 ++ As → h[l]? = some o → l ∉ A0 ++ (As ++ As2) ∧ h2[l]? = some o := keep_at st.ext hb fun a ha => by
    rcases List.mem_append.mp ha with z | z
    · exact .inl (List.mem_append_left _ z)
    · rcases List.mem_append.mp z with z | z
      · exact .inl (List.mem_append_right _ z)
      · exact .inr (hn a z)
  refine ⟨k.len, fun i v e => ?_, fun i v e => ?_, k.inj, fun a ha q => ?_, fun a ha => k2.bd a (by rw [List.append_assoc]; exact ha), fun n e => ?_⟩
  · obtain ⟨q, e1, e2⟩ := k.sh i v e
    exact ⟨q, e1, e2.move m v q⟩
  · obtain ⟨l, o, e1, e2, e3, e4⟩ := k.ow i v e
    exact ⟨l, o, e1, List.mem_append_left _ e2, st.ext.at_ l o (fun q => hbs l q e2) e3, e4.move m⟩
  · rcases List.mem_append.mp ha with z | z
    · exact k.dj a z q
    · have := hn a z
      have := k.bd a (List.mem_append_left _ q)
      omega
  · obtain ⟨p, p1, p2⟩ := k2.pen n e
    have := st.pn
    have e' : pn' = some n := e
    rw [e'] at this
    cases e0 : σ.pn with
    | none => rw [e0] at this; simp at this
    | some m0 => exact ⟨p, (k.pen m0 e0).2⟩
section
variable {C : Cfg} {σ : St} {Φ : Wh → V → St → Prop}
end
theorem o_callN {C : Cfg} {σ : St} {Φ : Wh → V → St → Prop} {g : Nat} {as : T .a} (q : RunA C as σ fun vs σ' => CallR (C.call g) none vs fun fr v _ => Φ (if fr then .new else .sep) v σ') : RunE C (.call g as) σ Φ := by
  refine o_call fun A0 s h As k => ?_
  obtain ⟨qs, h1, e1, As1, vs, σ1, st1, k1, hs, hc⟩ := q A0 s h As k
  exact ⟨qs, h1, e1, As1, vs, σ1, st1, k1, hs, CallR.any hc⟩
theorem mapP {α : Type} {f : α → P} {xs : List α} : (xs.map fun x => V.p (f x)) = (xs.map f).map .p := by rw [List.map_map]; rfl
end Ow

set_option maxHeartbeats 2000000
namespace Ev.Code
open PySem Ev
end Ev.Code
namespace Ow
open PySem Ev Ev.Code
local macro_rules | `(tactic| sizeOf_list_dec) => `(tactic| repeat (first | with_reducible refine a_sep ?_ | with_reducible refine a_new ?_ | with_reducible refine k_sep ?_ | with_reducible refine k_new ?_ | with_reducible refine g_mv (by decide) (by simp) ?_ | with_reducible refine s_asg ?_ | with_reducible refine s_par ?_ | with_reducible refine s_ret ?_ | with_reducible refine s_retN ?_ | with_reducible refine s_exp ?_ | with_reducible refine s_ifs ?_ | with_reducible refine s_skip ?_ | with_reducible refine s_brk ?_ | with_reducible refine s_cnt ?_ | with_reducible refine g_nm ?_ | with_reducible refine gs_nil ?_ | with_reducible refine gs_cons ?_ | with_reducible refine o_non ?_ | with_reducible refine o_bl ?_ | with_reducible refine o_int ?_ | with_reducible refine o_str ?_ | with_reducible refine a_nil ?_ | with_reducible refine a_cons ?_ | with_reducible refine k_nil ?_ | with_reducible refine k_cons ?_ | with_reducible refine b_nil ?_ | with_reducible refine o_callS ?_ | with_reducible refine o_idx ?_ | with_reducible refine o_bin ?_ | with_reducible refine o_cmp ?_ | with_reducible refine o_tcmp ?_ | with_reducible refine o_tval ?_ | with_reducible refine o_notv ?_ | with_reducible refine o_blt ?_ | with_reducible refine o_fld ?_ | with_reducible refine t_true ?_ | with_reducible refine t_and ?_ | with_reducible refine t_or ?_ | with_reducible refine t_not ?_ | with_reducible refine o_ife ?_ | with_reducible refine o_tup ?_ | with_reducible refine o_lst ?_ | with_reducible refine o_dic0 ?_ | with_reducible refine i_seq ?_ | with_reducible refine i_rng ?_ | with_reducible refine i_enum ?_ | ((with_reducible apply o_var); exact rfl) | ((with_reducible apply o_own); exact rfl) | with_reducible refine g_tupP rfl ?_ | with_reducible refine x_tup rfl rfl ?_ | with_reducible refine x_lst rfl ?_ | with_reducible refine x_seq rfl ?_ | with_reducible refine x_par rfl ?_ | refine x_idx (idx_tupP rfl) ?_ | with_reducible refine x_bin bin_add ?_ | with_reducible refine x_bin bin_sub ?_ | with_reducible refine x_bin (bin_tup (Nat.le_of_ble_eq_true rfl)) ?_ | with_reducible refine x_cmp c_eq_str ?_ | with_reducible refine x_cmp c_ne_str ?_ | with_reducible refine x_cmp c_eq_int ?_ | with_reducible refine x_cmp c_ne_int ?_ | with_reducible refine x_cmp c_lt_int ?_ | with_reducible refine x_cmp c_le_int ?_ | with_reducible refine x_cmp c_gt_int ?_ | with_reducible refine x_cmp c_ge_int ?_ | with_reducible refine x_cmp cmp_is ?_ | with_reducible refine x_cmp cmp_notN ?_ | with_reducible refine x_blt len_map ?_ | with_reducible refine x_blt len_tupP ?_ | with_reducible refine x_blt len_lst ?_ | with_reducible refine x_blt blt_int ?_ | refine if_t rfl ?_ | refine if_f rfl ?_))
end Ow

namespace Ev
open PySem
end Ev

set_option maxHeartbeats 1000000
namespace Ow
open PySem Ev Ev.Code
section
variable {C : Cfg} {σ : St} {Φ : Wh → V → St → Prop}
theorem o_callS {g : Nat} {as : T .a} (q : RunA C as σ fun vs σ' => CallR (C.call g) none vs fun fr v _ => fr = false ∧ Φ .sep v σ') : RunE C (.call g as) σ Φ := by
  refine o_callN fun A0 s h As k => ?_
  obtain ⟨qs, h1, e1, As1, vs, σ1, st1, k1, hs, hc⟩ := q A0 s h As k
  exact ⟨qs, h1, e1, As1, vs, σ1, st1, k1, hs, hc.imp fun fr v _ ⟨e, h⟩ => by subst e; exact h⟩
theorem o_callF {g : Nat} {as : T .a} (q : RunA C as σ fun vs σ' => CallR (C.call g) none vs fun fr v _ => fr = true ∧ Φ .new v σ') : RunE C (.call g as) σ Φ := by
  refine o_callN fun A0 s h As k => ?_
  obtain ⟨qs, h1, e1, As1, vs, σ1, st1, k1, hs, hc⟩ := q A0 s h As k
  exact ⟨qs, h1, e1, As1, vs, σ1, st1, k1, hs, hc.imp fun fr v _ ⟨e, h⟩ => by subst e; exact h⟩
theorem x_callS {f : List P → Hea → R P} {vs : List V} {v : V} {Φ : V → Prop} (s : CallR f none vs fun fr' v' _ => fr' = false ∧ v' = v) (q : Φ v) : CallR f none vs fun fr v _ => fr = false ∧ Φ v := s.imp fun fr' v' pn ⟨e1, e2⟩ => ⟨e1, by subst e2; exact q⟩
theorem x_callF {f : List P → Hea → R P} {vs : List V} {v : V} {Φ : V → Prop} (s : CallR f none vs fun fr' v' _ => fr' = true ∧ v' = v) (q : Φ v) : CallR f none vs fun fr v _ => fr = true ∧ Φ v := s.imp fun fr' v' pn ⟨e1, e2⟩ => ⟨e1, by subst e2; exact q⟩
theorem callR_P {f : List P → Hea → R P} {ps : List P} {x : P} (q : ∀ h, Ret (f ps h) fun v h' => v = x ∧ Grow h h') {vs : List V} (e : psOf vs = some ps) : CallR f none vs fun fr v _ => fr = false ∧ v = .p x := by
  rw [psOf_eq e]
  exact (CallR.ofRet q).imp fun fr v _ ⟨e1, y, e2, e3⟩ => ⟨e1, by rw [e2, e3]⟩
end
theorem blt_abs {i : Int} : BltR .abs (.p (.int i)) .sep (.p (.int (if i < 0 then -i else i))) := blt_p fun _ => rfl
theorem cmp_neRT {xs ys : List (List Int)} : CmpR .ne (.p (.tup (xs.map encR))) (.p (.tup (ys.map encR))) (!decide (xs = ys)) := cmp_p fun _ => ne_rowsT
theorem cmp_eqRT {xs ys : List (List Int)} : CmpR .eq (.p (.tup (xs.map encR))) (.p (.tup (ys.map encR))) (decide (xs = ys)) := cmp_p fun _ => eq_rowsT
section
variable {G : Prog} {W d : Nat} {H : Hs} {R : List Plc}
end
end Ow

namespace Ow
open PySem Ev
section
variable {A0 As : List Nat} {h : Hea} {σ : St} {s : Slots}
end
section
variable {C : Cfg} {σ : St}
end
end Ow

set_option maxHeartbeats 400000
namespace Ow
open PySem Ev
def keyOf (cells : List Nat) (c : List Int) : List Int := cells.map fun i => c.getD i 0
def IsPart (cells : List Nat) (cs : List (List Int)) (y : Fpt) : Prop := y.2 ≠ [] ∧ y.2 = cs.filter fun c => decide (keyOf cells c = y.1)
theorem IsPart.key {cells : List Nat} {cs : List (List Int)} {y : Fpt} (h : IsPart cells cs y) : ∃ c ∈ cs, keyOf cells c = y.1 := by
  obtain ⟨h1, h2⟩ := h
  cases e : y.2 with
  | nil => exact absurd e h1
  | cons c r =>
    have : c ∈ cs.filter fun c => decide (keyOf cells c = y.1) := by rw [← h2, e]; simp
    obtain ⟨m, k⟩ := List.mem_filter.mp this
    exact ⟨c, m, of_decide_eq_true k⟩
def putK (k : List Int) (c : List Int) : List Fpt → List Fpt
  | [] => [(k, [c])]
  | x :: r => if x.1 = k then (x.1, x.2 ++ [c]) :: r else x :: putK k c r
def fullL (cells : List Nat) (cs : List (List Int)) : List Fpt := cs.foldl (fun f c => putK (keyOf cells c) c f) []
theorem putK_keys {k : List Int} {c : List Int} : ∀ {f : List Fpt}, (putK k c f).map (·.1) = if k ∈ f.map (·.1) then f.map (·.1) else f.map (·.1) ++ [k]
  | [] => by simp [putK]
  | x :: r => by
    have ih := putK_keys (k := k) (c := c) (f := r)
    simp only [putK]
    by_cases e : x.1 = k
    · rw [if_pos e, if_pos (by simp [e])]; simp
    · rw [if_neg e, List.map_cons, ih]
      by_cases m : k ∈ r.map (·.1)
      · rw [if_pos m, if_pos (by simp only [List.map_cons]; exact List.mem_cons_of_mem _ m)]; rfl
      · rw [if_neg m, if_neg (by simp only [List.map_cons, List.mem_cons, not_or]; exact ⟨fun z => e z.symm, m⟩)]; rfl
structure PartsOk (cells : List Nat) (cs : List (List Int)) (f : List Fpt) : Prop where
  nd : (f.map (·.1)).Nodup
  ok : ∀ y ∈ f, IsPart cells cs y
  all : ∀ c ∈ cs, keyOf cells c ∈ f.map (·.1)
theorem putK_mem {k : List Int} {c : List Int} : ∀ {f : List Fpt} {y : Fpt}, (f.map (·.1)).Nodup → (y ∈ putK k c f ↔ (y ∈ f ∧ y.1 ≠ k) ∨ (y.1 = k ∧ ((∃ x ∈ f, x.1 = k ∧ y.2 = x.2 ++ [c]) ∨ (k ∉ f.map (·.1) ∧ y.2 = [c]))))
  | [], y, _ => by
    simp only [putK, List.mem_singleton, List.not_mem_nil, false_and, false_or, List.map_nil, not_false_eq_true, true_and, exists_false]
    exact ⟨fun e => by rw [e]; exact ⟨rfl, rfl⟩, fun e => Prod.ext e.1 e.2⟩
  | x :: r, y, nd => by
    obtain ⟨n1, n2⟩ := List.nodup_cons.mp nd
    have ih := putK_mem (k := k) (c := c) (y := y) n2
    simp only [putK]
    by_cases e : x.1 = k
    · rw [if_pos e]
      constructor
      · intro h
        rcases List.mem_cons.mp h with h | h
        · right
          rw [h]
          exact ⟨e, .inl ⟨x, by simp, e, rfl⟩⟩
        · left
          refine ⟨List.mem_cons_of_mem _ h, fun z => n1 ?_⟩
          show x.1 ∈ r.map (·.1)
          rw [e, ← z]; exact List.mem_map.mpr ⟨y, h, rfl⟩
      · rintro (⟨h1, h2⟩ | ⟨h1, h2⟩)
        · rcases List.mem_cons.mp h1 with h | h
          · rw [h] at h2; exact absurd e h2
          · exact List.mem_cons_of_mem _ h
        · rcases h2 with ⟨z, hz, h3, h4⟩ | ⟨h3, _⟩
          · rcases List.mem_cons.mp hz with h | h
            · subst h
              rw [show y = (z.1, z.2 ++ [c]) from Prod.ext (by rw [h1, e]) h4]; simp
            · exfalso
              apply n1
              show x.1 ∈ r.map (·.1)
              rw [e, ← h3]; exact List.mem_map.mpr ⟨z, h, rfl⟩
          · exact absurd (by simp [e]) h3
    · rw [if_neg e, List.mem_cons, ih]
      constructor
      · rintro (h | ⟨h1, h2⟩ | ⟨h1, h2⟩)
        · rw [h]; exact .inl ⟨by simp, e⟩
        · exact .inl ⟨List.mem_cons_of_mem _ h1, h2⟩
        · refine .inr ⟨h1, ?_⟩
          rcases h2 with ⟨z, hz, h3, h4⟩ | ⟨h3, h4⟩
          · exact .inl ⟨z, List.mem_cons_of_mem _ hz, h3, h4⟩
          · exact .inr ⟨by simp only [List.map_cons, List.mem_cons, not_or]; exact ⟨fun z => e z.symm, h3⟩, h4⟩
      · rintro (⟨h1, h2⟩ | ⟨h1, h2⟩)
        · rcases List.mem_cons.mp h1 with h | h
          · exact .inl h
          · exact .inr (.inl ⟨h, h2⟩)
        · right; right
          refine ⟨h1, ?_⟩
          rcases h2 with ⟨z, hz, h3, h4⟩ | ⟨h3, h4⟩
          · rcases List.mem_cons.mp hz with h | h
            · rw [h] at h3; exact absurd h3 e
            · exact .inl ⟨z, h, h3, h4⟩
          · simp only [List.map_cons, List.mem_cons, not_or] at h3
            exact .inr ⟨h3.2, h4⟩
theorem PartsOk.put {cells : List Nat} {cs : List (List Int)} {f : List Fpt} (p : PartsOk cells cs f) (c : List Int) : PartsOk cells (cs ++ [c]) (putK (keyOf cells c) c f) := by
  refine ⟨?_, fun y hy => ?_, fun d hd => ?_⟩
  · rw [putK_keys]
    split
    · exact p.nd
    · rename_i h
      refine List.nodup_append.mpr ⟨p.nd, by simp, fun a ha b hb => ?_⟩
      have : b = keyOf cells c := by simpa using hb
      subst this
      exact fun z => h (z ▸ ha)
  · unfold IsPart
    rw [List.filter_append]
    rcases (putK_mem p.nd).mp hy with ⟨h1, h2⟩ | ⟨h1, h2⟩
    · obtain ⟨q1, q2⟩ := p.ok y h1
      refine ⟨q1, ?_⟩
      rw [← q2, List.filter_cons_of_neg (by simpa using fun z => h2 z.symm), List.filter_nil, List.append_nil]
    · have e1 : ([c].filter fun d => decide (keyOf cells d = y.1)) = [c] := by simp [h1]
      rw [e1]
      rcases h2 with ⟨z, hz, h3, h4⟩ | ⟨h3, h4⟩
      · obtain ⟨q1, q2⟩ := p.ok z hz
        refine ⟨by rw [h4]; simp, ?_⟩
        rw [h4, q2, h1, h3]
      · refine ⟨by rw [h4]; simp, ?_⟩
        rw [h4]
        have : cs.filter (fun d => decide (keyOf cells d = y.1)) = [] := by
          rw [List.filter_eq_nil_iff]
          intro d hd e
          have := p.all d hd
          rw [of_decide_eq_true e, h1] at this
          exact h3 this
        rw [this]; rfl
  · rw [putK_keys]
    rcases List.mem_append.mp hd with h | h
    · have := p.all d h
      split
      · exact this
      · exact List.mem_append_left _ this
    · have : d = c := by simpa using h
      subst this
      split
      · assumption
      · simp
theorem fold_parts {cells : List Nat} : ∀ (ds cs : List (List Int)) (f : List Fpt), PartsOk cells cs f → PartsOk cells (cs ++ ds) (ds.foldl (fun f c => putK (keyOf cells c) c f) f)
  | [], cs, f, p => by simpa using p
  | d :: ds, cs, f, p => by
    have := fold_parts ds (cs ++ [d]) _ (p.put d)
    simpa using this
theorem fullL_ok (cells : List Nat) (cs : List (List Int)) : PartsOk cells cs (fullL cells cs) := by
  have := fold_parts (cells := cells) cs [] [] ⟨List.nodup_nil, fun _ h => (nomatch h), fun _ h => (nomatch h)⟩
  rw [List.nil_append] at this
  exact this
theorem fullL_iff {cells : List Nat} {cs : List (List Int)} (y : Fpt) : y ∈ fullL cells cs ↔ IsPart cells cs y := by
  have p := fullL_ok cells cs
  refine ⟨p.ok y, fun h => ?_⟩
  obtain ⟨c, hc, e⟩ := h.key
  obtain ⟨z, hz, ez⟩ := List.mem_map.mp (p.all c hc)
  have := p.ok z hz
  have : z = y := Prod.ext (ez.trans e) (by rw [this.2, h.2, ez, e])
  rw [← this]; exact hz
end Ow


set_option maxHeartbeats 1000000
namespace Ow
open PySem Ev
theorem atI_row {r : List Int} {i : Nat} (h : i < r.length) : L2.atI (r.map P.int) (i : Int) = some (.int (r.getD i 0)) := by
  unfold L2.atI L2.ixN
  simp [h, List.getElem?_map, List.getD_eq_getElem?_getD]
def nOw : Sl → Bool
  | .ow _ => false
  | _ => true
theorem notOw1 {E : List Sl} {i : Nat} {e : Sl} (h : E[i]? = some e) (n : nOw e = true) : notOw E [i] = true := by
  unfold notOw
  simp only [List.all_cons, List.all_nil, Bool.and_true, h]
  cases e with
  | ow v => cases n
  | no => rfl
  | sh v => rfl
theorem notOw2 {E : List Sl} {i j : Nat} {e f : Sl} (h : E[i]? = some e) (n : nOw e = true) (h2 : E[j]? = some f) (n2 : nOw f = true) : notOw E [i, j] = true := by
  have a := notOw1 h n
  have b := notOw1 h2 n2
  unfold notOw at a b ⊢
  simp only [List.all_cons, List.all_nil, Bool.and_true] at a b ⊢
  rw [a, b]; rfl
section
variable {C : Cfg} {σ : St} {Φ : Wh → V → St → Prop}
theorem o_sset {a : T .e} (q : RunE C a σ fun _ v σ1 => ∃ ps ys, v = .lst (ps.map .p) ∧ setOk ps = true ∧ (∀ h, sortD h (dedupP [] ps) = some ys) ∧ Φ .new (.lst (ys.map .p)) σ1) : RunE C (.sset a) σ Φ := fun A0 s h As k => by
  obtain ⟨q1, h1, e1, As1, κ1, v1, σ1, st, t1, k1, ps, ys, rfl, hs, hy, f⟩ := q.one k
  obtain ⟨l, ps', rfl, el, hp⟩ := t1.lst
  rw [(Seps.ps _ _).mp hp] at el
  obtain ⟨st2, p⟩ := post_obj (x := .lst ys) (v := .lst (ys.map .p)) k1 st ⟨_, rfl, (Seps.ps _ _).mpr rfl⟩
  refine ⟨_, _, ?_, As1, .new, _, σ1, st2, p, f⟩
  unfold ev; rw [e1]
  show ssetV (.ref l) h1 = _
  simp only [ssetV, el, hs, if_true, hy, mkObj]
end
end Ow

set_option maxHeartbeats 400000
namespace Ow
open PySem Ev
def keysR (r : LRows) : List Std := r.map (·.1)
section
variable {H : Hs} {R : List Plc} {cells : List Nat} {x0 : Std}
inductive Rch (H : Hs) (R : List Plc) (cells : List Nat) (x0 : Std) : Std → Prop
  | one {y : Fpt} : IsPart cells x0.2 y → Rch H R cells x0 (x0.1, y.2)
  | more {z w : Std} {ys : List Std} {y : Fpt} : Rch H R cells x0 z → goL H R z = some ys → w ∈ ys → IsPart cells w.2 y → Rch H R cells x0 (w.1, y.2)
inductive Pth (H : Hs) (R : List Plc) (cells : List Nat) (x0 : Std) : LRow → Std → Prop
  | one {y : Fpt} : IsPart cells x0.2 y → Pth H R cells x0 [(x0.1, y.1)] (x0.1, y.2)
  | more {r : LRow} {z w : Std} {ys : List Std} {y : Fpt} : Pth H R cells x0 r z → goL H R z = some ys → w ∈ ys → IsPart cells w.2 y → Pth H R cells x0 (r ++ [(w.1, y.1)]) (w.1, y.2)
structure BJ (H : Hs) (R : List Plc) (cells : List Nat) (x0 : Std) (s : LRows × List Std) : Prop where
  bi : BI H R s
  pt : ∀ y ∈ s.1, Pth H R cells x0 y.2 y.1
  st : ∀ y, IsPart cells x0.2 y → (x0.1, y.2) ∈ keysR s.1
structure Trc (H : Hs) (R : List Plc) (cells : List Nat) (x0 : Std) (r : LRow) (z : Std) (f : Nat → Std) (g : Nat → List (List Int)) : Prop where
  pos : 0 < r.length
  st : f 0 = x0
  at_ : ∀ i, i < r.length → ∃ k, r[i]? = some ((f i).1, k) ∧ IsPart cells (f i).2 (k, g i) ∧ OkS H R (f i)
  go : ∀ i, i + 1 < r.length → ∃ ys, goL H R ((f i).1, g i) = some ys ∧ f (i + 1) ∈ ys
  fin : z = ((f (r.length - 1)).1, g (r.length - 1))
end
end Ow

set_option maxHeartbeats 1000000
namespace Ev.Code
open PySem Ev

end Ev.Code
namespace Ow
open PySem Ev Ev.Code
local macro_rules | `(tactic| and_intros) => `(tactic| repeat (first | with_reducible refine a_sep ?_ | with_reducible refine a_new ?_ | with_reducible refine k_sep ?_ | with_reducible refine k_new ?_ | with_reducible refine g_mv (by decide) (by simp) ?_ | with_reducible refine s_asg ?_ | with_reducible refine s_par ?_ | with_reducible refine s_ret ?_ | with_reducible refine s_retN ?_ | with_reducible refine s_exp ?_ | with_reducible refine s_ifs ?_ | with_reducible refine s_skip ?_ | with_reducible refine s_brk ?_ | with_reducible refine s_cnt ?_ | with_reducible refine g_nm ?_ | with_reducible refine gs_nil ?_ | with_reducible refine gs_cons ?_ | with_reducible refine o_non ?_ | with_reducible refine o_bl ?_ | with_reducible refine o_int ?_ | with_reducible refine o_str ?_ | with_reducible refine a_nil ?_ | with_reducible refine a_cons ?_ | with_reducible refine k_nil ?_ | with_reducible refine k_cons ?_ | with_reducible refine b_nil ?_ | with_reducible refine o_callS ?_ | with_reducible refine o_idx ?_ | with_reducible refine o_bin ?_ | with_reducible refine o_cmp ?_ | with_reducible refine o_tcmp ?_ | with_reducible refine o_tval ?_ | with_reducible refine o_notv ?_ | with_reducible refine o_blt ?_ | with_reducible refine o_fld ?_ | with_reducible refine t_true ?_ | with_reducible refine t_and ?_ | with_reducible refine t_or ?_ | with_reducible refine t_not ?_ | with_reducible refine o_ife ?_ | with_reducible refine o_tup ?_ | with_reducible refine o_lst ?_ | with_reducible refine o_dic0 ?_ | with_reducible refine i_seq ?_ | with_reducible refine i_rng ?_ | with_reducible refine i_enum ?_ | ((with_reducible apply o_var); exact rfl) | ((with_reducible apply o_own); exact rfl) | with_reducible refine g_tupP rfl ?_ | with_reducible refine x_tup rfl rfl ?_ | with_reducible refine x_lst rfl ?_ | with_reducible refine x_seq rfl ?_ | refine x_idx (idx_tupP rfl) ?_ | with_reducible refine x_bin bin_add ?_ | with_reducible refine x_bin bin_sub ?_ | with_reducible refine x_bin (bin_tup (Nat.le_of_ble_eq_true rfl)) ?_ | with_reducible refine x_cmp c_eq_str ?_ | with_reducible refine x_cmp c_ne_str ?_ | with_reducible refine x_cmp c_eq_int ?_ | with_reducible refine x_cmp c_ne_int ?_ | with_reducible refine x_cmp c_lt_int ?_ | with_reducible refine x_cmp c_le_int ?_ | with_reducible refine x_cmp c_gt_int ?_ | with_reducible refine x_cmp c_ge_int ?_ | with_reducible refine x_cmp cmp_is ?_ | with_reducible refine x_cmp cmp_notN ?_ | with_reducible refine x_blt len_map ?_ | with_reducible refine x_blt len_tupP ?_ | with_reducible refine x_blt len_lst ?_ | with_reducible refine x_blt blt_int ?_ | with_reducible refine x_blt blt_abs ?_ | with_reducible refine x_blt tuple_ps ?_ | with_reducible refine x_blt tuple_map ?_ | refine if_t rfl ?_ | refine if_f rfl ?_ | refine x_tru (tru_p fun _ => rfl) ?_ | refine gs_cons ?_ | refine gs_nil ?_ | refine x_par rfl ?_))
theorem beq_encR (a b : List Int) : P.beq (encR a) (encR b) = decide (a = b) := by
  rw [Bool.eq_iff_iff, P.beq_iff, decide_eq_true_iff]
  exact ⟨encR_inj, fun e => by rw [e]⟩
structure LI (H : Hs) (R : List Plc) (cells : List Nat) (x0 : Std) (F W : List Std) : Prop where
  nd : F.Nodup
  fr : ∀ x ∈ F, Rch H R cells x0 x
  wr : ∀ x ∈ W, Rch H R cells x0 x
  st : ∀ y, IsPart cells x0.2 y → (x0.1, y.2) ∈ F ∨ (x0.1, y.2) ∈ W
  cl : ∀ x ∈ F, ∀ ys, goL H R x = some ys → ∀ w ∈ ys, ∀ y, IsPart cells w.2 y → (w.1, y.2) ∈ F ∨ (w.1, y.2) ∈ W
theorem LI.done {H : Hs} {R : List Plc} {cells : List Nat} {x0 : Std} {F : List Std} (l : LI H R cells x0 F []) (z : Std) : Rch H R cells x0 z ↔ z ∈ F := by
  refine ⟨fun p => ?_, l.fr z⟩
  induction p with
  | one h => exact (l.st _ h).resolve_right (by simp)
  | more _ e hw hy ih => exact (l.cl _ ih _ e _ hw _ hy).resolve_right (by simp)
theorem LI.old {H : Hs} {R : List Plc} {cells : List Nat} {x0 x : Std} {F W : List Std} (l : LI H R cells x0 F (x :: W)) (hx : x ∈ F) : LI H R cells x0 F W := by
  have sub : ∀ z, z ∈ F ∨ z ∈ x :: W → z ∈ F ∨ z ∈ W := fun z h => by
    rcases h with h | h
    · exact .inl h
    · rcases List.mem_cons.mp h with e | h
      · exact .inl (e ▸ hx)
      · exact .inr h
  exact ⟨l.nd, l.fr, fun z hz => l.wr z (List.mem_cons_of_mem _ hz), fun y hy => sub _ (l.st y hy), fun z hz ys e w hw y hy => sub _ (l.cl z hz ys e w hw y hy)⟩
def moreL (cells : List Nat) (ys : List Std) : List Std := ys.flatMap fun w => (fullL cells w.2).map fun y => (w.1, y.2)
theorem LI.new {H : Hs} {R : List Plc} {cells : List Nat} {x0 x : Std} {F W : List Std} (l : LI H R cells x0 F (x :: W)) (hx : x ∉ F) : LI H R cells x0 (F ++ [x]) (W ++ moreL cells ((goL H R x).getD [])) := by
  have sub : ∀ z, z ∈ F ∨ z ∈ x :: W → z ∈ F ++ [x] ∨ z ∈ W ++ moreL cells ((goL H R x).getD []) := fun z h => by
    rcases h with h | h
    · exact .inl (by simp [h])
    · rcases List.mem_cons.mp h with e | h
      · exact .inl (by simp [e])
      · exact .inr (by simp [h])
  have hxr := l.wr x (by simp)
  refine ⟨List.nodup_append.mpr ⟨l.nd, by simp, fun a ha c hc e => hx (by simp at hc; rw [← hc, ← e]; exact ha)⟩, fun z hz => ?_, fun z hz => ?_, fun y hy => sub _ (l.st y hy), fun z hz ys e w hw y hy => ?_⟩
  · rcases List.mem_append.mp hz with h | h
    · exact l.fr z h
    · rw [List.mem_singleton.mp h]; exact hxr
  · rcases List.mem_append.mp hz with h | h
    · exact l.wr z (List.mem_cons_of_mem _ h)
    · cases eg : goL H R x with
      | none => rw [eg] at h; cases h
      | some ys =>
        rw [eg] at h
        obtain ⟨w, hw, h⟩ := List.mem_flatMap.mp h
        obtain ⟨y, hy, rfl⟩ := List.mem_map.mp h
        exact .more hxr eg hw ((fullL_iff y).mp hy)
  · rcases List.mem_append.mp hz with h | h
    · exact sub _ (l.cl z h ys e w hw y hy)
    · rw [List.mem_singleton.mp h] at e
      refine .inr (List.mem_append_right _ ?_)
      rw [e]
      exact List.mem_flatMap.mpr ⟨w, hw, List.mem_map.mpr ⟨y, (fullL_iff y).mpr hy, rfl⟩⟩
end Ow

namespace Ow
open PySem Ev Ev.Code
local macro_rules | `(tactic| and_intros) => `(tactic| repeat (first | with_reducible refine a_sep ?_ | with_reducible refine a_new ?_ | with_reducible refine k_sep ?_ | with_reducible refine k_new ?_ | with_reducible refine g_mv (by decide) (by simp) ?_ | with_reducible refine s_asg ?_ | with_reducible refine s_par ?_ | with_reducible refine s_ret ?_ | with_reducible refine s_retN ?_ | with_reducible refine s_exp ?_ | with_reducible refine s_ifs ?_ | with_reducible refine s_skip ?_ | with_reducible refine s_brk ?_ | with_reducible refine s_cnt ?_ | with_reducible refine g_nm ?_ | with_reducible refine gs_nil ?_ | with_reducible refine gs_cons ?_ | with_reducible refine o_non ?_ | with_reducible refine o_bl ?_ | with_reducible refine o_int ?_ | with_reducible refine o_str ?_ | with_reducible refine a_nil ?_ | with_reducible refine a_cons ?_ | with_reducible refine k_nil ?_ | with_reducible refine k_cons ?_ | with_reducible refine b_nil ?_ | with_reducible refine o_callS ?_ | with_reducible refine o_idx ?_ | with_reducible refine o_bin ?_ | with_reducible refine o_cmp ?_ | with_reducible refine o_tcmp ?_ | with_reducible refine o_tval ?_ | with_reducible refine o_notv ?_ | with_reducible refine o_blt ?_ | with_reducible refine o_fld ?_ | with_reducible refine t_true ?_ | with_reducible refine t_and ?_ | with_reducible refine t_or ?_ | with_reducible refine t_not ?_ | with_reducible refine o_ife ?_ | with_reducible refine o_tup ?_ | with_reducible refine o_lst ?_ | with_reducible refine o_dic0 ?_ | with_reducible refine i_seq ?_ | with_reducible refine i_rng ?_ | with_reducible refine i_enum ?_ | ((with_reducible apply o_var); exact rfl) | ((with_reducible apply o_own); exact rfl) | with_reducible refine g_tupP rfl ?_ | with_reducible refine x_tup rfl rfl ?_ | with_reducible refine x_lst rfl ?_ | with_reducible refine x_seq rfl ?_ | refine x_idx (idx_tupP rfl) ?_ | with_reducible refine x_bin bin_add ?_ | with_reducible refine x_bin bin_sub ?_ | with_reducible refine x_bin (bin_tup (Nat.le_of_ble_eq_true rfl)) ?_ | with_reducible refine x_cmp c_eq_str ?_ | with_reducible refine x_cmp c_ne_str ?_ | with_reducible refine x_cmp c_eq_int ?_ | with_reducible refine x_cmp c_ne_int ?_ | with_reducible refine x_cmp c_lt_int ?_ | with_reducible refine x_cmp c_le_int ?_ | with_reducible refine x_cmp c_gt_int ?_ | with_reducible refine x_cmp c_ge_int ?_ | with_reducible refine x_cmp cmp_is ?_ | with_reducible refine x_cmp cmp_notN ?_ | with_reducible refine x_blt len_map ?_ | with_reducible refine x_blt len_tupP ?_ | with_reducible refine x_blt len_lst ?_ | with_reducible refine x_blt blt_int ?_ | with_reducible refine x_blt blt_abs ?_ | with_reducible refine x_blt tuple_ps ?_ | with_reducible refine x_blt tuple_map ?_ | refine if_t rfl ?_ | refine if_f rfl ?_ | refine x_tru (tru_p fun _ => rfl) ?_ | refine gs_cons ?_ | refine gs_nil ?_ | refine x_par rfl ?_))
section
variable {G : Prog} {W d : Nat} {H : Hs} {R : List Plc} {cells : List Nat}
end
end Ow

namespace Ow
open PySem Ev
end Ow

namespace Ev
open PySem Ev.Code
theorem r_turns {C : Cfg} {s : Slots} {h : Hea} {xs : List P} {a b : Nat} (hab : a ≤ b) (e : s[0]? = some (some (.kls xs))) {Φ : P → Hea → Prop} (q : ∀ m : Nat, a ≤ m → m ≤ b → Φ (.int (m : Int)) h) :
    Ret (ev C (.blt .max2 (.cons (.int (a : Int)) (.cons (.blt .min2 (.cons (.int (b : Int)) (.cons (.blt .len (.cons (.var 0) .nil)) .nil))) .nil))) () s h) Φ := by
  refine r_blt (r_cons (r_int (r_cons (r_blt (r_cons (r_int (r_cons (r_blt (r_cons (r_var e (r_nil ?_)))))))))))
  refine ⟨.int (xs.length : Int), h, rfl, r_nil ⟨.int (if (xs.length : Int) < b then (xs.length : Int) else b), h, rfl, r_nil ⟨_, h, rfl, ?_⟩⟩⟩
  generalize hm0 : (if (xs.length : Int) < b then (xs.length : Int) else b) = m0
  have h0 : 0 ≤ m0 ∧ m0 ≤ b := by rw [← hm0]; split <;> omega
  have := q (if m0 > a then m0 else a).toNat (by split <;> omega) (by split <;> omega)
  rwa [Int.toNat_of_nonneg (by split <;> omega)] at this
end Ev
namespace Ow
open PySem Ev Ev.Code
def slV : Option P → Sl
  | none => .no
  | some x => .sh (.p x)
def slotsOf (E : List (Option P)) : List Sl := E.map slV
theorem nOw_slV (o : Option P) : nOw (slV o) = true := by cases o <;> rfl
theorem c_ne_bl {a b : Bool} : CmpR .ne (.p (.bl a)) (.p (.bl b)) (!decide (a = b)) := by
  cases a <;> cases b <;> exact cmp_p fun h => rfl
theorem toV {C : Cfg} {t : T .s} {s : Slots} {h : Hea} {Ψ : FlV → St → Prop} {Φ : Ev.Flow × Slots → Hea → Prop} (q : RunS C t ⟨slotsOf s, none⟩ Ψ)
    (k : ∀ f s' h' fl σ' As, Grow h h' → PostS h.length [] h' σ' s' As fl f → Ψ fl σ' → Φ (f, s') h') : Ret (ev C t () s h) Φ := by
  have key : ∀ (i : Nat) (o : Sl), (slotsOf s)[i]? = some o → (∃ x, o = .sh (.p x) ∧ s[i]? = some (some x)) ∨ o = .no := fun i o e => by
    unfold slotsOf at e
    rw [List.getElem?_map, Option.map_eq_some_iff] at e
    obtain ⟨y, e1, e2⟩ := e
    cases y with
    | none => exact .inr e2.symm
    | some x => exact .inl ⟨x, e2.symm, e1⟩
  have hok : Ok [] h ⟨slotsOf s, none⟩ s [] := by
    refine ⟨by simp [slotsOf], fun i v e => ?_, fun i v e => ?_, fun i j v w l e => ?_, fun _ h => (nomatch h), fun _ h => (nomatch h), fun _ h => (nomatch h)⟩
    · rcases key i _ e with ⟨x, e1, e2⟩ | e1
      · cases e1; exact ⟨x, e2, by rw [Sep]⟩
      · cases e1
    · rcases key i _ e with ⟨x, e1, e2⟩ | e1 <;> cases e1
    · rcases key i _ e with ⟨x, e1, e2⟩ | e1 <;> cases e1
  obtain ⟨f, s', h', e, As, fl, σ', st, p, r⟩ := q [] s h [] hok
  exact ⟨_, _, e, k f s' h' fl σ' As st.ext.grow p r⟩
theorem slot_p {A0 As : List Nat} {h : Hea} {σ : St} {s : Slots} (k : Ok A0 h σ s As) {i : Nat} {x : P} (e : σ.E[i]? = some (.sh (.p x))) : s[i]? = some (some x) := by
  obtain ⟨q, e1, e2⟩ := k.sh i _ e
  rw [Sep] at e2; rw [e1, e2]
theorem repr_p {p : P} {B D : Nat} (h : Tx p B D) (hB : B ≤ 16777216) (hD : D ≤ 150) (hs : seqP p = true) : ∃ t : Str, BltR .repr (.p p) .sep (.p (.str t)) := by
  obtain ⟨t, e⟩ := h.repr hB hD hs
  exact ⟨t, blt_p e⟩
end Ow

set_option maxHeartbeats 2000000
namespace Ev.Code
open PySem Ev
def w_put : Fn where
  params := 3
  slots := 3
  body := (.ret (.bin .add (.bin .add (.slc false true (.var 0) .non (.var 1)) (.tup (.cons (.var 2) .nil))) (.slc true false (.var 0) (.bin .add (.var 1) (.int 1)) .non)))

def w_happens : Fn where
  params := 3
  slots := 4
  body := (.ifs (.tcmp .eq (.idx (.var 2) (.int 0)) (.str "deed"))
  (.ret (.lst (.cons (.tup (.cons (.call 17 (.cons (.var 0) (.cons (.idx (.var 2) (.int 1)) (.cons (.var 1) .nil)))) (.cons (.var 2) .nil))) .nil)))
  .skip
  (.ifs (.tcmp .eq (.idx (.var 2) (.int 0)) (.str "perhaps"))
  (.ret (.lst (.cons (.tup (.cons (.var 1) (.cons (.bin .add (.var 2) (.tup (.cons (.int 0) .nil))) .nil))) (.cons (.tup (.cons (.call 17 (.cons (.var 0) (.cons (.idx (.var 2) (.int 1)) (.cons (.var 1) .nil)))) (.cons (.bin .add (.var 2) (.tup (.cons (.int 1) .nil))) .nil))) .nil))))
  .skip
  (.ifs (.tcmp .eq (.idx (.var 2) (.int 0)) (.str "stir"))
  (.ret (.lc [3] (.tup (.cons (.call 36 (.cons (.var 1) (.cons (.idx (.var 2) (.int 1)) (.cons (.var 3) .nil)))) (.cons (.bin .add (.var 2) (.tup (.cons (.var 3) .nil))) .nil))) (.gnm 3) (.irng (.idx (.idx (.var 0) (.int 0)) (.idx (.var 2) (.int 1)))) .ttrue))
  .skip
  (.ifs (.tcmp .eq (.idx (.var 2) (.int 0)) (.str "ask"))
  (.ret (.lst (.cons (.tup (.cons (.var 1) (.cons (.bin .add (.var 2) (.tup (.cons (.idx (.call 23 (.cons (.var 0) (.cons (.idx (.var 2) (.int 1)) (.cons (.var 1) .nil)))) (.int 1)) .nil))) .nil))) .nil)))
  .skip
  (.ret (.lst (.cons (.tup (.cons (.var 1) (.cons (.var 2) .nil))) .nil)))))))

def w_all_ends : Fn where
  params := 3
  slots := 11
  body := (.asg (.gnm 3) (.lst .nil)
  (.for_ (.gnm 4) (.isq (.var 1))
  (.asg (.gnm 5) (.lst (.cons (.var 4) .nil))
  (.for_ (.gnm 6) (.isq (.var 2))
  (.asg (.gnm 7) (.lst .nil)
  (.for_ (.gnm 8) (.isq (.var 5))
  (.ifs (.tcmp .eq (.idx (.var 6) (.int 0)) (.str "saw"))
  (.exp (.bmt .extend (.var 7) (.cons (.ife (.tcmp .eq (.idx (.var 8) (.idx (.var 6) (.int 1))) (.idx (.var 6) (.int 2))) (.lst (.cons (.var 8) .nil)) (.lst .nil)) .nil))
  .skip)
  (.exp (.bmt .extend (.var 7) (.cons (.lc [9, 10] (.var 9) (.gtup (.gcons (.gnm 9) (.gcons (.gnm 10) .gnil))) (.isq (.call 37 (.cons (.var 0) (.cons (.var 8) (.cons (.var 6) .nil))))) .ttrue) .nil))
  .skip)
  .skip)
  (.asg (.gnm 5) (.var 7)
  .skip)))
  (.exp (.bmt .extend (.var 3) (.cons (.var 5) .nil))
  .skip)))
  (.ret (.blt .tuple (.cons (.sset (.var 3)) .nil)))))
end Ev.Code
namespace Ev
open PySem Ev.Code
def endsI (H : Hs) : Itm → List Int → List (List Int)
  | .deed k, c => [doDeed H.zs (H.rows.getD k []) c]
  | .perh k, c => [c, doDeed H.zs (H.rows.getD k []) c]
  | .stir k, c => (List.range (H.zs.getD k 0).toNat).map fun v : Nat => c.set k (0 + (v : Int))
  | .saw k v, c => if c.getD k 0 = v then [c] else []
def endsL (H : Hs) (cs : List (List Int)) (is : List Itm) : List (List Int) := is.foldl (fun cs it => cs.flatMap (endsI H it)) cs
theorem mem_behL {H : Hs} {it : Itm} {cs : List (List Int)} {x : List Int} : x ∈ behL H it cs ↔ ∃ c ∈ cs, x ∈ endsI H it c := by
  cases it with
  | deed k =>
    simp only [behL, setL_mem, List.mem_map, endsI, List.mem_singleton]
    exact ⟨fun ⟨c, hc, e⟩ => ⟨c, hc, e.symm⟩, fun ⟨c, hc, e⟩ => ⟨c, hc, e.symm⟩⟩
  | perh k =>
    simp only [behL, setL_mem, List.mem_append, List.mem_map, endsI, List.mem_cons, List.not_mem_nil, or_false]
    constructor
    · rintro (h | ⟨c, hc, e⟩)
      · exact ⟨x, h, .inl rfl⟩
      · exact ⟨c, hc, .inr e.symm⟩
    · rintro ⟨c, hc, e | e⟩
      · exact .inl (e ▸ hc)
      · exact .inr ⟨c, hc, e.symm⟩
  | stir k =>
    simp only [behL, setL_mem, stirL, List.mem_flatMap, endsI]
  | saw k v =>
    simp only [behL, List.mem_filter, decide_eq_true_eq, endsI]
    constructor
    · rintro ⟨h, e⟩
      exact ⟨x, h, by rw [if_pos e]; simp⟩
    · rintro ⟨c, hc, h⟩
      split at h
      · rename_i e
        rw [List.mem_singleton.mp h]; exact ⟨hc, e⟩
      · cases h
theorem mem_leftL {H : Hs} : ∀ {is : List Itm} {cs ds : List (List Int)}, (∀ x, x ∈ cs ↔ x ∈ ds) → ∀ x, x ∈ leftL H cs is ↔ x ∈ endsL H ds is
  | [], _, _, h, x => h x
  | it :: is, cs, ds, h, x => by
    show x ∈ leftL H (behL H it cs) is ↔ x ∈ endsL H (ds.flatMap (endsI H it)) is
    refine mem_leftL (is := is) (fun y => ?_) x
    rw [mem_behL, List.mem_flatMap]
    exact ⟨fun ⟨c, hc, q⟩ => ⟨c, (h c).mp hc, q⟩, fun ⟨c, hc, q⟩ => ⟨c, (h c).mpr hc, q⟩⟩
theorem endsL_one {H : Hs} : ∀ {is : List Itm} {cs : List (List Int)}, endsL H cs is = cs.flatMap fun c => endsL H [c] is
  | [], cs => by simp [endsL]
  | it :: is, cs => by
    have h1 : ∀ ds : List (List Int), endsL H ds (it :: is) = endsL H (ds.flatMap (endsI H it)) is := fun _ => rfl
    rw [h1, endsL_one (is := is), List.flatMap_assoc]
    congr 1
    funext c
    rw [h1, endsL_one (is := is)]
    simp
theorem endsI_ct {H : Hs} (ok : H.Ok) {it : Itm} (hi : it.ok H) {c : List Int} (hc : Ct H.zs c) : ∀ x ∈ endsI H it c, Ct H.zs x := fun x hx => by
  have g : Good H.zs [c] := ⟨fun y hy => by rw [List.mem_singleton.mp hy]; exact hc, List.pairwise_singleton _ _⟩
  exact (behL_good ok hi g).ct x (mem_behL.mpr ⟨c, by simp, hx⟩)
theorem endsI_len {H : Hs} (hz : Sizes H.zs) {it : Itm} (hi : it.ok H) {c : List Int} : (endsI H it c).length ≤ 4 := by
  cases it with
  | deed k => simp [endsI]
  | perh k => simp [endsI]
  | stir k =>
    have hk : k < H.zs.length := hi
    have := hz.at_ _ (List.mem_of_getElem? (zs_at hk))
    simp only [endsI, List.length_map, List.length_range]; omega
  | saw k v => simp only [endsI]; split <;> simp
theorem endsL_ok {H : Hs} (ok : H.Ok) : ∀ {is : List Itm} {cs : List (List Int)}, (∀ it ∈ is, it.ok H) → (∀ c ∈ cs, Ct H.zs c) → (∀ x ∈ endsL H cs is, Ct H.zs x) ∧ (endsL H cs is).length ≤ 4 ^ is.length * cs.length
  | [], cs, _, h => ⟨h, by simp [endsL]⟩
  | it :: is, cs, hi, h => by
    have h1 : ∀ x ∈ cs.flatMap (endsI H it), Ct H.zs x := fun x hx => by
      obtain ⟨c, hc, hx⟩ := List.mem_flatMap.mp hx
      exact endsI_ct ok (hi it (by simp)) (h c hc) x hx
    obtain ⟨h2, h3⟩ := endsL_ok ok (is := is) (fun j hj => hi j (by simp [hj])) h1
    refine ⟨h2, Nat.le_trans h3 ?_⟩
    have h4 : (cs.flatMap (endsI H it)).length ≤ 4 * cs.length := by
      clear h1 h2 h3
      induction cs with
      | nil => simp
      | cons c cs ih =>
        have := endsI_len ok.sizes (hi it (by simp)) (c := c)
        have := ih fun d hd => h d (by simp [hd])
        simp only [List.flatMap_cons, List.length_append, List.length_cons]; omega
    rw [List.length_cons, Nat.pow_succ, Nat.mul_assoc]
    exact Nat.mul_le_mul_left _ h4
theorem endsL_snoc {H : Hs} {cs : List (List Int)} {is : List Itm} {it : Itm} : endsL H cs (is ++ [it]) = (endsL H cs is).flatMap (endsI H it) := by simp [endsL]
theorem left_ends {H : Hs} (ok : H.Ok) {is : List Itm} (hi : ∀ it ∈ is, it.ok H) {cs : List (List Int)} (g : Good H.zs cs) : leftL H cs is = setL (endsL H cs is) := by
  have a := (leftL_good ok hi g).asc
  have b := setL_asc (endsL H cs is)
  have pw : ∀ {l : List (List Int)}, Asc l → l.Pairwise fun a b => rowLe a b = true := fun h => h.imp fun {a b} e => rowLt_le e
  refine sorted_unique (pw a) (pw b) a.nodup b.nodup fun x => ?_
  rw [setL_mem]
  exact mem_leftL (fun _ => Iff.rfl) x
end Ev
namespace Ev
open PySem Ev.Code
local macro_rules | `(tactic| array_mem_dec) => `(tactic| repeat (first | with_reducible refine r_asg ?_ | with_reducible refine r_bin ?_ | with_reducible refine r_int ?_ | with_reducible refine r_str ?_ | with_reducible refine r_non ?_ | with_reducible refine r_bl ?_ | with_reducible refine r_blt ?_ | with_reducible refine r_call ?_ | with_reducible refine r_cons ?_ | with_reducible refine r_nil ?_ | with_reducible refine v_int ?_ | with_reducible refine v_add ?_ | with_reducible refine v_sub ?_ | with_reducible refine r_gnm ?_ | with_reducible refine r_tcmp ?_ | with_reducible refine r_idx ?_ | with_reducible refine r_gsub ?_ | with_reducible refine r_exp ?_ | with_reducible refine r_ret ?_ | with_reducible refine r_tup ?_ | with_reducible refine v_lenT ?_ | ((with_reducible apply r_var); exact rfl) | with_reducible refine v_mul (by omega) ?_ | with_reducible refine v_mod (by decide) ?_))
theorem put_spec {G : Prog} (f36 : G.fn 36 = some w_put) {W d : Nat} {l : List Int} {c : Nat} {v : Int} {h : Hea} (hc : c < l.length) (hl : l.length ≤ 3) :
    Ret (callN G W (d + 1) 36 [encR l, .int c, .int v] h) fun p h' => p = encR (l.set c v) ∧ Grow h h' := by
  rw [call_fn f36]
  refine run_ret rfl ?_
  unfold w_put
  array_mem_dec
  refine r_slcH (r_var rfl (r_var rfl ⟨_, rfl, v_slcT ?_⟩))
  array_mem_dec
  refine ⟨by simp [SZ], v_cat (by rw [cutH]; simp [SZ]; omega) ?_⟩
  refine r_slcL (r_var rfl ?_)
  array_mem_dec
  refine ⟨_, rfl, v_slcT (v_cat ?_ ⟨_, rfl, ?_, .refl⟩)⟩
  · rw [cutH, show (c : Int) + 1 = ((c + 1 : Nat) : Int) by omega, cutL]; simp [SZ]; omega
  · rw [cutH, show (c : Int) + 1 = ((c + 1 : Nat) : Int) by omega, cutL, cat_set hc]
end Ev
namespace Ow
open PySem Ev Ev.Code
local macro_rules | `(tactic| and_intros) => `(tactic| repeat (first | with_reducible refine a_sep ?_ | with_reducible refine a_new ?_ | with_reducible refine k_sep ?_ | with_reducible refine k_new ?_ | with_reducible refine g_mv (by decide) (by simp) ?_ | with_reducible refine s_asg ?_ | with_reducible refine s_par ?_ | with_reducible refine s_ret ?_ | with_reducible refine s_retN ?_ | with_reducible refine s_exp ?_ | with_reducible refine s_ifs ?_ | with_reducible refine s_skip ?_ | with_reducible refine s_brk ?_ | with_reducible refine s_cnt ?_ | with_reducible refine g_nm ?_ | with_reducible refine gs_nil ?_ | with_reducible refine gs_cons ?_ | with_reducible refine o_non ?_ | with_reducible refine o_bl ?_ | with_reducible refine o_int ?_ | with_reducible refine o_str ?_ | with_reducible refine a_nil ?_ | with_reducible refine a_cons ?_ | with_reducible refine k_nil ?_ | with_reducible refine k_cons ?_ | with_reducible refine b_nil ?_ | with_reducible refine o_callS ?_ | with_reducible refine o_idx ?_ | with_reducible refine o_bin ?_ | with_reducible refine o_cmp ?_ | with_reducible refine o_tcmp ?_ | with_reducible refine o_tval ?_ | with_reducible refine o_notv ?_ | with_reducible refine o_blt ?_ | with_reducible refine o_fld ?_ | with_reducible refine t_true ?_ | with_reducible refine t_and ?_ | with_reducible refine t_or ?_ | with_reducible refine t_not ?_ | with_reducible refine o_ife ?_ | with_reducible refine o_tup ?_ | with_reducible refine o_lst ?_ | with_reducible refine o_dic0 ?_ | with_reducible refine i_seq ?_ | with_reducible refine i_rng ?_ | with_reducible refine i_enum ?_ | ((with_reducible apply o_var); exact rfl) | ((with_reducible apply o_own); exact rfl) | with_reducible refine g_tupP rfl ?_ | with_reducible refine x_tup rfl rfl ?_ | with_reducible refine x_lst rfl ?_ | with_reducible refine x_seq rfl ?_ | refine x_idx (idx_tupP rfl) ?_ | with_reducible refine x_bin bin_add ?_ | with_reducible refine x_bin bin_sub ?_ | with_reducible refine x_bin (bin_tup (Nat.le_of_ble_eq_true rfl)) ?_ | with_reducible refine x_cmp c_eq_str ?_ | with_reducible refine x_cmp c_ne_str ?_ | with_reducible refine x_cmp c_eq_int ?_ | with_reducible refine x_cmp c_ne_int ?_ | with_reducible refine x_cmp c_lt_int ?_ | with_reducible refine x_cmp c_le_int ?_ | with_reducible refine x_cmp c_gt_int ?_ | with_reducible refine x_cmp c_ge_int ?_ | with_reducible refine x_cmp cmp_is ?_ | with_reducible refine x_cmp cmp_notN ?_ | with_reducible refine x_blt len_map ?_ | with_reducible refine x_blt len_tupP ?_ | with_reducible refine x_blt len_lst ?_ | with_reducible refine x_blt blt_int ?_ | with_reducible refine x_blt blt_abs ?_ | with_reducible refine x_blt tuple_ps ?_ | with_reducible refine x_blt tuple_map ?_ | refine if_t rfl ?_ | refine if_f rfl ?_ | refine x_tru (tru_p fun _ => rfl) ?_ | refine gs_cons ?_ | refine gs_nil ?_ | refine x_par rfl ?_))
theorem setOk_wide {zs : List Int} (hz : Sizes zs) {rows : List (List Int)} (h : ∀ r ∈ rows, Ct zs r) (h8 : (contL zs).length ≤ 8) : setOk (rows.map encR) = true := by
  cases rows with
  | nil => rfl
  | cons r rs =>
    have hr := h r List.mem_cons_self
    have k := rowOk_ct hz hr
    have h0 := hz.ne
    have hd : (dedupP [] ((r :: rs).map encR)).length ≤ 8 := by
      have e := dedupL_enc (r :: rs) []
      rw [List.map_nil] at e
      rw [e, List.length_map]
      have nd := dedupL_nodup (rows := r :: rs) (acc := []) List.nodup_nil
      have := nodup_len nd (b := contL zs) fun x hx => by
        rcases dedupL_mem.mp hx with z | z
        · cases z
        · exact mem_contL (h x z)
      omega
    rw [List.map_cons] at hd ⊢
    unfold encR at hd k ⊢
    simp only [setOk, List.length_map, Bool.and_eq_true, Bool.or_eq_true, decide_eq_true_eq]
    rw [hr.len]
    refine ⟨⟨⟨by omega, .inr (by omega)⟩, k⟩, ?_⟩
    rw [List.all_map, List.all_eq_true]
    intro q hq
    exact rowOk_ct hz (h q (List.mem_cons_of_mem _ hq))
section
variable {G : Prog} {W d : Nat} {H : Hs}
abbrev Told := List Int × P
def encTo (t : Told) : P := .tup [encR t.1, t.2]
def toldI (H : Hs) : Itm → List Int → List Told
  | .deed k, c => [(doDeed H.zs (H.rows.getD k []) c, .tup [.str "deed", .int k])]
  | .perh k, c => [(c, .tup [.str "perhaps", .int k, .int 0]), (doDeed H.zs (H.rows.getD k []) c, .tup [.str "perhaps", .int k, .int 1])]
  | .stir k, c => (List.range (H.zs.getD k 0).toNat).map fun v : Nat => (c.set k (0 + (v : Int)), .tup [.str "stir", .int k, .int (v : Int)])
  | .saw k v, c => [(c, .tup [.str "saw", .int k, .int v])]
theorem toldI_ends {it : Itm} (hs : it.isSaw = false) {c : List Int} : (toldI H it c).map (·.1) = endsI H it c := by
  cases it with
  | saw k v => cases hs
  | stir k => simp [toldI, endsI]
  | _ => rfl
theorem itm_word (it : Itm) : ∃ w : Str, IdxR (.p it.enc) (.p (.int 0)) (.p (.str w)) ∧ decide (w = "saw") = it.isSaw := by
  cases it with
  | deed k => exact ⟨"deed", idx_tupP rfl, (by decide +kernel : decide (("deed" : Str) = "saw") = false)⟩
  | perh k => exact ⟨"perhaps", idx_tupP rfl, (by decide +kernel : decide (("perhaps" : Str) = "saw") = false)⟩
  | stir k => exact ⟨"stir", idx_tupP rfl, (by decide +kernel : decide (("stir" : Str) = "saw") = false)⟩
  | saw k v => exact ⟨"saw", idx_tupP rfl, (by decide +kernel : decide (("saw" : Str) = "saw") = true)⟩
theorem happens_spec (f36 : G.fn 36 = some w_put) (f17 : G.fn 17 = some w_done) (f37 : G.fn 37 = some w_happens) (hW : 10 < W) (ok : H.Ok) {it : Itm} (hi : it.ok H) (hs : it.isSaw = false) {c : List Int} (hc : Ct H.zs c) :
    CallR (callN G W (d + 2) 37) none [.p H.enc, .p (encR c), .p it.enc] fun fr v _ => fr = true ∧ v = .lst ((toldI H it c).map fun t => .p (encTo t)) := by
  have h3 := ok.sizes.few
  have cl := hc.len
  refine callR_fn f37 rfl ?_
  unfold w_happens
  cases it with
  | deed k =>
    have hk := row_at (H := H) (k := k) hi
    show RunS _ _ ⟨[.sh (.p H.enc), .sh (.p (encR c)), .sh (.p (.tup [.str "deed", .int k])), .no], none⟩ _
    and_intros
    refine x_callS (callR_P (fun h => done_spec f17 (d := d) hW ok hk hc) rfl) ?_
    and_intros
    exact ⟨rfl, rfl⟩
  | perh k =>
    have hk := row_at (H := H) (k := k) hi
    show RunS _ _ ⟨[.sh (.p H.enc), .sh (.p (encR c)), .sh (.p (.tup [.str "perhaps", .int k])), .no], none⟩ _
    and_intros
    refine x_callS (callR_P (fun h => done_spec f17 (d := d) hW ok hk hc) rfl) ?_
    and_intros
    exact ⟨rfl, rfl⟩
  | stir k =>
    have hk : k < H.zs.length := hi
    have hz4 := ok.sizes.at_ _ (List.mem_of_getElem? (zs_at hk))
    show RunS _ _ ⟨[.sh (.p H.enc), .sh (.p (encR c)), .sh (.p (.tup [.str "stir", .int k])), .no], none⟩ _
    and_intros
    refine o_lcM (List.range (H.zs.getD k 0).toNat) (fun v : Nat => .p (.int (v : Int))) (fun v : Nat => .p (encTo (c.set k (0 + (v : Int)), .tup [.str "stir", .int k, .int (v : Int)]))) ?_
    and_intros
    refine x_idx (idx_tupP (x := .int (H.zs.getD k 0)) (atI_nat (by rw [List.getElem?_map, zs_at hk]; rfl))) ?_
    and_intros
    refine ⟨_, rfl, by omega, by omega, rfl, rfl, by rw [List.length_range]; simp only [SZ]; omega, fun v hv => ⟨_, tg_nm (by simp), ?_⟩, ?_⟩
    · and_intros
      refine x_callS (callR_P (fun h => put_spec f36 (d := d) (v := (v : Int)) (h := h) (by omega : k < c.length) (by omega)) rfl) ?_
      and_intros
      exact ⟨rfl, by rw [Int.zero_add]; rfl⟩
    exact ⟨rfl, by unfold toldI; rw [List.map_map]; rfl⟩
  | saw k v => cases hs
theorem all_ends_spec (f36 : G.fn 36 = some w_put) (f17 : G.fn 17 = some w_done) (f37 : G.fn 37 = some w_happens) (f39 : G.fn 39 = some w_all_ends) (hW : 10 < W) (ok : H.Ok) {is : List Itm} (hi : ∀ it ∈ is, it.ok H) (h5 : is.length ≤ 5) {cs : List (List Int)} (hc : ∀ c ∈ cs, Ct H.zs c) (hl : cs.length ≤ 8) (h8 : (contL H.zs).length ≤ 8) :
    CallR (callN G W (d + 3) 39) none [.p H.enc, .p (.tup (cs.map encR)), .p (.tup (is.map Itm.enc))] fun fr v _ => fr = false ∧ v = .p (.tup ((setL (endsL H cs is)).map encR)) := by
  refine callR_fn f39 rfl ?_
  unfold w_all_ends
  show RunS _ _ ⟨[.sh (.p H.enc), .sh (.p (.tup (cs.map encR))), .sh (.p (.tup (is.map Itm.enc))), .no, .no, .no, .no, .no, .no, .no, .no], none⟩ _
  have bd : ∀ (js : List Itm) (ds : List (List Int)), (∀ it ∈ js, it ∈ is) → js.length ≤ 5 → (∀ c ∈ ds, Ct H.zs c) → (∀ x ∈ endsL H ds js, Ct H.zs x) ∧ (endsL H ds js).length ≤ 1024 * ds.length := fun js ds hj h5 hd => by
    obtain ⟨a, b⟩ := endsL_ok ok (is := js) (fun it h => hi it (hj it h)) hd
    refine ⟨a, Nat.le_trans b (Nat.mul_le_mul_right _ ?_)⟩
    exact Nat.pow_le_pow_right (by decide) h5
  and_intros
  refine s_for (i_seq (o_var rfl (x_seq rfl ?_)))
  refine ⟨fun i σ => ∃ e4 e5 e6 e7 e8 e9 e10 : Sl, nOw e9 = true ∧ nOw e10 = true ∧ σ = ⟨[.sh (.p H.enc), .sh (.p (.tup (cs.map encR))), .sh (.p (.tup (is.map Itm.enc))), .ow (.lst ((endsL H (cs.take i) is).map fun c => .p (encR c))), e4, e5, e6, e7, e8, e9, e10], none⟩, ⟨_, _, _, _, _, .no, .no, rfl, rfl, by rw [List.take_zero, endsL_one]; rfl⟩, ?_, ?_⟩
  · rintro i v σ hv ⟨e4, e5, e6, e7, e8, e9, e10, n9, n10, rfl⟩
    obtain ⟨c, hci, rfl⟩ := get_ps hv
    have hcm := List.mem_of_getElem? hci
    have hct := hc c hcm
    refine g_nm (s_asg (o_lst (a_cons (o_var rfl (a_nil (x_lst rfl (g_nmS ?_)))))))
    refine s_for (i_seq (o_var rfl (x_seq rfl ?_)))
    refine ⟨fun j σ => ∃ e6 e7 e8 e9 e10 : Sl, nOw e9 = true ∧ nOw e10 = true ∧ σ = ⟨[.sh (.p H.enc), .sh (.p (.tup (cs.map encR))), .sh (.p (.tup (is.map Itm.enc))), .ow (.lst ((endsL H (cs.take i) is).map fun c => .p (encR c))), .sh (.p (encR c)), .sh (.lst ((endsL H [c] (is.take j)).map fun c => .p (encR c))), e6, e7, e8, e9, e10], none⟩, ⟨_, _, _, _, _, n9, n10, rfl⟩, ?_, ?_⟩
    · rintro j v σ hv ⟨e6, e7, e8, e9, e10, n9, n10, rfl⟩
      obtain ⟨it, hit, rfl⟩ := get_ps hv
      have him := List.mem_of_getElem? hit
      have hio := hi it him
      obtain ⟨fct, fl⟩ := bd (is.take j) [c] (fun it h => List.mem_of_mem_take h) (by rw [List.length_take]; omega) (fun y hy => by rw [List.mem_singleton.mp hy]; exact hct)
      have et : endsL H [c] (is.take (j + 1)) = (endsL H [c] (is.take j)).flatMap (endsI H it) := by
        rw [List.take_add_one, hit]; exact endsL_snoc
      generalize endsL H [c] (is.take j) = F at fct fl et
      have Fl : F.length ≤ 1024 := by simpa using fl
      clear fl
      and_intros
      refine s_for (i_seq (o_var rfl (x_seq rfl ?_)))
      refine ⟨fun l σ => ∃ e8 e9 e10 : Sl, nOw e9 = true ∧ nOw e10 = true ∧ σ = ⟨[.sh (.p H.enc), .sh (.p (.tup (cs.map encR))), .sh (.p (.tup (is.map Itm.enc))), .ow (.lst ((endsL H (cs.take i) is).map fun c => .p (encR c))), .sh (.p (encR c)), .sh (.lst (F.map fun c => .p (encR c))), .sh (.p it.enc), .ow (.lst (((F.take l).flatMap (endsI H it)).map fun c => .p (encR c))), e8, e9, e10], none⟩, ⟨_, _, _, n9, n10, rfl⟩, ?_, ?_⟩
      · rintro l v σ hv ⟨e8, e9, e10, n9, n10, rfl⟩
        obtain ⟨x, hx, rfl⟩ := get_vs hv
        have xct := fct x (List.mem_of_getElem? hx)
        have xl := xct.len
        have hz3 := ok.sizes.few
        have el : (F.take (l + 1)).flatMap (endsI H it) = (F.take l).flatMap (endsI H it) ++ endsI H it x := by
          rw [List.take_add_one, hx, List.flatMap_append]; simp
        have bl : ((F.take l).flatMap (endsI H it)).length ≤ 4 * 1024 := by
          have := flat_le (f := endsI H it) (k := 4) (xs := F.take l) fun y _ => endsI_len ok.sizes hio
          have : (F.take l).length ≤ 1024 := by rw [List.length_take]; omega
          omega
        have el4 := endsI_len ok.sizes hio (c := x)
        obtain ⟨w, hw, hws⟩ := itm_word it
        and_intros
        refine x_idx hw ?_
        and_intros
        refine ⟨fun q => ?_, fun q => ?_⟩
        · rw [hws] at q
          cases it with
          | saw k v =>
            have hk : k < x.length := by have := hio.1; omega
            refine s_exp (e_extend rfl ?_)
            and_intros
            refine x_idx (idx_tupP (atI_row hk)) ?_
            and_intros
            refine ⟨fun e => ?_, fun e => ?_⟩
            · have e1 : endsI H (.saw k v) x = [x] := if_pos (of_decide_eq_true e)
              and_intros
              refine ⟨_, _, rfl, rfl, by simp only [List.length_map, List.length_cons, List.length_nil, SZ]; omega, ?_⟩
              exact s_skip (s_skip ⟨_, _, _, n9, n10, by rw [el, e1, List.map_append]; rfl⟩)
            · have e1 : endsI H (.saw k v) x = [] := if_neg (of_decide_eq_false e)
              and_intros
              refine ⟨_, _, rfl, rfl, by simp only [List.length_map, List.length_nil, SZ]; omega, ?_⟩
              exact s_skip (s_skip ⟨_, _, _, n9, n10, by rw [el, e1, List.map_append]; rfl⟩)
          | _ => cases q
        · rw [hws] at q
          refine s_exp (e_extend rfl (o_lcM (toldI H it x) (fun t => .p (encTo t)) (fun t => .p (encR t.1)) (i_seq (o_callF ?_))))
          and_intros
          refine x_callF (happens_spec f36 f17 f37 (d := d) hW ok hio q xct) ?_
          refine x_seq rfl ⟨rfl, notOw2 rfl n9 rfl n10, ?_, fun t ht => ⟨_, tg_pairP (by simp) (by simp), ?_⟩, ?_⟩
          · have := congrArg List.length (toldI_ends (H := H) q (c := x))
            rw [List.length_map] at this
            simp only [SZ]; omega
          · and_intros
            exact ⟨rfl, rfl⟩
          refine ⟨_, _, rfl, rfl, ?_, ?_⟩
          · have := congrArg List.length (toldI_ends (H := H) q (c := x))
            rw [List.length_map] at this
            simp only [List.length_map, SZ]; omega
          exact s_skip (s_skip ⟨_, _, _, n9, n10, by rw [el, List.map_append, ← toldI_ends q, List.map_map]; rfl⟩)
      · rintro σ ⟨e8, e9, e10, n9, n10, rfl⟩
        rw [List.length_map, List.take_length]
        refine s_asg (o_own rfl (g_nm (s_skip ?_)))
        exact ⟨_, _, _, _, _, n9, n10, by rw [et]; rfl⟩
    · rintro σ ⟨e6, e7, e8, e9, e10, n9, n10, rfl⟩
      have el : (is.map Itm.enc).length = is.length := List.length_map _
      rw [List.length_map, List.length_map, List.take_length]
      obtain ⟨_, l1⟩ := bd is [c] (fun it h => h) h5 (fun y hy => by rw [List.mem_singleton.mp hy]; exact hct)
      obtain ⟨_, l2⟩ := bd is (cs.take i) (fun it h => h) h5 (fun y hy => hc y (List.mem_of_mem_take hy))
      have tl : (cs.take i).length ≤ 8 := by rw [List.length_take]; omega
      have et : endsL H (cs.take (i + 1)) is = endsL H (cs.take i) is ++ endsL H [c] is := by
        rw [List.take_add_one, hci, endsL_one, endsL_one (cs := cs.take i), List.flatMap_append]; simp
      refine s_exp (e_extend rfl (o_var rfl ⟨_, _, rfl, rfl, ?_, s_skip ?_⟩))
      · simp only [List.length_map, List.length_cons, List.length_nil, SZ] at l1 ⊢; omega
      exact ⟨_, _, _, _, _, _, _, n9, n10, by rw [et, List.map_append]; rfl⟩
  · rintro σ ⟨e4, e5, e6, e7, e8, e9, e10, n9, n10, rfl⟩
    rw [List.length_map, List.length_map, List.take_length]
    obtain ⟨ect, l1⟩ := bd is cs (fun it h => h) h5 hc
    refine s_ret (o_blt (o_sset (o_own rfl ⟨(endsL H cs is).map encR, (setL (endsL H cs is)).map encR, by rw [mapP], ?_, fun h => sortD_dedup fun r hr => ct_ne ok.sizes (ect r hr), ?_⟩)))
    · exact setOk_wide ok.sizes ect h8
    · refine x_blt tuple_ps ⟨rfl, rfl⟩
end
end Ow


set_option maxHeartbeats 1000000
namespace Ev.Code
open PySem Ev

def f_law : Fn where
  params := 1
  slots := 11
  body := (.asg (.gnm 1) (.call 6 (.cons (.var 0) .nil))
  (.for_ (.gnm 2) (.irng (.blt .max2 (.cons (.int 3) (.cons (.blt .min2 (.cons (.int 6) (.cons (.blt .len (.cons (.var 0) .nil)) .nil))) .nil))))
  (.asg (.gnm 3) (.call 38 (.cons (.var 1) .nil))
  (.asg (.gtup (.gcons (.gnm 4) (.gcons (.gnm 5) .gnil))) (.tup (.cons (.call 18 (.cons (.var 1) (.cons (.var 3) .nil))) (.cons (.call 31 (.cons (.var 1) (.cons (.var 3) (.cons (.int 5) .nil)))) .nil)))
  (.asg (.gnm 6) (.call 32 (.cons (.var 3) (.cons (.var 4) (.cons (.var 5) .nil))))
  (.ifs (.tcmp .ne (.blt .repr (.cons (.var 6) .nil)) (.blt .repr (.cons (.call 39 (.cons (.var 3) (.cons (.var 4) (.cons (.var 5) .nil)))) .nil)))
  (.ret (.bl false))
  .skip
  (.asg (.gnm 7) (.call 32 (.cons (.var 3) (.cons (.blt .tuple (.cons (.call 15 (.cons (.var 3) .nil)) .nil)) (.cons (.var 5) .nil))))
  (.ifs (.tcmp .ne (.lc [9] (.var 9) (.gnm 9) (.isq (.var 6)) (.tcmp .nin (.var 9) (.var 7))) (.lst .nil))
  (.ret (.bl false))
  .skip
  (.asg (.gnm 8) (.lc [9] (.call 32 (.cons (.var 3) (.cons (.tup (.cons (.var 9) .nil)) (.cons (.var 5) .nil)))) (.gnm 9) (.isq (.var 4)) .ttrue)
  (.ifs (.tcmp .ne (.cmp .eq (.var 6) (.tup .nil)) (.cmp .eq (.lc [10] (.var 10) (.gnm 10) (.isq (.var 8)) (.tcmp .ne (.var 10) (.tup .nil))) (.lst .nil)))
  (.ret (.bl false))
  .skip
  .skip))))))))
  (.ret (.bl true))))

end Ev.Code
namespace LW
open PySem Ev L2 Ev.Code
def top (i : Nat) : Stmt := PySem.Challenge.pw_roundlooks_k92_whole_what_can_be_left.main.body.getD i (.Pass ⟨0, 0, 0, 0⟩)

def d_f_with_value : DI := ⟨11, "with_value", top 1, ["content", "cell", "value"], ["content", "cell", "value"], f_with_value⟩
def d_f_behind_step : DI := ⟨10, "behind_step", top 2, ["sizes", "step", "content", "word", "cell", "what", "behind"], ["sizes", "step", "content"], f_behind_step⟩
def d_f_carried : DI := ⟨13, "carried", top 3, ["house", "deed", "content", "step"], ["house", "deed", "content"], f_carried⟩
def d_f_as_set : DI := ⟨12, "as_set", top 4, ["found", "content"], ["found"], f_as_set⟩
def d_f_image : DI := ⟨19, "image", top 5, ["house", "deed", "some", "content"], ["house", "deed", "some"], f_image⟩
def d_f_maybe : DI := ⟨27, "maybe", top 6, ["house", "deed", "some"], ["house", "deed", "some"], f_maybe⟩
def d_f_stirred : DI := ⟨28, "stirred", top 7, ["house", "cell", "some", "found", "content", "value"], ["house", "cell", "some"], f_stirred⟩
def d_f_left_behind : DI := ⟨29, "left_behind", top 9, ["house", "some", "item", "content"], ["house", "some", "item"], f_left_behind⟩
def d_f_known_after : DI := ⟨32, "known_after", top 10, ["house", "some", "items", "item"], ["house", "some", "items"], f_known_after⟩
def d_w_pen : DI := ⟨6, "_law_pen", top 12, ["_law_script"], ["_law_script"], w_pen⟩
def d_w_fresh : DI := ⟨1, "_law_fresh", top 13, ["_law_pen_here", "_law_at", "_law_cell", "_law_p", "_law_state", "_law_found", "_law_turn"], ["_law_pen_here"], w_fresh⟩
def d_w_draw : DI := ⟨2, "_law_draw", top 14, ["_law_pen_here", "_law_many", "_law_digit"], ["_law_pen_here", "_law_many"], w_draw⟩
def d_w_one_of : DI := ⟨4, "_law_one_of", top 15, ["_law_pen_here", "_law_rows"], ["_law_pen_here", "_law_rows"], w_one_of⟩
def d_w_step_drawn : DI := ⟨3, "_law_step_drawn", top 16, ["_law_pen_here", "_law_sizes", "_law_whens", "_law_cell", "_law_alike", "_law_kind", "_law_one", "_law_size"], ["_law_pen_here", "_law_sizes", "_law_whens"], w_step_drawn⟩
def d_w_nodes_drawn : DI := ⟨5, "_law_nodes_drawn", top 17, ["_law_pen_here", "_law_sizes", "_law_nodes", "_law_found", "_law_index", "_law_cell", "_law_left", "_law_goals", "_law_value"], ["_law_pen_here", "_law_sizes", "_law_nodes"], w_nodes_drawn⟩
def d_w_house : DI := ⟨7, "_law_house", top 18, ["_law_pen_here", "_law_sizes", "_law_nodes", "_law_deeds", "_law_questions", "_law_rows", "_law_lap", "_law_turn"], ["_law_pen_here", "_law_sizes", "_law_nodes", "_law_deeds"], w_house⟩
def d_w_small_house : DI := ⟨38, "_law_small_house", top 19, ["_law_pen_here", "_law_sizes"], ["_law_pen_here"], w_small_house⟩
def d_w_contents : DI := ⟨15, "_law_contents", top 20, ["_law_house_here", "_law_found", "_law_size", "_law_rows", "_law_row", "_law_value"], ["_law_house_here"], w_contents⟩
def d_w_done : DI := ⟨17, "_law_done", top 21, ["_law_house_here", "_law_deed", "_law_content", "_law_cells", "_law_first", "_law_step"], ["_law_house_here", "_law_deed", "_law_content"], w_done⟩
def d_w_answered : DI := ⟨23, "_law_answered", top 22, ["_law_house_here", "_law_question", "_law_content", "_law_index", "_law_seen", "_law_cell", "_law_goals"], ["_law_house_here", "_law_question", "_law_content"], w_answered⟩
def d_w_set : DI := ⟨18, "_law_set", top 23, ["_law_pen_here", "_law_house_here", "_law_everything", "_law_found", "_law_content"], ["_law_pen_here", "_law_house_here"], w_set⟩
def d_w_events : DI := ⟨31, "_law_events", top 24, ["_law_pen_here", "_law_house_here", "_law_most", "_law_found", "_law_lap", "_law_cell", "_law_kind"], ["_law_pen_here", "_law_house_here", "_law_most"], w_events⟩
def d_w_put : DI := ⟨36, "_law_put", top 25, ["_law_content", "_law_cell", "_law_value"], ["_law_content", "_law_cell", "_law_value"], w_put⟩
def d_w_happens : DI := ⟨37, "_law_happens", top 26, ["_law_house_here", "_law_content", "_law_item", "_law_value"], ["_law_house_here", "_law_content", "_law_item"], w_happens⟩
def d_w_all_ends : DI := ⟨39, "_law_all_ends", top 27, ["_law_house_here", "_law_some", "_law_items", "_law_found", "_law_content", "_law_here", "_law_item", "_law_later", "_law_one", "_law_behind", "_law_told"], ["_law_house_here", "_law_some", "_law_items"], w_all_ends⟩
def d_f_law : DI := ⟨9, "law", top 28, ["_law_script", "_law_pen_here", "_law_turn", "_law_house_here", "_law_some", "_law_items", "_law_found", "_law_more", "_law_parts", "_law_content", "_law_part"], ["_law_script"], f_law⟩
def ds : List DI := [d_f_with_value, d_f_behind_step, d_f_carried, d_f_as_set, d_f_image, d_f_maybe, d_f_stirred, d_f_left_behind, d_f_known_after, d_w_pen, d_w_fresh, d_w_draw, d_w_one_of, d_w_step_drawn, d_w_nodes_drawn, d_w_house, d_w_small_house, d_w_contents, d_w_done, d_w_answered, d_w_set, d_w_events, d_w_put, d_w_happens, d_w_all_ends, d_f_law]
def blts : List Str := ["enumerate", "int", "len", "list", "max", "min", "range", "repr", "set", "sorted", "tuple"]
def fns : Nat → Option Fn
  | 11 => some f_with_value
  | 10 => some f_behind_step
  | 13 => some f_carried
  | 12 => some f_as_set
  | 19 => some f_image
  | 27 => some f_maybe
  | 28 => some f_stirred
  | 29 => some f_left_behind
  | 32 => some f_known_after
  | 6 => some w_pen
  | 1 => some w_fresh
  | 2 => some w_draw
  | 4 => some w_one_of
  | 3 => some w_step_drawn
  | 5 => some w_nodes_drawn
  | 7 => some w_house
  | 38 => some w_small_house
  | 15 => some w_contents
  | 17 => some w_done
  | 23 => some w_answered
  | 18 => some w_set
  | 31 => some w_events
  | 36 => some w_put
  | 37 => some w_happens
  | 39 => some w_all_ends
  | 9 => some f_law
  | _ => none
def G : Prog := ⟨fns, fun _ => none⟩
theorem fns_ok : ∀ d ∈ ds, G.fn d.g = some d.fn := List.forall_mem_cons.2 ⟨rfl, List.forall_mem_cons.2 ⟨rfl, List.forall_mem_cons.2 ⟨rfl, List.forall_mem_cons.2 ⟨rfl, List.forall_mem_cons.2 ⟨rfl, List.forall_mem_cons.2 ⟨rfl, List.forall_mem_cons.2 ⟨rfl, List.forall_mem_cons.2 ⟨rfl, List.forall_mem_cons.2 ⟨rfl, List.forall_mem_cons.2 ⟨rfl, List.forall_mem_cons.2 ⟨rfl, List.forall_mem_cons.2 ⟨rfl, List.forall_mem_cons.2 ⟨rfl, List.forall_mem_cons.2 ⟨rfl, List.forall_mem_cons.2 ⟨rfl, List.forall_mem_cons.2 ⟨rfl, List.forall_mem_cons.2 ⟨rfl, List.forall_mem_cons.2 ⟨rfl, List.forall_mem_cons.2 ⟨rfl, List.forall_mem_cons.2 ⟨rfl, List.forall_mem_cons.2 ⟨rfl, List.forall_mem_cons.2 ⟨rfl, List.forall_mem_cons.2 ⟨rfl, List.forall_mem_cons.2 ⟨rfl, List.forall_mem_cons.2 ⟨rfl, List.forall_mem_cons.2 ⟨rfl, fun _ h => nomatch h⟩⟩⟩⟩⟩⟩⟩⟩⟩⟩⟩⟩⟩⟩⟩⟩⟩⟩⟩⟩⟩⟩⟩⟩⟩⟩
theorem law_in : d_f_law ∈ ds := List.mem_of_getElem? (l := ds) (i := 25) rfl
def loose : List Str := ("__name__" : Str) :: ("with_value" : Str) :: ("behind_step" : Str) :: ("carried" : Str) :: ("as_set" : Str) :: ("image" : Str) :: ("maybe" : Str) :: ("stirred" : Str) :: ("left_behind" : Str) :: ("known_after" : Str) :: ("_law_pen" : Str) :: ("_law_fresh" : Str) :: ("_law_draw" : Str) :: ("_law_one_of" : Str) :: ("_law_step_drawn" : Str) :: ("_law_nodes_drawn" : Str) :: ("_law_house" : Str) :: ("_law_small_house" : Str) :: ("_law_contents" : Str) :: ("_law_done" : Str) :: ("_law_answered" : Str) :: ("_law_set" : Str) :: ("_law_events" : Str) :: ("_law_put" : Str) :: ("_law_happens" : Str) :: ("_law_all_ends" : Str) :: []
end LW
namespace Ev
open PySem Ev.Code
theorem mem_ends {H : Hs} {cs : List (List Int)} {is : List Itm} {x : List Int} : x ∈ endsL H cs is ↔ ∃ c ∈ cs, x ∈ endsL H [c] is := by
  rw [endsL_one, List.mem_flatMap]
theorem left_sub {H : Hs} {cs ds : List (List Int)} {is : List Itm} (h : ∀ c ∈ cs, c ∈ ds) : ∀ x ∈ leftL H cs is, x ∈ leftL H ds is := fun x hx => by
  rw [mem_leftL fun _ => Iff.rfl] at hx ⊢
  obtain ⟨c, hc, q⟩ := mem_ends.mp hx
  exact mem_ends.mpr ⟨c, h c hc, q⟩
theorem left_none {H : Hs} {cs : List (List Int)} {is : List Itm} : leftL H cs is = [] ↔ cs.filter (fun c => !decide (leftL H [c] is = [])) = [] := by
  rw [List.filter_eq_nil_iff]
  constructor
  · intro h c hc q
    simp only [Bool.not_eq_true', decide_eq_false_iff_not] at q
    obtain ⟨x, hx⟩ := List.exists_mem_of_ne_nil _ q
    have := left_sub (H := H) (cs := [c]) (ds := cs) (is := is) (fun y hy => by rw [List.mem_singleton.mp hy]; exact hc) x hx
    rw [h] at this; cases this
  · intro h
    refine Classical.byContradiction fun q => ?_
    obtain ⟨x, hx⟩ := List.exists_mem_of_ne_nil _ q
    rw [mem_leftL fun _ => Iff.rfl] at hx
    obtain ⟨c, hc, hx⟩ := mem_ends.mp hx
    rw [← mem_leftL fun _ => Iff.rfl] at hx
    refine h c hc ?_
    simp only [Bool.not_eq_true', decide_eq_false_iff_not]
    intro z; rw [z] at hx; cases hx
end Ev
namespace Ow
open PySem Ev Ev.Code
theorem contentsC {G : Prog} (f15 : G.fn 15 = some w_contents) {W d : Nat} {H : Hs} (hz : Sizes H.zs) : CallR (callN G W (d + 1) 15) none [.p H.enc] fun fr v _ => fr = true ∧ v = .lst ((contL H.zs).map fun c => .p (encR c)) := by
  intro A h ps hA hp hs
  obtain rfl := (Seps.ps [H.enc] ps).mp hs
  obtain ⟨v, h', e, l, rfl, hl, el, g⟩ := contents_spec f15 (W := W) (d := d) hz (h := h)
  refine ⟨_, h', e, true, .lst ((contL H.zs).map fun c => .p (encR c)), none, .ofGrow g, rfl, (fun n z => nomatch z), ⟨l, _, rfl, hl, el, _, rfl, ?_⟩, rfl, rfl⟩
  rw [mapP]
  exact (Seps.ps _ _).mpr rfl
theorem nin_rows {c : List Int} {cs : List (List Int)} : CmpR .nin (.p (encR c)) (.p (.tup (cs.map encR))) (!decide (c ∈ cs)) := cmp_p fun g => by
  rw [nin_pln (n := 1) (by decide) (pln_ints c) (pln_rows cs)]
  congr 2
  rw [decide_eq_decide]; exact mem_encR
end Ow
namespace LW
open PySem Ev Ow Ev.Code
local macro_rules | `(tactic| and_intros) => `(tactic| repeat (first | with_reducible refine a_sep ?_ | with_reducible refine a_new ?_ | with_reducible refine k_sep ?_ | with_reducible refine k_new ?_ | with_reducible refine g_mv (by decide) (by simp) ?_ | with_reducible refine s_asg ?_ | with_reducible refine s_par ?_ | with_reducible refine s_ret ?_ | with_reducible refine s_retN ?_ | with_reducible refine s_exp ?_ | with_reducible refine s_ifs ?_ | with_reducible refine s_skip ?_ | with_reducible refine s_brk ?_ | with_reducible refine s_cnt ?_ | with_reducible refine g_nm ?_ | with_reducible refine gs_nil ?_ | with_reducible refine gs_cons ?_ | with_reducible refine o_non ?_ | with_reducible refine o_bl ?_ | with_reducible refine o_int ?_ | with_reducible refine o_str ?_ | with_reducible refine a_nil ?_ | with_reducible refine a_cons ?_ | with_reducible refine k_nil ?_ | with_reducible refine k_cons ?_ | with_reducible refine b_nil ?_ | with_reducible refine o_callS ?_ | with_reducible refine o_idx ?_ | with_reducible refine o_bin ?_ | with_reducible refine o_cmp ?_ | with_reducible refine o_tcmp ?_ | with_reducible refine o_tval ?_ | with_reducible refine o_notv ?_ | with_reducible refine o_blt ?_ | with_reducible refine o_fld ?_ | with_reducible refine t_true ?_ | with_reducible refine t_and ?_ | with_reducible refine t_or ?_ | with_reducible refine t_not ?_ | with_reducible refine o_ife ?_ | with_reducible refine o_tup ?_ | with_reducible refine o_lst ?_ | with_reducible refine o_dic0 ?_ | with_reducible refine i_seq ?_ | with_reducible refine i_rng ?_ | with_reducible refine i_enum ?_ | ((with_reducible apply o_var); exact rfl) | ((with_reducible apply o_own); exact rfl) | with_reducible refine g_tupP rfl ?_ | with_reducible refine x_tup rfl rfl ?_ | with_reducible refine x_lst rfl ?_ | with_reducible refine x_seq rfl ?_ | refine x_idx (idx_tupP rfl) ?_ | with_reducible refine x_bin bin_add ?_ | with_reducible refine x_bin bin_sub ?_ | with_reducible refine x_bin (bin_tup (Nat.le_of_ble_eq_true rfl)) ?_ | with_reducible refine x_cmp c_eq_str ?_ | with_reducible refine x_cmp c_ne_str ?_ | with_reducible refine x_cmp c_eq_int ?_ | with_reducible refine x_cmp c_ne_int ?_ | with_reducible refine x_cmp c_lt_int ?_ | with_reducible refine x_cmp c_le_int ?_ | with_reducible refine x_cmp c_gt_int ?_ | with_reducible refine x_cmp c_ge_int ?_ | with_reducible refine x_cmp cmp_is ?_ | with_reducible refine x_cmp cmp_notN ?_ | with_reducible refine x_blt len_map ?_ | with_reducible refine x_blt len_tupP ?_ | with_reducible refine x_blt len_lst ?_ | with_reducible refine x_blt blt_int ?_ | with_reducible refine x_blt blt_abs ?_ | with_reducible refine x_blt tuple_ps ?_ | with_reducible refine x_blt tuple_map ?_ | refine if_t rfl ?_ | refine if_f rfl ?_ | refine x_tru (tru_p fun _ => rfl) ?_ | refine gs_cons ?_ | refine gs_nil ?_ | refine x_par rfl ?_))
local macro_rules | `(tactic| bv_omega) => `(tactic| repeat (first | with_reducible refine r_asg ?_ | with_reducible refine r_bin ?_ | with_reducible refine r_int ?_ | with_reducible refine r_str ?_ | with_reducible refine r_non ?_ | with_reducible refine r_bl ?_ | with_reducible refine r_blt ?_ | with_reducible refine r_call ?_ | with_reducible refine r_cons ?_ | with_reducible refine r_nil ?_ | with_reducible refine r_tup ?_ | with_reducible refine r_lst ?_ | with_reducible refine r_idx ?_ | with_reducible refine r_slcH ?_ | with_reducible refine r_slcL ?_ | with_reducible refine r_slcT ?_ | with_reducible refine r_slcN ?_ | with_reducible refine r_ret ?_ | with_reducible refine r_exp ?_ | with_reducible refine r_ifs ?_ | with_reducible refine r_ife ?_ | with_reducible refine r_tcmp ?_ | with_reducible refine r_tand ?_ | with_reducible refine r_tor ?_ | with_reducible refine r_tnot ?_ | with_reducible refine r_tval ?_ | with_reducible refine r_ttrue ?_ | with_reducible refine r_cmp ?_ | with_reducible refine r_notv ?_ | with_reducible refine r_andv ?_ | with_reducible refine r_orv ?_ | with_reducible refine r_gnm ?_ | with_reducible refine r_gcons ?_ | with_reducible refine r_gnil ?_ | with_reducible refine r_gsub ?_ | with_reducible refine r_for ?_ | with_reducible refine r_isq ?_ | with_reducible refine r_ienum ?_ | with_reducible refine r_skip ?_ | with_reducible refine r_retN ?_ | with_reducible refine r_brk ?_ | with_reducible refine r_cnt ?_ | with_reducible refine r_lc ?_ | with_reducible refine r_dc ?_ | with_reducible refine r_sset ?_ | with_reducible refine r_walkT ?_ | with_reducible refine v_int ?_ | with_reducible refine v_add ?_ | with_reducible refine v_sub ?_ | with_reducible refine v_lenTm ?_ | with_reducible refine v_lenT ?_ | with_reducible refine v_slcT ?_ | with_reducible refine v_listT ?_ | with_reducible refine or_rt ?_ | with_reducible refine or_nx ?_ | with_reducible refine or_ct ?_ | with_reducible refine or_bk ?_ | with_reducible refine fin_rt ?_ | with_reducible refine ex_int ?_ | ((with_reducible apply r_var); exact rfl) | with_reducible refine r_gtup rfl ?_ | with_reducible refine len_ok rfl ?_ | with_reducible refine ex_cmp eq_str ?_ | with_reducible refine ex_cmp ne_str ?_ | with_reducible refine ex_cmp eq_int ?_ | with_reducible refine ex_cmp ne_int ?_ | with_reducible refine ex_cmp lt_int ?_ | with_reducible refine ex_cmp le_int ?_ | with_reducible refine ex_cmp gt_int ?_ | with_reducible refine ex_cmp ge_int ?_ | with_reducible refine ex_cmp isN_v ?_ | with_reducible refine ex_cmp notN_v ?_ | with_reducible refine r_par ?_ | refine par_ok rfl ?_ | refine ex_idx rfl ?_ | refine if_t rfl ?_ | refine if_f rfl ?_ | refine ex_tru rfl ?_))
abbrev W0 : Nat := 18446744073709551616
theorem hasHouse : HasHouse G := ⟨⟨rfl, rfl, rfl⟩, rfl, rfl, rfl, rfl⟩
theorem hasKnown : HasKnown G := ⟨⟨⟨rfl, rfl, rfl⟩, rfl, rfl, rfl, rfl⟩, rfl, rfl⟩
abbrev C0 : Cfg := ⟨callN G W0 59, G.con, W0⟩
theorem len11 {s : Slots} {a b : Option P} (hl : s.length = 11) (h0 : s[0]? = some a) (h1 : s[1]? = some b) : ∃ o2 o3 o4 o5 o6 o7 o8 o9 o10, s = [a, b, o2, o3, o4, o5, o6, o7, o8, o9, o10] := by
  match s, hl with
  | [x0, x1, x2, x3, x4, x5, x6, x7, x8, x9, x10], _ =>
    cases h0; cases h1
    exact ⟨_, _, _, _, _, _, _, _, _, rfl⟩
theorem law_true (ns : List Int) (hl : ns.length ≤ 63) (hb : ∀ z ∈ ns, Builtin.Int.intBits z ≤ 1048576) : ∃ h, callN G 18446744073709551616 60 d_f_law.g [.kls (ns.map .int)] [] = .ok (.bl true) h := by
  have hP := hasHouse.pen
  suffices Ret (callN G W0 (59 + 1) 9 [.kls (ns.map .int)] []) fun v _ => v = .bl true by
    obtain ⟨v, h, e, rfl⟩ := this
    exact ⟨h, e⟩
  rw [call_fn (f := f_law) rfl]
  refine run_ret rfl ?_
  unfold f_law
  show Ret (ev (k := .s) C0 _ () [some (.kls (ns.map .int)), none, none, none, none, none, none, none, none, none, none] []) _
  bv_omega
  refine (pen_spec (W := W0) (d := 58) hP hl hb).imp fun v h0 ⟨e, p0⟩ => ?_
  subst e
  refine r_gnm (r_for (r_irng ?_))
  refine r_turns (a := 3) (b := 6) (by decide) rfl fun m hm2 hm5 => ⟨m, rfl, by omega, by omega, ?_⟩
  refine (ret_forL (I := fun i s h => s.length = 11 ∧ s[0]? = some (some (.kls (ns.map .int))) ∧ s[1]? = some (some (.ref 2)) ∧ Pen h (5000 * i)) _ (fun _ _ _ _ => rfl) ?_ ⟨rfl, rfl, rfl, p0⟩).imp fun r h ⟨e, l1, l2, l3, pE⟩ => .inl ⟨e, ?_⟩
  · rintro i p s h hp ⟨l1, l2, l3, p1⟩
    obtain ⟨hi, rfl⟩ := range_item hp
    obtain ⟨o2, o3, o4, o5, o6, o7, o8, o9, o10, rfl⟩ := len11 l1 l2 l3
    refine Ret.bind ?_
    bv_omega
    refine (small_house_spec (W := W0) (d := 50) hasHouse rfl p1 (by omega)).imp fun v h2 ⟨⟨H, e, hok, hz5, txH⟩, p2, _⟩ => ?_
    subst e
    obtain ⟨hz, hc4⟩ := L5_ok hz5
    have hc8 : (contL H.zs).length ≤ 8 := by omega
    obtain ⟨cok, casc, c0, _⟩ := cont_ok hz
    bv_omega
    refine (set_spec (G := G) (W := W0) (d := 56) hP rfl rfl hz p2 (by omega)).imp fun v h5 ⟨⟨cs, e, cne, csub⟩, p5, k5⟩ => ?_
    subst e
    have cg : Good H.zs cs := Good.sub ⟨cok, casc⟩ csub
    have ag : Good H.zs (contL H.zs) := ⟨cok, casc⟩
    have cl8 : cs.length ≤ 8 := Nat.le_trans csub.length_le hc8
    bv_omega
    refine (events_spec (G := G) (W := W0) (d := 56) hP rfl hok (m := 5) p5 (by omega) (by decide)).imp fun v h6 ⟨⟨is, e, il, hi5⟩, p6, k6⟩ => ?_
    subst e
    have lg := leftL_good hok hi5 cg
    have txL : Tx (.tup ((leftL H cs is).map encR)) 4202 2 := cts_tx hz lg.ct (by have := lg.len; omega)
    obtain ⟨told, hrep⟩ := repr_p txL (by decide) (by decide) rfl
    refine r_nil (len_ok rfl (r_gtup rfl (r_gcons (r_gnm (r_gcons (r_gnm (r_gnil ?_)))))))
    refine toV (Ψ := fun fl σ => fl = .nx ∧ ∃ es : List Sl, es.length = 9 ∧ σ = ⟨.sh (.p (.kls (ns.map .int))) :: .sh (.p (.ref 2)) :: es, none⟩) ?_ fun f s' h' fl σ' As g pp ⟨e1, es, e2, e3⟩ => ?_
    rotate_left
    · subst e1 e3
      obtain ⟨e4, k⟩ := pp
      refine ⟨e4, by rw [k.len]; simp [e2], slot_p k rfl, slot_p k rfl, (g.pen p6).mono (by omega)⟩
    show RunS C0 _ ⟨[.sh (.p (.kls (ns.map .int))), .sh (.p (.ref 2)), .sh (.p (.int (0 + (i : Int)))), .sh (.p H.enc), .sh (.p (.tup (cs.map encR))), .sh (.p (.tup (is.map Itm.enc))), slV o6, slV o7, slV o8, slV o9, slV o10], none⟩ _
    have n9 := nOw_slV o9
    have n10 := nOw_slV o10
    generalize slV o6 = e6; generalize slV o7 = e7; generalize slV o8 = e8; generalize slV o9 = e9 at n9 ⊢; generalize slV o10 = e10 at n10 ⊢
    have kn : ∀ {ds : List (List Int)}, Good H.zs ds → CallR (callN G W0 59 32) none [.p H.enc, .p (.tup (ds.map encR)), .p (.tup (is.map Itm.enc))] fun fr v _ => fr = false ∧ v = .p (.tup ((leftL H ds is).map encR)) := fun g => callR_P (fun h => known_after_spec hasKnown (d := 49) hok hc8 hi5 g) rfl
    and_intros
    refine x_callS (kn cg) ?_
    and_intros
    refine x_blt hrep ?_
    and_intros
    refine x_callS (all_ends_spec (G := G) (W := W0) (d := 56) rfl rfl rfl rfl (by decide) hok hi5 il cg.ct cl8 hc8) ?_
    rw [← left_ends hok hi5 cg]
    refine x_blt hrep ?_
    and_intros
    refine if_f (by simp) (s_skip (s_asg (o_callS (a_cons (o_var rfl (a_sep (a_cons (o_blt (o_callF (a_cons (o_var rfl (a_sep (a_nil ?_)))))))))))))
    refine x_callF (contentsC (G := G) (W := W0) (d := 58) rfl hz) ?_
    and_intros
    refine x_callS (kn ag) ?_
    and_intros
    have lall : (leftL H cs is).length ≤ 100 := by have := lg.len; omega
    refine o_lcm (xs := leftL H cs is) (f := fun c => .p (encR c)) (w := fun c => .p (encR c)) (t := fun c => !decide (c ∈ leftL H (contL H.zs) is)) (i_seq (o_var rfl (x_seq rfl ⟨by rw [List.map_map]; rfl, notOw1 rfl n9, by simp only [SZ]; omega, fun c hc => ⟨_, tg_nm (by simp), ?_⟩, ?_⟩)))
    · and_intros
      refine x_cmp nin_rows ⟨rfl, rfl, fun _ => ?_⟩
      and_intros
      exact ⟨rfl, rfl⟩
    have enil : (leftL H cs is).filter (fun c => !decide (c ∈ leftL H (contL H.zs) is)) = [] := by
      rw [List.filter_eq_nil_iff]
      intro c hc
      simp [left_sub (fun c hc => csub.subset hc) c hc]
    rw [enil]
    and_intros
    refine x_cmp (cmp_neN (n := 1) (by decide) (f := fun c : List Int => encR c) (xs := []) rfl) (if_f (by simp) ?_)
    refine s_skip (s_asg (o_lcM cs (fun c => .p (encR c)) (fun c => .p (.tup ((leftL H [c] is).map encR))) (i_seq (o_var rfl (x_seq rfl ⟨by rw [List.map_map]; rfl, notOw1 rfl n9, by simp only [SZ]; omega, fun c hc => ⟨_, tg_nm (by simp), ?_⟩, ?_⟩)))))
    · and_intros
      refine x_callS (kn (ds := [c]) ⟨fun y hy => by rw [List.mem_singleton.mp hy]; exact cg.ct c hc, List.pairwise_singleton _ _⟩) ?_
      exact ⟨rfl, rfl⟩
    refine g_nmS ?_
    show RunS C0 _ ⟨[.sh (.p (.kls (ns.map .int))), .sh (.p (.ref 2)), .sh (.p (.int (0 + (i : Int)))), .sh (.p H.enc), .sh (.p (.tup (cs.map encR))), .sh (.p (.tup (is.map Itm.enc))), .sh (.p (.tup ((leftL H cs is).map encR))), .sh (.p (.tup ((leftL H (contL H.zs) is).map encR))), .sh (.lst (cs.map fun c => .p (.tup ((leftL H [c] is).map encR)))), e9, e10], none⟩ _
    and_intros
    refine x_cmp (cmp_eqRT (xs := leftL H cs is) (ys := [])) ?_
    and_intros
    refine o_lcm (xs := cs) (f := fun c => .p (.tup ((leftL H [c] is).map encR))) (w := fun c => .p (.tup ((leftL H [c] is).map encR))) (t := fun c => !decide (leftL H [c] is = [])) (i_seq (o_var rfl (x_seq rfl ⟨rfl, notOw1 rfl n10, by simp only [SZ]; omega, fun c hc => ⟨_, tg_nm (by simp), ?_⟩, ?_⟩)))
    · and_intros
      refine x_cmp (cmp_neRT (xs := leftL H [c] is) (ys := [])) ⟨rfl, rfl, fun _ => ?_⟩
      and_intros
      exact ⟨rfl, rfl⟩
    and_intros
    refine x_cmp (cmp_eqN (n := 2) (by decide) (f := fun c : List Int => P.tup ((leftL H [c] is).map encR)) (plnPs_all.mpr fun p hp => by obtain ⟨y, _, rfl⟩ := List.mem_map.mp hp; simp only [plnP]; exact pln_rows _)) ?_
    refine x_cmp c_ne_bl (if_f ?_ ?_)
    · have := left_none (H := H) (cs := cs) (is := is)
      simp [this]
    and_intros
    exact ⟨rfl, _, rfl, rfl⟩
  bv_omega
  rfl
end LW
namespace LW
open PySem PySem.Spec PyProof.Rows L2 Ev
abbrev R : PySem.W.OpenRow := PySem.W.OpenLaw.row PySem.Challenge.rw_roundlooks_k92_whole_what_can_be_left
abbrev hk : PySem.W.Hook := He.hookD 4 (faOf ds blts) (heOf ds)
def ob (s : PySem.W.SharedT) : He.AlD := He.obsDG 4 (faOf ds blts) (heOf ds) (HandSHeadRun.getT s)
theorem ob_eq (s : PySem.W.SharedT) : ob s = hk.obs s.abs := He.obsDG_eq (HandSHeadRun.getT_eq s)
theorem run (w : World) : HandSHeadRun.RunEq R (PySem.W.view R.prog [28]) hk ob 4000 loose w := by
  intro os
  kernel_rfl
theorem good : ds.all (fun d => d.good (defsOf ds) [] blts) = true := by decide +kernel
end LW
open PySem PySem.W PySem.Calls PyProof.Rows
set_option maxRecDepth 100000 in
set_option maxHeartbeats 0 in
theorem PySem.Challenge.cw_roundlooks_k92_whole_what_can_be_left_holds : PySem.Challenge.rw_roundlooks_k92_whole_what_can_be_left.Holds := by
  w_on; o_law
  refine HandSHeadRun.head_any (r := OpenLaw.row PySem.Challenge.rw_roundlooks_k92_whole_what_can_be_left) (q := view (OpenLaw.row PySem.Challenge.rw_roundlooks_k92_whole_what_can_be_left).prog [28]) (H := LW.hk) (ob := LW.ob) (M := 4000) (loose := LW.loose) (d := HandSHeadRun.topDef (OpenLaw.row PySem.Challenge.rw_roundlooks_k92_whole_what_can_be_left).prog 28) (kwd := []) LW.ob_eq
    (by kernel_rfl) (fun s => by kernel_rfl) LW.run (by kernel_rfl) (by kernel_rfl) (by kernel_rfl) (by rfl) (by first | assumption | decide +kernel) (by decide +kernel) ⟨rfl, rfl, rfl, rfl, rfl, by decide +kernel⟩ ?hw ?hc
  case hw => w_witness2
  case hc =>
    exact Ev.walk_ev (l := PySem.Challenge.rw_roundlooks_k92_whole_what_can_be_left) (ds := LW.ds) (blts := LW.blts) (G := LW.G) (W := 18446744073709551616) (k := 60) (L := LW.d_f_law) (x := "_law_script") rfl (by kernel_rfl) ⟨rfl, by decide, by decide⟩ (by kernel_rfl) LW.law_in rfl
      (fun d hd => List.all_eq_true.mp LW.good d hd) LW.fns_ok LW.law_true
