import PyProof.Rows.All
import Wide.All
import OpenK.AllK
import Wide.FinOn
import HandS.ForMost
import HandS.ForExc
import HandS.TupAny
import HandS.IsInst
import HandS.Wide
import HandS.Style
import HandS.SortInts
import HandS.Conv
import HandS.WordsExc
import HandS.Defaults
import HandS.HeadHook1
import HandS.HeadHook2
import HandS.Rev
import HandS.Zip
import HandS.Small
import KE.KStateDown
import HandS.Head0
import HandS.Head1
import HandS.Head2
import HandS.HeadEnd
import PySem.Challenge.RW_broadrow_k74_timetables_told
import HandS.More
import HandS.Words
set_option Elab.async false
set_option linter.all false
set_option maxRecDepth 100000
set_option maxHeartbeats 400000
/-! The small language: data, store, syntax, evaluator. -/
namespace Mi

/-! ### data -/
inductive D where
  | non | bl (b : Bool) | int (i : Int) | str (cs : List Nat)
  | tup (xs : List D) | lst (xs : List D) | dic (ks vs : List D) | scr (ns : List Int) | ref (n : Nat)

mutual
def D.beq : D → D → Bool
  | .non, .non => true
  | .bl a, .bl b => a == b
  | .int a, .int b => a == b
  | .str a, .str b => a == b
  | .tup a, .tup b => D.beqs a b
  | .lst a, .lst b => D.beqs a b
  | .dic a c, .dic b d => D.beqs a b && D.beqs c d
  | .scr a, .scr b => a == b
  | .ref a, .ref b => a == b
  | _, _ => false
def D.beqs : List D → List D → Bool
  | [], [] => true
  | a :: as, b :: bs => D.beq a b && D.beqs as bs
  | _, _ => false
end
mutual
theorem D.beq_eq : ∀ {a b : D}, D.beq a b = true → a = b
  | .non, b, h => by cases b <;> first | rfl | cases h
  | .bl _, b, h => by cases b <;> first | (simp only [D.beq, beq_iff_eq] at h; rw [h]) | cases h
  | .int _, b, h => by cases b <;> first | (simp only [D.beq, beq_iff_eq] at h; rw [h]) | cases h
  | .str _, b, h => by cases b <;> first | (simp only [D.beq, beq_iff_eq] at h; rw [h]) | cases h
  | .tup _, b, h => by cases b <;> first | (simp only [D.beq] at h; rw [D.beqs_eq h]) | cases h
  | .lst _, b, h => by cases b <;> first | (simp only [D.beq] at h; rw [D.beqs_eq h]) | cases h
  | .dic _ _, b, h => by
    cases b <;> first
      | (simp only [D.beq, Bool.and_eq_true] at h; rw [D.beqs_eq h.1, D.beqs_eq h.2])
      | cases h
  | .scr _, b, h => by cases b <;> first | (simp only [D.beq, beq_iff_eq] at h; rw [h]) | cases h
  | .ref _, b, h => by cases b <;> first | (simp only [D.beq, beq_iff_eq] at h; rw [h]) | cases h
theorem D.beqs_eq : ∀ {a b : List D}, D.beqs a b = true → a = b
  | [], b, h => by cases b <;> first | rfl | cases h
  | _ :: _, b, h => by
    cases b <;> first
      | (simp only [D.beqs, Bool.and_eq_true] at h; rw [D.beq_eq h.1, D.beqs_eq h.2])
      | cases h
end
mutual
theorem D.beq_refl : ∀ a : D, D.beq a a = true
  | .non => rfl
  | .bl _ => by simp [D.beq]
  | .int _ => by simp [D.beq]
  | .str _ => by simp [D.beq]
  | .tup xs => by simp only [D.beq]; exact D.beqs_refl xs
  | .lst xs => by simp only [D.beq]; exact D.beqs_refl xs
  | .dic ks vs => by simp only [D.beq, Bool.and_eq_true]; exact ⟨D.beqs_refl ks, D.beqs_refl vs⟩
  | .scr _ => by simp [D.beq]
  | .ref _ => by simp [D.beq]
theorem D.beqs_refl : ∀ a : List D, D.beqs a a = true
  | [] => rfl
  | x :: xs => by simp only [D.beqs, Bool.and_eq_true]; exact ⟨D.beq_refl x, D.beqs_refl xs⟩
end
instance : DecidableEq D := fun a b =>
  if h : D.beq a b = true then isTrue (D.beq_eq h) else isFalse fun e => h (by rw [e]; exact D.beq_refl b)

/-- Python's ==, of data without references and dicts -/
def bi (b : Bool) : Int := if b then 1 else 0
mutual
def D.eqv : D → D → Bool
  | .non, .non => true
  | .bl a, .bl b => a == b
  | .bl a, .int b => bi a == b
  | .int a, .bl b => a == bi b
  | .int a, .int b => a == b
  | .str a, .str b => a == b
  | .tup a, .tup b => D.eqvs a b
  | .lst a, .lst b => D.eqvs a b
  | _, _ => false
def D.eqvs : List D → List D → Bool
  | [], [] => true
  | a :: as, b :: bs => D.eqv a b && D.eqvs as bs
  | _, _ => false
end
/-! no references, no dicts, no deeper than n -/
mutual
def D.plain : Nat → D → Bool
  | _, .non => true
  | _, .bl _ => true
  | _, .int _ => true
  | _, .str cs => cs.all fun c => decide (c < 1114112)
  | 0, .tup _ => false
  | 0, .lst _ => false
  | n + 1, .tup xs => D.plains n xs
  | n + 1, .lst xs => D.plains n xs
  | _, _ => false
def D.plains : Nat → List D → Bool
  | _, [] => true
  | n, x :: xs => D.plain n x && D.plains n xs
end

/-- a factor that is not too wide -/
def wide (i : Int) : Bool := decide (i.natAbs < 18446744073709551616)
/-! as the library's data -/
mutual
def toPy : D → PySem.PyData
  | .bl b => .bool b
  | .int i => .int i
  | .str cs => .str ⟨cs.toArray⟩
  | .tup xs => .tuple (toPys xs)
  | .lst xs => .list (toPys xs)
  | _ => .none
def toPys : List D → List PySem.PyData
  | [] => []
  | x :: xs => toPy x :: toPys xs
end
/-! no int that is too wide to be shown -/
mutual
def D.shows : D → Bool
  | .int i => wide i
  | .tup xs => D.showsL xs
  | .lst xs => D.showsL xs
  | _ => true
def D.showsL : List D → Bool
  | [] => true
  | x :: xs => D.shows x && D.showsL xs
end
/-- what repr shows -/
def reprOf (d : D) : List Nat := (toPy d).shown.cps.toList

/-! ### the store -/
inductive Obj where
  | lst (xs : List D)
  | dic (ks vs : List D)
  | ins (c : Nat) (fs : List (Nat × D))
abbrev Store := List Obj
instance : DecidableEq Obj := fun a b => match a, b with
  | .lst xs, .lst ys => if h : xs = ys then isTrue (by rw [h]) else isFalse (fun e => h (by injection e))
  | .dic k v, .dic k' v' => if h : k = k' ∧ v = v' then isTrue (by rw [h.1, h.2]) else isFalse (fun e => h (by injection e with a b; exact ⟨a, b⟩))
  | .ins c f, .ins c' f' => if h : c = c' ∧ f = f' then isTrue (by rw [h.1, h.2]) else isFalse (fun e => h (by injection e with a b; exact ⟨a, b⟩))
  | .lst _, .dic _ _ => isFalse nofun
  | .lst _, .ins _ _ => isFalse nofun
  | .dic _ _, .lst _ => isFalse nofun
  | .dic _ _, .ins _ _ => isFalse nofun
  | .ins _ _, .lst _ => isFalse nofun
  | .ins _ _, .dic _ _ => isFalse nofun

/-! all references below n -/
mutual
def D.low (n : Nat) : D → Bool
  | .ref k => decide (k < n)
  | .tup xs => D.lows n xs
  | .lst xs => D.lows n xs
  | .dic ks vs => D.lows n ks && D.lows n vs
  | _ => true
def D.lows (n : Nat) : List D → Bool
  | [] => true
  | x :: xs => D.low n x && D.lows n xs
end
def Obj.low (n : Nat) : Obj → Bool
  | .lst xs => D.lows n xs
  | .dic ks vs => D.lows n ks && D.lows n vs
  | .ins _ fs => D.lows n (fs.map (·.2))
def lowS (n : Nat) (S : Store) : Bool := S.all (Obj.low n)

/-- all there -/
def optList {α : Type} : List (Option α) → Option (List α)
  | [] => some []
  | none :: _ => none
  | some x :: r => match optList r with
    | some l => some (x :: l)
    | none => none
/-- one step of freezing -/
def frzStep (f : D → Option D) (S : Store) : D → Option D
  | .tup xs => (optList (xs.map f)).map .tup
  | .lst xs => (optList (xs.map f)).map .lst
  | .dic ks vs => (match optList (ks.map f), optList (vs.map f) with
    | some a, some b => some (.dic a b)
    | _, _ => none)
  | .ref r => (match S[r]? with
    | some (.lst xs) => (optList (xs.map f)).map .lst
    | some (.dic ks vs) => (match optList (ks.map f), optList (vs.map f) with
      | some a, some b => some (.dic a b)
      | _, _ => none)
    | _ => none)
  | d => some d
/-- a value with the lists and dicts from n0 on put in by value; the fuel: how deep -/
def frzD (n0 : Nat) (S : Store) : Nat → D → Option D
  | 0, d => if d.low n0 then some d else none
  | k + 1, d => if d.low n0 then some d else frzStep (frzD n0 S k) S d
/-- how deep a freezing goes -/
def deepest : Nat := 64

/-! ### outcomes -/
inductive Rs (α : Type) where
  | ok (a : α) (S : Store)
  | exc (c : Nat) (fs : List (Nat × D)) (S : Store)
  | bad
def Rs.bind {α β : Type} (r : Rs α) (f : α → Store → Rs β) : Rs β := match r with
  | .ok a S => f a S
  | .exc c fs S => .exc c fs S
  | .bad => .bad
@[simp] theorem Rs.bind_ok {α β : Type} (a : α) (S : Store) (f : α → Store → Rs β) : (Rs.ok a S).bind f = f a S := rfl
@[simp] theorem Rs.bind_exc {α β : Type} (c : Nat) (fs : List (Nat × D)) (S : Store) (f : α → Store → Rs β) : (Rs.exc c fs S).bind f = .exc c fs S := rfl
@[simp] theorem Rs.bind_bad {α β : Type} (f : α → Store → Rs β) : (Rs.bad : Rs α).bind f = .bad := rfl
def Rs.of {α : Type} (o : Option α) (S : Store) : Rs α := match o with
  | some a => .ok a S
  | none => .bad

abbrev Env := List (Option D)
inductive RsS where
  | nx (r : Env) (S : Store) | bk (r : Env) (S : Store) | ct (r : Env) (S : Store) | rt (d : D) (r : Env) (S : Store)
  | exc (c : Nat) (fs : List (Nat × D)) (r : Env) (S : Store)
  | bad
/-- behind an expression -/
def Rs.thenS (r : Rs D) (e : Env) (f : D → Store → RsS) : RsS := match r with
  | .ok a S => f a S
  | .exc c fs S => .exc c fs e S
  | .bad => .bad
def Rs.thenB (r : Rs Bool) (e : Env) (f : Bool → Store → RsS) : RsS := match r with
  | .ok a S => f a S
  | .exc c fs S => .exc c fs e S
  | .bad => .bad
@[simp] theorem Rs.thenS_ok (a : D) (S : Store) (e : Env) (f : D → Store → RsS) : (Rs.ok a S).thenS e f = f a S := rfl
@[simp] theorem Rs.thenS_exc (c : Nat) (fs : List (Nat × D)) (S : Store) (e : Env) (f : D → Store → RsS) : (Rs.exc c fs S).thenS e f = .exc c fs e S := rfl
@[simp] theorem Rs.thenB_ok (a : Bool) (S : Store) (e : Env) (f : Bool → Store → RsS) : (Rs.ok a S).thenB e f = f a S := rfl
@[simp] theorem Rs.thenB_exc (c : Nat) (fs : List (Nat × D)) (S : Store) (e : Env) (f : Bool → Store → RsS) : (Rs.exc c fs S).thenB e f = .exc c fs e S := rfl
def RsS.seq (r : RsS) (f : Env → Store → RsS) : RsS := match r with
  | .nx e S => f e S
  | .bk e S => .bk e S
  | .ct e S => .ct e S
  | .rt d e S => .rt d e S
  | .exc c fs e S => .exc c fs e S
  | .bad => .bad
@[simp] theorem RsS.seq_nx (e : Env) (S : Store) (f : Env → Store → RsS) : (RsS.nx e S).seq f = f e S := rfl
@[simp] theorem RsS.seq_bk (e : Env) (S : Store) (f : Env → Store → RsS) : (RsS.bk e S).seq f = .bk e S := rfl
@[simp] theorem RsS.seq_ct (e : Env) (S : Store) (f : Env → Store → RsS) : (RsS.ct e S).seq f = .ct e S := rfl
@[simp] theorem RsS.seq_rt (d : D) (e : Env) (S : Store) (f : Env → Store → RsS) : (RsS.rt d e S).seq f = .rt d e S := rfl
@[simp] theorem RsS.seq_exc (c : Nat) (fs : List (Nat × D)) (e : Env) (S : Store) (f : Env → Store → RsS) : (RsS.exc c fs e S).seq f = .exc c fs e S := rfl

/-! ### the library's lines -/
/-- the greatest length of a list -/
def line : Nat := 16777216
/-- how deep data are compared -/
def eqDepth : Nat := 60

/-- what a value's items are, and whether the list stands in the store -/
def items (S : Store) : D → Option (List D)
  | .lst xs => some xs
  | .tup xs => some xs
  | .scr ns => some (ns.map .int)
  | .ref r => match S[r]? with
    | some (.lst xs) => some xs
    | _ => none
  | _ => none
def intsOf : List D → Option (List Int)
  | [] => some []
  | .int i :: r => (match intsOf r with
    | some l => some (i :: l)
    | none => none)
  | _ => none
def boolsOf : List D → Option (List Bool)
  | [] => some []
  | .bl i :: r => (match boolsOf r with
    | some l => some (i :: l)
    | none => none)
  | _ => none
/-- a new list: by value, or in the store -/
def newL (m : Bool) (xs : List D) (S : Store) : Rs D :=
  if xs.length ≤ line then (if m then .ok (.ref S.length) (S ++ [.lst xs]) else .ok (.lst xs) S) else .bad
def newT (xs : List D) (S : Store) : Rs D := if xs.length ≤ line then .ok (.tup xs) S else .bad
/-- the value, all by value, to be compared or shown -/
def flatD (S : Store) (d : D) : Option D := match frzD 0 S deepest d with
  | some v => if v.plain eqDepth then some v else none
  | none => none
/-- a place counted from the end, too -/
def place (n : Nat) (i : Int) : Option Nat := if 0 ≤ i then (if i < n then some i.toNat else none) else if -(n : Int) ≤ i then some (i + n).toNat else none
/-- a bound of a slice -/
def bound (n dflt : Nat) : Option Int → Nat
  | none => dflt
  | some v => if v < 0 then (v + n).toNat else min v.toNat n
def cutL {α : Type} (xs : List α) (lo hi : Option Int) : List α := (xs.drop (bound xs.length 0 lo)).take (bound xs.length xs.length hi - bound xs.length 0 lo)


/-! ### operations -/
inductive B1 where
  | len | sum | max | all | abs | int | neg | str | rep | list (m : Bool) | tup | sort | dict (m : Bool) | sset | lset | range (m : Bool)
  | isT (ts : List Nat) | fld (f : Nat) | pop | clear
  deriving DecidableEq
inductive B2 where
  | add (m : Bool) | sub | mul (m : Bool) | div | mod | pow
  | eq | ne | lt | le | gt | ge | is | isn | inn | nin
  | ix | ixd | ind | nid | ins | nis | app | ext | popa | rem | cnt | idx | get | split | join | min | max | rng (m : Bool)
  deriving DecidableEq
/-- None 0, a truth 1, an int 2, a text 3, a tuple 4, a list 5, a dict 6, an instance 7 -/
def tyOf (S : Store) : D → Option Nat
  | .non => some 0
  | .bl _ => some 1
  | .int _ => some 2
  | .str _ => some 3
  | .tup _ => some 4
  | .lst _ => some 5
  | .scr _ => some 5
  | .dic _ _ => some 6
  | .ref r => match S[r]? with
    | some (.lst _) => some 5
    | some (.dic _ _) => some 6
    | _ => none
def isTy (ts : List Nat) (t : Nat) : Bool := ts.contains t || (t == 1 && ts.contains 2)
def isNon : D → Bool
  | .non => true
  | _ => false
def scalar : D → Bool
  | .non => true
  | .bl _ => true
  | .int _ => true
  | .str _ => true
  | _ => false
/-- a key of a dict: an int, a text -/
def keyOk : D → Bool
  | .int _ => true
  | .str _ => true
  | _ => false
def dget (k : D) (ks vs : List D) : Option D := ((ks.zip vs).find? fun p => decide (p.1 = k)).map (·.2)
def dput (k v : D) (ks vs : List D) : List D × List D :=
  if ks.any (fun a => decide (a = k)) then (ks, (ks.zip vs).map fun p => if p.1 = k then v else p.2) else (ks ++ [k], vs ++ [v])
/-- a dict's keys and values -/
def dictOf (S : Store) : D → Option (List D × List D)
  | .dic ks vs => some (ks, vs)
  | .ref r => match S[r]? with
    | some (.dic ks vs) => some (ks, vs)
    | _ => none
  | _ => none
/-- sorting of ints -/
def insI (x : Int) : List Int → List Int
  | [] => [x]
  | y :: r => if x ≤ y then x :: y :: r else y :: insI x r
def sortI : List Int → List Int
  | [] => []
  | x :: r => insI x (sortI r)
def maxI : List Int → Option Int
  | [] => none
  | x :: r => match maxI r with
    | none => some x
    | some y => some (if x < y then y else x)
/-- a field -/
def fget (f : Nat) : List (Nat × D) → Option D
  | [] => none
  | (g, v) :: r => if g = f then some v else fget f r
def fput (f : Nat) (v : D) : List (Nat × D) → List (Nat × D)
  | [] => [(f, v)]
  | (g, w) :: r => if g = f then (f, v) :: r else (g, w) :: fput f v r
def lenD (S : Store) : D → Option Nat
  | .str cs => if cs.length ≤ line then some cs.length else none
  | d => match items S d with
    | some xs => some xs.length
    | none => (match dictOf S d with
      | some (ks, _) => some ks.length
      | none => none)
def natI (n : Nat) : D := .int (n : Int)
def rangeD (lo hi : Int) : List D := (List.range (hi - lo).toNat).map fun i => .int (lo + (i : Nat))
def evList (m : Bool) (d : D) (S : Store) : Rs D := match items S d with
  | some xs => newL m xs S
  | none => .bad
def setObj (r : Nat) (o : Obj) (d : D) (S : Store) : Rs D := .ok d (S.set r o)

def ev1 (o : B1) (d : D) (S : Store) : Rs D := match o with
  | .len => (match lenD S d with
    | some n => .ok (natI n) S
    | none => .bad)
  | .sum => (match d with
    | .tup _ => .bad
    | _ => (match items S d with
      | some xs => (match intsOf xs with
        | some ns => .ok (.int ns.sum) S
        | none => .bad)
      | none => .bad))
  | .max => (match d with
    | .tup _ => .bad
    | _ => (match items S d with
      | some xs => (match intsOf xs with
        | some ns => (match maxI ns with
          | some m => .ok (.int m) S
          | none => .bad)
        | none => .bad)
      | none => .bad))
  | .all => (match d with
    | .tup _ => .bad
    | _ => (match items S d with
      | some xs => (match boolsOf xs with
        | some bs => .ok (.bl (bs.all id)) S
        | none => .bad)
      | none => .bad))
  | .abs => (match d with
    | .int i => .ok (.int (if i < 0 then -i else i)) S
    | _ => .bad)
  | .int => (match d with
    | .int i => .ok (.int i) S
    | .bl b => .ok (.int (if b then 1 else 0)) S
    | _ => .bad)
  | .neg => (match d with
    | .int i => .ok (.int (-i)) S
    | _ => .bad)
  | .list m => evList m d S
  | .tup => (match d with
    | .scr _ => .bad
    | .lst xs => newT xs S
    | .tup xs => .ok (.tup xs) S
    | _ => (match items S d with
      | some xs => newT xs S
      | none => .bad))
  | .sort => (match d with
    | .tup _ => .bad
    | _ => (match items S d with
      | some xs => (match intsOf xs with
        | some ns => .ok (.lst ((sortI ns).map .int)) S
        | none => .bad)
      | none => .bad))
  | .rep => (match flatD S d with
    | some v => if v.shows = true ∧ (reprOf v).length + 64 ≤ line then .ok (.str (reprOf v)) S else .bad
    | none => .bad)
  | .range m => (match d with
    | .int i => if -1000000000000 ≤ i ∧ i ≤ 16777216 then newL m (rangeD 0 i) S else .bad
    | _ => .bad)
  | .isT ts => (match tyOf S d with
    | some t => .ok (.bl (isTy ts t)) S
    | none => .bad)
  | .fld f => (match d with
    | .ref r => (match S[r]? with
      | some (.ins _ fs) => (match fget f fs with
        | some v => .ok v S
        | none => .bad)
      | _ => .bad)
    | _ => .bad)
  | .pop => (match d with
    | .ref r => (match S[r]? with
      | some (.lst xs) => (match xs.getLast? with
        | some y => .ok y (S.set r (.lst xs.dropLast))
        | none => .bad)
      | _ => .bad)
    | _ => .bad)
  | .clear => (match d with
    | .ref r => (match S[r]? with
      | some (.lst _) => .ok .non (S.set r (.lst []))
      | _ => .bad)
    | _ => .bad)
  | _ => .bad

def evAdd (m : Bool) (a b : D) (S : Store) : Rs D := match a with
  | .int i => (match b with
    | .int j => .ok (.int (i + j)) S
    | _ => .bad)
  | .str x => (match b with
    | .str y => if x.length + y.length ≤ line then .ok (.str (x ++ y)) S else .bad
    | _ => .bad)
  | .tup x => (match b with
    | .tup y => newT (x ++ y) S
    | _ => .bad)
  | .scr _ => .bad
  | _ => (match b with
    | .tup _ => .bad
    | .scr _ => .bad
    | _ => (match items S a, items S b with
      | some x, some y => newL m (x ++ y) S
      | _, _ => .bad))
def cmpI (f : Int → Int → Bool) (a b : D) (S : Store) : Rs D := match a with
  | .int i => (match b with
    | .int j => .ok (.bl (f i j)) S
    | _ => .bad)
  | _ => .bad
def strEq (a b : D) : Option Bool := match a, b with
  | .str x, .str y => some (x == y)
  | _, _ => none
def evEq (neg : Bool) (a b : D) (S : Store) : Rs D := match strEq a b with
  | some t => .ok (.bl (if neg then !t else t)) S
  | none => (match flatD S a, flatD S b with
    | some x, some y => .ok (.bl (if neg then !(D.eqv x y) else D.eqv x y)) S
    | _, _ => .bad)
def evIn (neg : Bool) (a b : D) (S : Store) : Rs D := match items S b with
  | some xs => if scalar a && xs.all scalar then .ok (.bl (if neg then !(xs.any fun y => D.eqv y a) else xs.any fun y => D.eqv y a)) S else .bad
  | none => .bad
def evInD (neg : Bool) (a b : D) (S : Store) : Rs D := match dictOf S b with
  | some (ks, vs) => if keyOk a then .ok (.bl (if neg then !(dget a ks vs).isSome else (dget a ks vs).isSome)) S else .bad
  | none => .bad
def evInS (neg : Bool) (a b : D) (S : Store) : Rs D := match a with
  | .str [c] => (match b with
    | .str cs => .ok (.bl (if neg then !(cs.contains c) else cs.contains c)) S
    | _ => .bad)
  | _ => .bad
def evIx (a b : D) (S : Store) : Rs D := match b with
  | .int i => (match a with
    | .str cs => if cs.length ≤ line then (match place cs.length i with
      | some k => (match cs[k]? with
        | some c => .ok (.str [c]) S
        | none => .bad)
      | none => .bad) else .bad
    | _ => (match items S a with
      | some xs => (match place xs.length i with
        | some k => (match xs[k]? with
          | some v => .ok v S
          | none => .bad)
        | none => .bad)
      | none => .bad))
  | _ => .bad
def evIxD (a b : D) (S : Store) : Rs D := match dictOf S a with
  | some (ks, vs) => if keyOk b then (match dget b ks vs with
    | some v => .ok v S
    | none => .bad) else .bad
  | none => .bad

def ev2 (o : B2) (a b : D) (S : Store) : Rs D := match o with
  | .add m => evAdd m a b S
  | .sub => (match a with
    | .int i => (match b with
      | .int j => .ok (.int (i - j)) S
      | _ => .bad)
    | _ => .bad)
  | .mul m => (match a with
    | .int i => (match b with
      | .int j => if wide i || wide j then .ok (.int (i * j)) S else .bad
      | _ => .bad)
    | .lst xs => (match b with
      | .int j => if 0 ≤ j ∧ j ≤ 16777216 then newL m (List.replicate j.toNat xs).flatten S else .bad
      | _ => .bad)
    | _ => .bad)
  | .div => (match a with
    | .int i => (match b with
      | .int j => if 0 < j ∧ j < 1000000000000000000000000 then .ok (.int (i / j)) S else .bad
      | _ => .bad)
    | _ => .bad)
  | .mod => (match a with
    | .int i => (match b with
      | .int j => if 0 < j then .ok (.int (i % j)) S else .bad
      | _ => .bad)
    | _ => .bad)
  | .pow => (match a with
    | .int i => (match b with
      | .int j => if 0 ≤ j ∧ j ≤ 1000 ∧ wide i then .ok (.int (i ^ j.toNat)) S else .bad
      | _ => .bad)
    | _ => .bad)
  | .eq => evEq false a b S
  | .ne => evEq true a b S
  | .lt => cmpI (fun i j => decide (i < j)) a b S
  | .le => cmpI (fun i j => decide (i ≤ j)) a b S
  | .gt => cmpI (fun i j => decide (j < i)) a b S
  | .ge => cmpI (fun i j => decide (j ≤ i)) a b S
  | .is => (match b with
    | .non => .ok (.bl (isNon a)) S
    | _ => .bad)
  | .isn => (match b with
    | .non => .ok (.bl (!isNon a)) S
    | .bl c => (match a with
      | .bl d => .ok (.bl (d != c)) S
      | _ => .bad)
    | _ => .bad)
  | .inn => evIn false a b S
  | .nin => evIn true a b S
  | .ix => evIx a b S
  | .ixd => evIxD a b S
  | .ind => evInD false a b S
  | .nid => evInD true a b S
  | .ins => evInS false a b S
  | .nis => evInS true a b S
  | .app => (match a with
    | .ref r => (match S[r]? with
      | some (.lst xs) => if xs.length < line then .ok .non (S.set r (.lst (xs ++ [b]))) else .bad
      | _ => .bad)
    | _ => .bad)
  | .popa => (match a with
    | .ref r => (match S[r]? with
      | some (.lst xs) => (match b with
        | .int i => if 0 ≤ i ∧ i < xs.length then (match xs[i.toNat]? with
          | some y => .ok y (S.set r (.lst (xs.eraseIdx i.toNat)))
          | none => .bad) else .bad
        | _ => .bad)
      | _ => .bad)
    | _ => .bad)
  | .min => (match a with
    | .int i => (match b with
      | .int j => .ok (.int (if j < i then j else i)) S
      | _ => .bad)
    | _ => .bad)
  | .max => (match a with
    | .int i => (match b with
      | .int j => .ok (.int (if j > i then j else i)) S
      | _ => .bad)
    | _ => .bad)
  | _ => .bad

/-! ### syntax -/
inductive Tg where
  | nm (i : Nat) | tp (is : List Nat)
  deriving DecidableEq
mutual
inductive E where
  | var (i : Nat) | lit (d : D) | cst (d : D)
  | tup (es : Es) | lst (m : Bool) (es : Es)
  | b1 (o : B1) (a : E) | b2 (o : B2) (a b : E) | m2 (o : B2) (a b : E)
  | slc (m : Bool) (a : E) (lo hi : Option Unit) (l h : E)
  | chn (o o' : B2) (a b c : E)
  | and (a b : E) | or (a b : E) | not (a : E) | ite (c a b : E)
  | call (f : Nat) (es : Es) | mk (c : Nat) (es : Es) | meth (m : Nat) (o : E) (es : Es)
  | comp (m : Bool) (e : E) (t : Tg) (src : Src) (cond : Option Unit) (c : E) (own : List Nat)
  | dict (m : Bool)
inductive Es where
  | nil | cons (e : E) (es : Es)
inductive Src where
  | it (e : E) | rng1 (a : E) | rng2 (a b : E) | enum (e : E) | zip (a b : E) | rev (e : E) | its (e : E)
end
mutual
inductive St where
  | asg (i : Nat) (e : E) | asgT (is : List Nat) (e : E) | asgF (o : E) (f : Nat) (e : E) | asgI (o i : E) (e : E) | asgD (o i : E) (e : E)
  | ex (e : E) | ret (e : E) | retN | ite (c : E) (a b : Sts) | for (t : Tg) (src : Src) (b : Sts) | while (c : E) (b : Sts)
  | raise (c : Nat) (es : Es) | tryS (b : Sts) (cs : List Nat) (slot : Option Nat) (h : Sts)
  | pass | brk | cont | frv (i : Nat)
inductive Sts where
  | nil | cons (s : St) (ss : Sts)
end

/-! ### the evaluator -/
structure Cfg where
  call : Nat → List D → Store → Rs D
  make : Nat → List D → Store → Rs D
  meth : Nat → Nat → Option Nat
  w : Nat
def setT : Tg → D → Env → Option Env
  | .nm i, d, r => if i < r.length then some (r.set i (some d)) else none
  | .tp is, .tup xs, r => if xs.length = is.length ∧ is.all (fun i => decide (i < r.length)) then some ((is.zip xs).foldl (fun r p => r.set p.1 (some p.2)) r) else none
  | _, _, _ => none
def wipeE (r : Env) : List Nat → Env
  | [] => r
  | v :: vs => (wipeE r vs).set v none
/-- what a walk leans on: lists in the store that stay as they are -/
abbrev Guard := List (Nat × List D)
def stands (g : Guard) (S : Store) : Bool := g.all fun p => decide (S[p.1]? = some (.lst p.2))
def guardOf (d : D) (xs : List D) : Guard := match d with
  | .ref r => [(r, xs)]
  | _ => []
/-- a comprehension's turns: the list that is made stands at n -/
def compLoop (g : Guard) (n : Nat) (f : D → Store → Rs (Option D)) : List D → Store → Rs Unit
  | [], S => if stands g S then .ok () S else .bad
  | x :: xs, S => if stands g S then (f x S).bind fun o S' => match o with
    | some y => (match S'[n]? with
      | some (.lst acc) => if acc.length < line then compLoop g n f xs (S'.set n (.lst (acc ++ [y]))) else .bad
      | _ => .bad)
    | none => compLoop g n f xs S' else .bad
/-- a comprehension's turn -/
def compItem (z : Rs D) : Rs (Option D) := match z with
  | .ok d S => .ok (some d) S
  | _ => .bad
def compBody (t : Tg) (cond : Option Unit) (fm fc : Env → Store → Rs D) (r : Env) (x : D) (S : Store) : Rs (Option D) := match setT t x r with
  | some r' => (match cond with
    | none => compItem (fm r' S)
    | some _ => (match fc r' S with
      | .ok (.bl true) S' => compItem (fm r' S')
      | .ok (.bl false) S' => .ok none S'
      | _ => .bad))
  | none => .bad
/-- whether what stood at the entry leans on nothing newer -/
def cleanS (S0 S : Store) : Bool := decide (S0.length ≤ S.length) && (S0.zip S).all fun p => decide (p.1 = p.2) || p.2.low S0.length
def freezeR (S0 : Store) (d : D) (S : Store) : Rs D := if cleanS S0 S then (match frzD S0.length S deepest d with
  | some v => .ok v (S.take S0.length)
  | none => .bad) else .bad
def forLoop (g : Guard) (f : D → Env → Store → RsS) : List D → Env → Store → RsS
  | [], r, S => if stands g S then .nx r S else .bad
  | x :: xs, r, S => if stands g S then (match f x r S with
    | .nx r' S' => forLoop g f xs r' S'
    | .ct r' S' => forLoop g f xs r' S'
    | .bk r' S' => .nx r' S'
    | .rt d r' S' => .rt d r' S'
    | .exc c fs r' S' => .exc c fs r' S'
    | .bad => .bad) else .bad
def whileLoop (t : Env → Store → Rs Bool) (f : Env → Store → RsS) : Nat → Env → Store → RsS
  | 0, _, _ => .bad
  | k + 1, r, S => (t r S).thenB r fun b S' => if b then (match f r S' with
    | .nx r' S'' => whileLoop t f k r' S''
    | .ct r' S'' => whileLoop t f k r' S''
    | .bk r' S'' => .nx r' S''
    | .rt d r' S'' => .rt d r' S''
    | .exc c fs r' S'' => .exc c fs r' S''
    | .bad => .bad) else .nx r S'
def newD (m : Bool) (ks vs : List D) (S : Store) : Rs D := if m then .ok (.ref S.length) (S ++ [.dic ks vs]) else .ok (.dic ks vs) S
/-- truth: of truths alone -/
def truth : D → Option Bool
  | .bl b => some b
  | _ => none
def freezeV (n0 : Nat) (i : Nat) (r : Env) (S : Store) : RsS := match r[i]? with
  | some (some (.ref k)) => if n0 ≤ k ∧ lowS k (S.take k) = true ∧ (r.set i none).all (fun o => match o with
      | some d => d.low k
      | none => true) = true then (match frzD k S deepest (.ref k) with
      | some d => .nx (r.set i (some d)) (S.take k)
      | none => .bad) else .bad
  | _ => .bad
def toI (d : D) (S : Store) : Rs (Option Int) := match d with
  | .int i => .ok (some i) S
  | _ => .bad
def evSlice (m : Bool) (a : D) (lo hi : Option Int) (S : Store) : Rs D := match a with
  | .str cs => if cs.length ≤ line then .ok (.str (cutL cs lo hi)) S else .bad
  | .tup xs => .ok (.tup (cutL xs lo hi)) S
  | _ => match items S a with
    | some xs => newL m (cutL xs lo hi) S
    | none => .bad
/-- the items of a list, no tuple -/
def itemsL (S : Store) : D → Option (List D)
  | .tup _ => none
  | d => items S d
def strItems : D → Option (List D)
  | .str cs => some (cs.map fun c => .str [c])
  | _ => none
def isRef : D → Option Nat
  | .ref r => some r
  | _ => none
def insOf (S : Store) (d : D) : Option (Nat × Nat × List (Nat × D)) := match d with
  | .ref r => (match S[r]? with
    | some (.ins c fs) => some (r, c, fs)
    | _ => none)
  | _ => none

/-- the receiver of a method -/
def lstRecv (S : Store) : D → Bool
  | .tup _ => false
  | d => (items S d).isSome
def strRecv : D → Bool
  | .str _ => true
  | _ => false
def recvOk (o : B2) (S : Store) (x : D) : Bool := match o with
  | .split => strRecv x
  | .join => strRecv x
  | .get => (dictOf S x).isSome
  | .app => lstRecv S x
  | .popa => lstRecv S x
  | .ext => lstRecv S x
  | .rem => lstRecv S x
  | .cnt => lstRecv S x
  | .idx => lstRecv S x
  | _ => false
/-- a list's item is stored -/
def setIx (x y d : D) (r : Env) (S : Store) : RsS := match x with
  | .ref k => (match S[k]? with
    | some (.lst xs) => (match y with
      | .int j => (match place xs.length j with
        | some p => .nx r (S.set k (.lst (xs.set p d)))
        | none => .bad)
      | _ => .bad)
    | _ => .bad)
  | _ => .bad
/-- a dict's value is stored -/
def setKy (x y d : D) (r : Env) (S : Store) : RsS := match x with
  | .ref k => (match S[k]? with
    | some (.dic ks vs) => if keyOk y = true ∧ ks.length < line then .nx r (S.set k (.dic (dput y d ks vs).1 (dput y d ks vs).2)) else .bad
    | _ => .bad)
  | _ => .bad

mutual
def evE (c : Cfg) : E → Env → Store → Rs D
  | .var i, r, S => (match r[i]? with
    | some (some d) => Rs.ok d S
    | _ => Rs.bad)
  | .lit d, _, S => Rs.ok d S
  | .cst d, _, S => Rs.ok d S
  | .tup es, r, S => (evEs c es r S).bind fun ds S => newT ds S
  | .lst m es, r, S => (evEs c es r S).bind fun ds S => newL m ds S
  | .b1 o a, r, S => (evE c a r S).bind fun d S => ev1 o d S
  | .b2 o a b, r, S => (evE c a r S).bind fun x S => (evE c b r S).bind fun y S => ev2 o x y S
  | .m2 o a b, r, S => (evE c a r S).bind fun x S => if recvOk o S x then (evE c b r S).bind fun y S => ev2 o x y S else Rs.bad
  | .slc m a lo hi l h, r, S => (evE c a r S).bind fun x S =>
      (match lo with
        | none => Rs.ok none S
        | some _ => (evE c l r S).bind toI).bind fun u S =>
      (match hi with
        | none => Rs.ok none S
        | some _ => (evE c h r S).bind toI).bind fun v S => evSlice m x u v S
  | .chn o o' a b d, r, S => (evE c a r S).bind fun x S => (evE c b r S).bind fun y S => (ev2 o x y S).bind fun z S => (match z with
    | .bl true => (evE c d r S).bind fun w S => ev2 o' y w S
    | .bl false => Rs.ok (.bl false) S
    | _ => Rs.bad)
  | .and a b, r, S => (evE c a r S).bind fun x S => (match x with
    | .bl true => evE c b r S
    | .bl false => Rs.ok (.bl false) S
    | _ => Rs.bad)
  | .or a b, r, S => (evE c a r S).bind fun x S => (match x with
    | .bl true => Rs.ok (.bl true) S
    | .bl false => evE c b r S
    | _ => Rs.bad)
  | .not a, r, S => (evE c a r S).bind fun x S => (match x with
    | .bl b => Rs.ok (.bl (!b)) S
    | _ => Rs.bad)
  | .ite t a b, r, S => (evE c t r S).bind fun x S => (match x with
    | .bl true => evE c a r S
    | .bl false => evE c b r S
    | _ => Rs.bad)
  | .call f es, r, S => (evEs c es r S).bind fun ds S => c.call f ds S
  | .mk k es, r, S => (evEs c es r S).bind fun ds S => c.make k ds S
  | .meth m o es, r, S => (evE c o r S).bind fun x S => (match insOf S x with
    | some (_, k, _) => (match c.meth k m with
      | some f => (evEs c es r S).bind fun ds S => c.call f (x :: ds) S
      | none => Rs.bad)
    | none => Rs.bad)
  | .comp m e t src cond cd own, r, S => (evSrc c src r S).bind fun p S =>
      (compLoop p.2 S.length (compBody t cond (fun r S => evE c e r S) (fun r S => evE c cd r S) (wipeE r own)) p.1 (S ++ [.lst []])).bind fun _ S' => if m then .ok (.ref S.length) S' else freezeR S (.ref S.length) S'
  | .dict m, _, S => newD m [] [] S
def evEs (c : Cfg) : Es → Env → Store → Rs (List D)
  | .nil, _, S => Rs.ok [] S
  | .cons e es, r, S => (evE c e r S).bind fun d S => (evEs c es r S).bind fun ds S => Rs.ok (d :: ds) S
/-- a walk's items, and what it leans on -/
def evSrc (c : Cfg) : Src → Env → Store → Rs (List D × Guard)
  | .it e, r, S => (evE c e r S).bind fun d S => (match items S d with
    | some xs => Rs.ok (xs, guardOf d xs) S
    | none => (match strItems d with
      | some xs => Rs.ok (xs, []) S
      | none => Rs.bad))
  | .rng1 a, r, S => (evE c a r S).bind fun d S => (match d with
    | .int i => if i.natAbs < 1000000000000 then Rs.ok (rangeD 0 i, []) S else Rs.bad
    | _ => Rs.bad)
  | .rng2 a b, r, S => (evE c a r S).bind fun x S => (evE c b r S).bind fun y S => (match x, y with
    | .int i, .int j => if i.natAbs < 1000000000000 ∧ j.natAbs < 1000000000000 then Rs.ok (rangeD i j, []) S else Rs.bad
    | _, _ => Rs.bad)
  | .enum e, r, S => (evE c e r S).bind fun d S => (match itemsL S d with
    | some xs => Rs.ok (xs.zipIdx.map fun p => .tup [natI p.2, p.1], guardOf d xs) S
    | none => Rs.bad)
  | .zip a b, r, S => (evE c a r S).bind fun x S => (evE c b r S).bind fun y S => (match itemsL S x, itemsL S y with
    | some xs, some ys => Rs.ok ((xs.zip ys).map fun p => .tup [p.1, p.2], guardOf x xs ++ guardOf y ys) S
    | _, _ => Rs.bad)
  | .rev e, r, S => (evE c e r S).bind fun d S => (match itemsL S d with
    | some xs => Rs.ok (xs.reverse, guardOf d xs) S
    | none => Rs.bad)
  | .its e, r, S => (evE c e r S).bind fun d S => (match dictOf S d with
    | some (ks, vs) => Rs.ok ((ks.zip vs).map fun p => .tup [p.1, p.2], []) S
    | none => Rs.bad)
end
/-- a test -/
def evT (c : Cfg) (e : E) (r : Env) (S : Store) : Rs Bool := (evE c e r S).bind fun d S => match d with
  | .bl b => Rs.ok b S
  | _ => Rs.bad

mutual
def evS (c : Cfg) : St → Nat → Env → Store → RsS
  | .asg i e, n0, r, S => (evE c e r S).thenS r fun d S => if i < r.length then .nx (r.set i (some d)) S else RsS.bad
  | .asgT is e, n0, r, S => (evE c e r S).thenS r fun d S => (match setT (.tp is) d r with
    | some r' => .nx r' S
    | none => RsS.bad)
  | .asgF o f e, n0, r, S => (evE c e r S).thenS r fun d S => (evE c o r S).thenS r fun x S => (match x with
    | .ref k => (match S[k]? with
      | some (.ins cl fs) => if fs.length < 900 then .nx r (S.set k (.ins cl (fput f d fs))) else RsS.bad
      | _ => RsS.bad)
    | _ => RsS.bad)
  | .asgI o i e, n0, r, S => (evE c e r S).thenS r fun d S => (evE c o r S).thenS r fun x S => (evE c i r S).thenS r fun y S => setIx x y d r S
  | .asgD o i e, n0, r, S => (evE c e r S).thenS r fun d S => (evE c o r S).thenS r fun x S => (evE c i r S).thenS r fun y S => setKy x y d r S
  | .ex e, n0, r, S => (evE c e r S).thenS r fun _ S => .nx r S
  | .ret e, n0, r, S => (evE c e r S).thenS r fun d S => .rt d r S
  | .retN, n0, r, S => .rt .non r S
  | .ite t a b, n0, r, S => (evT c t r S).thenB r fun x S => (match x with
    | true => evSs c a n0 r S
    | false => evSs c b n0 r S)
  | .for t src b, n0, r, S => (match evSrc c src r S with
    | .ok p S1 => forLoop p.2 (fun x r S => match setT t x r with
      | some r' => evSs c b S1.length r' S
      | none => RsS.bad) p.1 r S1
    | .exc k fs S => .exc k fs r S
    | .bad => RsS.bad)
  | .while t b, n0, r, S => whileLoop (fun r' S' => evT c t r' S') (fun r' S' => evSs c b S.length r' S') c.w r S
  | .raise k es, n0, r, S => (match evEs c es r S with
    | .ok ds S => .exc k (ds.zipIdx.map fun p => (p.2, p.1)) r S
    | .exc k fs S => .exc k fs r S
    | .bad => RsS.bad)
  | .tryS b cs slot h, n0, r, S => (match evSs c b n0 r S with
    | .exc k fs r' S' => if cs.contains k then (match slot with
      | none => evSs c h n0 r' S'
      | some _ => RsS.bad) else .exc k fs r' S'
    | o => o)
  | .pass, n0, r, S => .nx r S
  | .brk, n0, r, S => .bk r S
  | .cont, n0, r, S => .ct r S
  | .frv i, n0, r, S => freezeV n0 i r S
def evSs (c : Cfg) : Sts → Nat → Env → Store → RsS
  | .nil, n0, r, S => .nx r S
  | .cons s ss, n0, r, S => (evS c s n0 r S).seq fun r S => evSs c ss n0 r S
end

/-! ### defs -/
structure Fn where
  /-- how many parameters, how many names -/
  ps : Nat
  ns : Nat
  /-- whether what it hands back is told by value, its own lists let go -/
  frz : Bool
  body : Sts
structure Prog where
  fns : Nat → Option Fn
  init : Nat → Option Nat
  meth : Nat → Nat → Option Nat
  w : Nat
def startE (ns : Nat) (ds : List D) : Env := ds.map some ++ List.replicate (ns - ds.length) none
def leave (frz : Bool) (S0 : Store) (r : RsS) : Rs D := match r with
  | .nx _ S => if frz then freezeR S0 .non S else .ok .non S
  | .rt d _ S => if frz then freezeR S0 d S else .ok d S
  | .exc c fs _ S => if cleanS S0 S && fs.all (fun p => p.2.low S0.length) then .exc c fs (S.take S0.length) else .bad
  | _ => .bad
def makeBy (P : Prog) (call : Nat → List D → Store → Rs D) (c : Nat) (ds : List D) (S : Store) : Rs D := match P.init c with
  | some f => (call f (.ref S.length :: ds) (S ++ [.ins c []])).bind fun d S' => match d with
    | .non => Rs.ok (.ref S.length) S'
    | _ => Rs.bad
  | none => Rs.bad
def cfgOf (P : Prog) (call make : Nat → List D → Store → Rs D) : Cfg := ⟨call, makeBy P make, P.meth, P.w⟩
def badF : Nat → List D → Store → Rs D := fun _ _ _ => .bad
/-- a def's call; the calls within, the makings within -/
def runF (P : Prog) (call make : Nat → List D → Store → Rs D) (f : Nat) (ds : List D) (S : Store) : Rs D := match P.fns f with
  | some fn => if ds.length = fn.ps ∧ fn.ps ≤ fn.ns then
      leave fn.frz S (evSs (cfgOf P call make) fn.body S.length (startE fn.ns ds) S)
    else .bad
  | none => .bad
/-- so many calls within one another: this level, and the one beneath -/
def callP (P : Prog) : Nat → (Nat → List D → Store → Rs D) × (Nat → List D → Store → Rs D)
  | 0 => (badF, badF)
  | k + 1 => (runF P (callP P k).1 (callP P k).2, (callP P k).1)
def callF (P : Prog) (k : Nat) : Nat → List D → Store → Rs D := (callP P k).1
theorem callP_snd (P : Prog) (k : Nat) : (callP P (k + 1)).2 = callF P k := rfl
theorem callF_succ (P : Prog) (k : Nat) : callF P (k + 1) = runF P (callF P k) (callP P k).2 := rfl
end Mi
/-! How the machine's abstract heap bears the small language's store. -/
namespace Mi
open PySem L2

/-- the names and addresses behind the numbers -/
structure Gb where
  K : PySem.W.Frag
  fld : Nat → Str
  cls : Nat → Addr
  fldInj : ∀ f g, fld f = fld g → f = g

def txt (cs : List Nat) : Str := ⟨cs.toArray⟩
theorem txt_inj {a b : List Nat} (h : txt a = txt b) : a = b := by
  have := congrArg (fun s => s.cps.toList) h
  simpa [txt] using this
def keyOf : D → Option Key
  | .int i => some (.inl i)
  | .str cs => some (.inr (txt cs))
  | _ => none

mutual
def RV (K : PySem.W.Frag) (H : Hp) (μ : List Addr) : D → V → Prop
  | .non, v => v = .non
  | .bl b, v => v = .bl b
  | .int i, v => v = .int i
  | .str cs, v => v = .str (txt cs)
  | .tup ds, v => ∃ a xs, v = .ref a ∧ SqT K H a xs ∧ RVs K H μ ds xs
  | .lst ds, v => ∃ a xs, v = .ref a ∧ H a = some (.lst xs) ∧ a ∉ μ ∧ RVs K H μ ds xs
  | .dic ks ds, v => ∃ a kvs, v = .ref a ∧ H a = some (.dK kvs) ∧ a ∉ μ ∧ ks.map keyOf = kvs.map (fun p => some p.1) ∧ RVs K H μ ds (kvs.map (·.2))
  | .scr ns, v => ∃ a, v = .ref a ∧ ((∃ o, H a = some (.frz o (.lst (ns.map .int)))) ∨ ∀ H' : Hp, SqL K H' a (ns.map .int))
  | .ref n, v => ∃ a, v = .ref a ∧ μ[n]? = some a
def RVs (K : PySem.W.Frag) (H : Hp) (μ : List Addr) : List D → List V → Prop
  | [], xs => xs = []
  | d :: ds, xs => ∃ x r, xs = x :: r ∧ RV K H μ d x ∧ RVs K H μ ds r
end

def RO (G : Gb) (H : Hp) (μ : List Addr) : Mi.Obj → HO → Prop
  | .lst ds, o => ∃ xs, o = .lst xs ∧ RVs G.K H μ ds xs
  | .dic ks ds, o => ∃ kvs, o = .dK kvs ∧ ks.map keyOf = kvs.map (fun p => some p.1) ∧ RVs G.K H μ ds (kvs.map (·.2))
  | .ins c fs, o => ∃ dx fv, o = .ins (G.cls c) dx fv ∧ fv.map (·.1) = fs.map (fun p => G.fld p.1) ∧ RVs G.K H μ (fs.map (·.2)) (fv.map (·.2))

structure Rl (G : Gb) (S : Store) (μ : List Addr) (H : Hp) : Prop where
  len : μ.length = S.length
  nd : μ.Nodup
  obj : ∀ (n : Nat) (a : Addr), μ[n]? = some a → ∃ (o : Mi.Obj) (ho : HO), S[n]? = some o ∧ H a = some ho ∧ RO G H μ o ho

/-- from one heap and map of addresses to a later one -/
structure Go (H : Hp) (μ : List Addr) (H' : Hp) (μ' : List Addr) : Prop where
  keep : ∀ a o, H a = some o → a ∉ μ → H' a = some o
  new : ∀ a, a ∈ μ' → a ∈ μ ∨ H a = none
theorem Go.refl {H : Hp} {μ : List Addr} : Go H μ H μ := ⟨fun _ _ h _ => h, fun _ h => .inl h⟩
theorem Go.trans {H H1 H2 : Hp} {μ μ1 μ2 : List Addr} (g : Go H μ H1 μ1) (k : Go H1 μ1 H2 μ2) : Go H μ H2 μ2 := by
  refine ⟨fun a o h n => ?_, fun a h => ?_⟩
  · have h1 := g.keep a o h n
    refine k.keep a o h1 fun m => ?_
    rcases g.new a m with z | z
    · exact n z
    · rw [z] at h; cases h
  · by_cases m : a ∈ μ
    · exact .inl m
    · refine .inr ?_
      cases e : H a with
      | none => rfl
      | some o =>
        exfalso
        have e1 := g.keep a o e m
        rcases k.new a h with z | z
        · rcases g.new a z with y | y
          · exact m y
          · rw [y] at e; cases e
        · rw [z] at e1; cases e1

theorem RO.mutable {G : Gb} {H : Hp} {μ : List Addr} {o : Mi.Obj} {ho : HO} (r : RO G H μ o ho) : (∀ xs, ho ≠ .tup xs) ∧ ∀ ob u, ho ≠ .frz ob u := by
  cases o with
  | lst ds => obtain ⟨_, rfl, _⟩ := r; exact ⟨(fun _ z => by cases z), (fun _ _ z => by cases z)⟩
  | dic ks vs => obtain ⟨_, rfl, _⟩ := r; exact ⟨(fun _ z => by cases z), (fun _ _ z => by cases z)⟩
  | ins c fs => obtain ⟨_, _, rfl, _⟩ := r; exact ⟨(fun _ z => by cases z), (fun _ _ z => by cases z)⟩
/-- what stands in the map is no tuple and not locked -/
def Muts (H : Hp) (μ : List Addr) : Prop := ∀ a ∈ μ, (∀ xs, H a ≠ some (.tup xs)) ∧ ∀ ob u, H a ≠ some (.frz ob u)
theorem Rl.muts {G : Gb} {S : Store} {μ : List Addr} {H : Hp} (r : Rl G S μ H) : Muts H μ := fun a ha => by
  obtain ⟨n, hn⟩ := List.mem_iff_getElem?.mp ha
  obtain ⟨o, ho, _, e, ro⟩ := r.obj n a hn
  have m := ro.mutable
  exact ⟨fun xs z => by rw [e] at z; cases z; exact m.1 _ rfl, fun ob u z => by rw [e] at z; cases z; exact m.2 _ _ rfl⟩

theorem Rl.at {G : Gb} {S : Store} {μ : List Addr} {H : Hp} (r : Rl G S μ H) {n : Nat} {o : Mi.Obj} (h : S[n]? = some o) : ∃ a ho, μ[n]? = some a ∧ H a = some ho ∧ RO G H μ o ho := by
  have hl : n < μ.length := by rw [r.len]; exact (List.getElem?_eq_some_iff.mp h).1
  obtain ⟨o', ho, h1, h2, h3⟩ := r.obj n _ (List.getElem?_eq_getElem hl)
  rw [h] at h1; cases h1
  exact ⟨_, ho, List.getElem?_eq_getElem hl, h2, h3⟩

theorem SqT.go {K : PySem.W.Frag} {H H' : Hp} {μ μ' : List Addr} {a : Addr} {xs : List V} (h : SqT K H a xs) (m : Muts H μ) (g : Go H μ H' μ') : SqT K H' a xs := by
  rcases h with (h | ⟨o, h⟩) | h
  · exact .inl (.inl (g.keep _ _ h fun z => (m a z).1 _ h))
  · exact .inl (.inr ⟨o, g.keep _ _ h fun z => (m a z).2 _ _ h⟩)
  · exact .inr h

section
variable {K : PySem.W.Frag} {H H' : Hp} {μ μ' : List Addr}
/-- what a value tells goes on to be true, where the map is kept or the value has no reference beyond -/
theorem notin_go (g : Go H μ H' μ') {a : Addr} {o : HO} (h : H a = some o) (n : a ∉ μ) : a ∉ μ' := fun z => by
  rcases g.new a z with y | y
  · exact n y
  · rw [y] at h; cases h
mutual
theorem RV.goL (m : Muts H μ) (g : Go H μ H' μ') (n : Nat) (hp : ∀ i, i < n → μ'[i]? = μ[i]?) : ∀ (d : D) (v : V), d.low n = true → RV K H μ d v → RV K H' μ' d v
  | .non, _, _, h => h
  | .bl _, _, _, h => h
  | .int _, _, _, h => h
  | .str _, _, _, h => h
  | .tup ds, _, l, ⟨a, xs, e, hs, hr⟩ => ⟨a, xs, e, SqT.go hs m g, RVs.goL m g n hp ds xs (by simpa [D.low] using l) hr⟩
  | .lst ds, _, l, ⟨a, xs, e, hs, na, hr⟩ => ⟨a, xs, e, g.keep _ _ hs na, notin_go g hs na, RVs.goL m g n hp ds xs (by simpa [D.low] using l) hr⟩
  | .dic ks ds, _, l, ⟨a, kvs, e, hs, na, hk, hr⟩ => by
    simp only [D.low, Bool.and_eq_true] at l
    exact ⟨a, kvs, e, g.keep _ _ hs na, notin_go g hs na, hk, RVs.goL m g n hp ds _ l.2 hr⟩
  | .scr _, _, _, ⟨a, e, h⟩ => ⟨a, e, h.imp (fun ⟨o, q⟩ => ⟨o, g.keep _ _ q fun z => (m a z).2 _ _ q⟩) id⟩
  | .ref k, _, l, ⟨a, e, h⟩ => ⟨a, e, by rw [hp k (by simpa [D.low] using l)]; exact h⟩
theorem RVs.goL (m : Muts H μ) (g : Go H μ H' μ') (n : Nat) (hp : ∀ i, i < n → μ'[i]? = μ[i]?) : ∀ (ds : List D) (xs : List V), D.lows n ds = true → RVs K H μ ds xs → RVs K H' μ' ds xs
  | [], _, _, h => h
  | d :: ds, _, l, ⟨x, r, e, h1, h2⟩ => by
    simp only [D.lows, Bool.and_eq_true] at l
    exact ⟨x, r, e, RV.goL m g n hp d x l.1 h1, RVs.goL m g n hp ds r l.2 h2⟩
end
theorem keys_low {n : Nat} {α : Type} : ∀ (ks : List D) (kvs : List (Key × α)), ks.map keyOf = kvs.map (fun p => some p.1) → D.lows n ks = true
  | [], _, _ => rfl
  | k :: ks, [], h => by simp at h
  | k :: ks, p :: kvs, h => by
    simp only [List.map_cons, List.cons.injEq] at h
    simp only [D.lows, Bool.and_eq_true]
    refine ⟨?_, keys_low ks kvs h.2⟩
    cases k <;> first | rfl | (exfalso; simp [keyOf] at h)
mutual
theorem RV.lowOf : ∀ (d : D) (v : V), RV K H μ d v → d.low μ.length = true
  | .non, _, _ => rfl
  | .bl _, _, _ => rfl
  | .int _, _, _ => rfl
  | .str _, _, _ => rfl
  | .tup ds, _, ⟨_, xs, _, _, h⟩ => by simp only [D.low]; exact RVs.lowOf ds xs h
  | .lst ds, _, ⟨_, xs, _, _, _, h⟩ => by simp only [D.low]; exact RVs.lowOf ds xs h
  | .dic ks ds, _, ⟨_, kvs, _, _, _, hk, h⟩ => by
    simp only [D.low, Bool.and_eq_true]
    refine ⟨?_, RVs.lowOf ds _ h⟩
    exact keys_low ks kvs hk
  | .scr _, _, _ => rfl
  | .ref n, _, ⟨a, _, h⟩ => by simp only [D.low, decide_eq_true_eq]; exact (List.getElem?_eq_some_iff.mp h).1
theorem RVs.lowOf : ∀ (ds : List D) (xs : List V), RVs K H μ ds xs → D.lows μ.length ds = true
  | [], _, _ => rfl
  | d :: ds, _, ⟨x, r, _, h1, h2⟩ => by simp only [D.lows, Bool.and_eq_true]; exact ⟨RV.lowOf d x h1, RVs.lowOf ds r h2⟩
end
theorem pre_get (p : μ <+: μ') : ∀ i, i < μ.length → μ'[i]? = μ[i]? := fun i hi => by
  obtain ⟨t, rfl⟩ := p
  rw [List.getElem?_append_left hi]
theorem RV.go (m : Muts H μ) (g : Go H μ H' μ') (p : μ <+: μ') {d : D} {v : V} (h : RV K H μ d v) : RV K H' μ' d v := RV.goL m g μ.length (pre_get p) d v (RV.lowOf d v h) h
theorem RVs.go (m : Muts H μ) (g : Go H μ H' μ') (p : μ <+: μ') {ds : List D} {xs : List V} (h : RVs K H μ ds xs) : RVs K H' μ' ds xs := RVs.goL m g μ.length (pre_get p) ds xs (RVs.lowOf ds xs h) h
theorem RVs.length : ∀ {ds : List D} {xs : List V}, RVs K H μ ds xs → ds.length = xs.length
  | [], xs, h => by rw [show xs = [] from h]; rfl
  | d :: ds, _, ⟨x, r, e, _, h⟩ => by rw [e]; simp [RVs.length h]
theorem RVs.get : ∀ {ds : List D} {xs : List V} {i : Nat} {d : D}, RVs K H μ ds xs → ds[i]? = some d → ∃ x, xs[i]? = some x ∧ RV K H μ d x
  | [], _, _, _, _, e => by simp at e
  | d :: ds, _, 0, _, ⟨x, r, e, h, _⟩, q => by simp at q; subst q; exact ⟨x, by rw [e]; rfl, h⟩
  | d :: ds, _, i + 1, _, ⟨x, r, e, _, h⟩, q => by
    obtain ⟨y, h1, h2⟩ := RVs.get (i := i) h (by simpa using q)
    exact ⟨y, by rw [e]; simpa using h1, h2⟩
theorem RVs.append : ∀ {ds es : List D} {xs ys : List V}, RVs K H μ ds xs → RVs K H μ es ys → RVs K H μ (ds ++ es) (xs ++ ys)
  | [], _, _, _, h, k => by rw [show _ = [] from h]; exact k
  | d :: ds, _, _, _, ⟨x, r, e, h, t⟩, k => ⟨x, r ++ _, by rw [e]; rfl, h, RVs.append t k⟩
theorem RVs.one {d : D} {x : V} (h : RV K H μ d x) : RVs K H μ [d] [x] := ⟨x, [], rfl, h, rfl⟩
theorem RVs.two {d e : D} {x y : V} (h : RV K H μ d x) (k : RV K H μ e y) : RVs K H μ [d, e] [x, y] := ⟨x, _, rfl, h, RVs.one k⟩
theorem RVs.drop : ∀ {ds : List D} {xs : List V} (n : Nat), RVs K H μ ds xs → RVs K H μ (ds.drop n) (xs.drop n)
  | _, _, 0, h => h
  | [], _, n + 1, h => by rw [show _ = [] from h]; exact rfl
  | d :: ds, _, n + 1, ⟨x, r, e, _, t⟩ => by rw [e]; exact RVs.drop n t
theorem RVs.take : ∀ {ds : List D} {xs : List V} (n : Nat), RVs K H μ ds xs → RVs K H μ (ds.take n) (xs.take n)
  | _, _, 0, _ => rfl
  | [], _, n + 1, h => by rw [show _ = [] from h]; exact rfl
  | d :: ds, _, n + 1, ⟨x, r, e, h, t⟩ => ⟨x, _, by rw [e]; rfl, h, RVs.take n t⟩
theorem RVs.set : ∀ {ds : List D} {xs : List V} (n : Nat) {d : D} {x : V}, RVs K H μ ds xs → RV K H μ d x → RVs K H μ (ds.set n d) (xs.set n x)
  | [], _, _, _, _, h, _ => by rw [show _ = [] from h]; exact rfl
  | c :: ds, _, 0, _, x, ⟨y, r, e, _, t⟩, k => ⟨x, r, by rw [e]; rfl, k, t⟩
  | c :: ds, _, n + 1, _, _, ⟨y, r, e, h, t⟩, k => ⟨y, _, by rw [e]; rfl, h, RVs.set n t k⟩
theorem RVs.eraseIdx : ∀ {ds : List D} {xs : List V} (n : Nat), RVs K H μ ds xs → RVs K H μ (ds.eraseIdx n) (xs.eraseIdx n)
  | [], _, _, h => by rw [show _ = [] from h]; exact rfl
  | c :: ds, _, 0, ⟨y, r, e, _, t⟩ => by rw [e]; exact t
  | c :: ds, _, n + 1, ⟨y, r, e, h, t⟩ => ⟨y, _, by rw [e]; rfl, h, RVs.eraseIdx n t⟩
theorem RVs.dropLast {ds : List D} {xs : List V} (h : RVs K H μ ds xs) : RVs K H μ ds.dropLast xs.dropLast := by
  rw [List.dropLast_eq_take, List.dropLast_eq_take, ← h.length]; exact h.take _
theorem RVs.rep {ds : List D} {xs : List V} (h : RVs K H μ ds xs) : ∀ n : Nat, RVs K H μ (List.replicate n ds).flatten (List.replicate n xs).flatten
  | 0 => rfl
  | n + 1 => by rw [List.replicate_succ, List.replicate_succ, List.flatten_cons, List.flatten_cons]; exact h.append (RVs.rep h n)
theorem RVs.ofInts : ∀ ns : List Int, RVs K H μ (ns.map .int) (ns.map .int)
  | [] => rfl
  | n :: ns => ⟨_, _, rfl, rfl, RVs.ofInts ns⟩
theorem RVs.toInts : ∀ {ds : List D} {xs : List V} {ns : List Int}, RVs K H μ ds xs → intsOf ds = some ns → xs = ns.map V.int
  | [], _, _, h, e => by cases e; exact h
  | d :: ds, _, ns, ⟨x, r, e1, h, t⟩, e => by
    cases d <;> simp only [intsOf] at e <;> try cases e
    rename_i i
    cases q : intsOf ds with
    | none => rw [q] at e; cases e
    | some l =>
      rw [q] at e
      cases e
      rw [e1, RVs.toInts t q, show x = .int i from h]
      rfl
theorem RVs.toBools : ∀ {ds : List D} {xs : List V} {ns : List Bool}, RVs K H μ ds xs → boolsOf ds = some ns → xs = ns.map V.bl
  | [], _, _, h, e => by cases e; exact h
  | d :: ds, _, ns, ⟨x, r, e1, h, t⟩, e => by
    cases d <;> simp only [boolsOf] at e <;> try cases e
    rename_i i
    cases q : boolsOf ds with
    | none => rw [q] at e; cases e
    | some l =>
      rw [q] at e
      cases e
      rw [e1, RVs.toBools t q, show x = .bl i from h]
      rfl
end
theorem RO.go {G : Gb} {H H' : Hp} {μ μ' : List Addr} (m : Muts H μ) (g : Go H μ H' μ') (p : μ <+: μ') {o : Mi.Obj} {ho : HO} (h : RO G H μ o ho) : RO G H' μ' o ho := by
  cases o with
  | lst ds => obtain ⟨xs, e, r⟩ := h; exact ⟨xs, e, r.go m g p⟩
  | dic ks vs => obtain ⟨kvs, e, k, r⟩ := h; exact ⟨kvs, e, k, r.go m g p⟩
  | ins c fs => obtain ⟨dx, fv, e, k, r⟩ := h; exact ⟨dx, fv, e, k, r.go m g p⟩

/-! ### steps of the store -/
section
variable {G : Gb} {S : Store} {μ : List Addr} {H : Hp}
/-- a new thing beside the store -/
theorem Go.beside {p : Addr} {o : HO} (hp : H p = none) (hm : p ∉ μ) : Go H μ (upd H p o) μ :=
  ⟨fun a u h _ => by rw [upd_ne (ne_of_none h hp)]; exact h, fun _ h => .inl h⟩
theorem Rl.notin (r : Rl G S μ H) {p : Addr} (hp : H p = none) : p ∉ μ := fun h => by
  obtain ⟨n, hn⟩ := List.mem_iff_getElem?.mp h
  obtain ⟨_, _, _, e, _⟩ := r.obj n p hn
  rw [hp] at e; cases e
theorem Rl.go {H' : Hp} (r : Rl G S μ H) (g : Go H μ H' μ) (k : ∀ a ∈ μ, H' a = H a) : Rl G S μ H' := by
  refine ⟨r.len, r.nd, fun n a h => ?_⟩
  obtain ⟨o, ho, h1, h2, h3⟩ := r.obj n a h
  exact ⟨o, ho, h1, by rw [k a (List.mem_of_getElem? h)]; exact h2, h3.go r.muts g (List.prefix_refl _)⟩
theorem Rl.beside (r : Rl G S μ H) {p : Addr} {o : HO} (hp : H p = none) : Rl G S μ (upd H p o) :=
  r.go (Go.beside hp (r.notin hp)) fun a ha => upd_ne fun e => r.notin hp (e ▸ ha)
/-- a new thing of the store -/
theorem Go.push {p : Addr} {o : HO} (hp : H p = none) : Go H μ (upd H p o) (μ ++ [p]) :=
  ⟨fun a u h _ => by rw [upd_ne (ne_of_none h hp)]; exact h, fun a h => (List.mem_append.mp h).imp id fun z => by rw [List.mem_singleton.mp z]; exact hp⟩
theorem Rl.push (r : Rl G S μ H) {p : Addr} {o : Mi.Obj} {ho : HO} (hp : H p = none) (ro : RO G H μ o ho) : Rl G (S ++ [o]) (μ ++ [p]) (upd H p ho) := by
  have g : Go H μ (upd H p ho) (μ ++ [p]) := Go.push hp
  have pr : μ <+: μ ++ [p] := List.prefix_append _ _
  have np := r.notin hp
  refine ⟨by simp [r.len], List.nodup_append.mpr ⟨r.nd, by simp, fun a ha b hb e => np (by rw [← List.mem_singleton.mp hb, ← e]; exact ha)⟩, fun n a h => ?_⟩
  by_cases hn : n < μ.length
  · rw [List.getElem?_append_left hn] at h
    obtain ⟨o', ho', h1, h2, h3⟩ := r.obj n a h
    refine ⟨o', ho', ?_, ?_, h3.go r.muts g pr⟩
    · rw [List.getElem?_append_left (by rw [← r.len]; exact hn)]; exact h1
    · rw [upd_ne (ne_of_none h2 hp)]; exact h2
  · rw [List.getElem?_append_right (by omega)] at h
    have e0 : n - μ.length = 0 := by
      have := (List.getElem?_eq_some_iff.mp h).1
      simp at this
      omega
    rw [e0] at h
    cases h
    refine ⟨o, ho, ?_, upd_same, ro.go r.muts g pr⟩
    have : n = S.length := by rw [← r.len]; omega
    rw [this]; simp
/-- a thing of the store is changed -/
theorem Go.set {a : Addr} {o : HO} (ha : a ∈ μ) : Go H μ (upd H a o) μ :=
  ⟨(fun b u h n => by rw [upd_ne (fun e : b = a => n (by rw [e]; exact ha))]; exact h), fun _ h => .inl h⟩
theorem Rl.set (r : Rl G S μ H) {n : Nat} {a : Addr} {o : Mi.Obj} {ho : HO} (h : μ[n]? = some a) (ro : RO G H μ o ho) : Rl G (S.set n o) μ (upd H a ho) := by
  have ha := List.mem_of_getElem? h
  have g : Go H μ (upd H a ho) μ := Go.set ha
  have hn : n < μ.length := (List.getElem?_eq_some_iff.mp h).1
  refine ⟨by simp [r.len], r.nd, fun k b hb => ?_⟩
  by_cases e : k = n
  · subst e
    rw [h] at hb; cases hb
    exact ⟨o, ho, by rw [List.getElem?_set_self (by rw [← r.len]; exact hn)], upd_same, ro.go r.muts g (List.prefix_refl _)⟩
  · obtain ⟨o', ho', h1, h2, h3⟩ := r.obj k b hb
    have nb : b ≠ a := fun z => by
      subst z
      obtain ⟨i1, e1⟩ := List.getElem?_eq_some_iff.mp h
      obtain ⟨i2, e2⟩ := List.getElem?_eq_some_iff.mp hb
      exact e ((List.getElem_inj r.nd).mp (e2.trans e1.symm))
    exact ⟨o', ho', by rw [List.getElem?_set_ne (Ne.symm e)]; exact h1, by rw [upd_ne nb]; exact h2, h3.go r.muts g (List.prefix_refl _)⟩
end
end Mi
/-! Freezing; comparing. -/
namespace Mi
open PySem L2
theorem optList_some {α : Type} : ∀ {xs : List (Option α)} {ys : List α}, optList xs = some ys → xs = ys.map some
  | [], _, h => by cases h; rfl
  | none :: _, _, h => by cases h
  | some x :: r, ys, h => by
    simp only [optList] at h
    cases q : optList r with
    | none => rw [q] at h; cases h
    | some l => rw [q] at h; cases h; rw [optList_some q]; rfl
theorem optList_map {α : Type} : ∀ (ys : List α), optList (ys.map some) = some ys
  | [] => rfl
  | y :: ys => by simp only [List.map_cons, optList, optList_map ys]
section
variable {G : Gb} {S : Store} {μ : List Addr} {H : Hp} {n0 : Nat}
theorem Go.take {n0 : Nat} : Go H μ H (μ.take n0) := ⟨fun _ _ h _ => h, fun a h => .inl (List.mem_of_mem_take h)⟩
theorem RV.take (m : Muts H μ) {d : D} {v : V} (h : RV G.K H μ d v) (l : d.low n0 = true) : RV G.K H (μ.take n0) d v :=
  RV.goL m Go.take n0 (fun i hi => by rw [List.getElem?_take, if_pos hi]) d v l h
theorem notin_take (nd : μ.Nodup) {r : Nat} {a : Addr} (h : μ[r]? = some a) (hr : ¬ r < n0) : a ∉ μ.take n0 := fun z => by
  obtain ⟨i, hi⟩ := List.mem_iff_getElem?.mp z
  have hi' : i < n0 := by
    have := (List.getElem?_eq_some_iff.mp hi).1
    rw [List.length_take] at this
    omega
  rw [List.getElem?_take, if_pos hi'] at hi
  obtain ⟨i1, e1⟩ := List.getElem?_eq_some_iff.mp h
  obtain ⟨i2, e2⟩ := List.getElem?_eq_some_iff.mp hi
  have := (List.getElem_inj nd).mp (e2.trans e1.symm)
  omega
theorem RVs.frzBy {k : Nat} (ih : ∀ d v d', RV G.K H μ d v → frzD n0 S k d = some d' → RV G.K H (μ.take n0) d' v) : ∀ (ds : List D) (xs : List V) (ds' : List D), RVs G.K H μ ds xs → optList (ds.map (frzD n0 S k)) = some ds' → RVs G.K H (μ.take n0) ds' xs
  | [], xs, _, h, e => by cases e; exact h
  | d :: ds, _, ds', ⟨x, r, ex, h1, h2⟩, e => by
    have e' := optList_some e
    cases ds' with
    | nil => simp at e'
    | cons y ys =>
      simp only [List.map_cons, List.cons.injEq] at e'
      refine ⟨x, r, ex, ih d x y h1 e'.1, RVs.frzBy ih ds r ys h2 ?_⟩
      rw [e'.2, optList_map]
theorem keys_frz {k : Nat} {α : Type} : ∀ (ks : List D) (kvs : List (Key × α)) (ks' : List D), ks.map keyOf = kvs.map (fun p => some p.1) → optList (ks.map (frzD n0 S k)) = some ks' → ks' = ks
  | [], _, _, _, e => by cases e; rfl
  | c :: ks, [], _, h, _ => by simp at h
  | c :: ks, p :: kvs, ks', h, e => by
    simp only [List.map_cons, List.cons.injEq] at h
    have e' := optList_some e
    cases ks' with
    | nil => simp at e'
    | cons y ys =>
      simp only [List.map_cons, List.cons.injEq] at e'
      have hc : c.low n0 = true := by cases c <;> first | rfl | (exfalso; simp [keyOf] at h)
      have e1 : frzD n0 S k c = some c := by cases k <;> simp [frzD, hc]
      rw [e1] at e'
      rw [keys_frz ks kvs ys h.2 (by rw [e'.2, optList_map])]
      cases e'.1
      rfl
/-- a frozen value is the same thing -/
theorem frz_ok (rl : Rl G S μ H) : ∀ (k : Nat) (d : D) (v : V) (d' : D), RV G.K H μ d v → frzD n0 S k d = some d' → RV G.K H (μ.take n0) d' v
  | 0, d, v, d', h, e => by
    simp only [frzD] at e
    split at e
    · cases e; exact RV.take rl.muts h (by assumption)
    · cases e
  | k + 1, d, v, d', h, e => by
    have ih := frz_ok rl k
    simp only [frzD] at e
    split at e
    · cases e; exact RV.take rl.muts h (by assumption)
    · unfold frzStep at e
      cases d with
      | non => cases e; exact h
      | bl b => cases e; exact h
      | int i => cases e; exact h
      | str s => cases e; exact h
      | scr s => cases e; exact h
      | tup xs =>
        obtain ⟨ds', e1, rfl⟩ := Option.map_eq_some_iff.mp e
        obtain ⟨a, vs, ev, hs, hr⟩ := h
        exact ⟨a, vs, ev, hs, RVs.frzBy ih _ _ _ hr e1⟩
      | lst xs =>
        obtain ⟨ds', e1, rfl⟩ := Option.map_eq_some_iff.mp e
        obtain ⟨a, vs, ev, hs, na, hr⟩ := h
        exact ⟨a, vs, ev, hs, fun z => na (List.mem_of_mem_take z), RVs.frzBy ih _ _ _ hr e1⟩
      | dic ks vs =>
        simp only at e
        obtain ⟨a, kvs, ev, hs, na, hk, hr⟩ := h
        split at e
        · rename_i ks' vs' e1 e2
          cases e
          rw [keys_frz _ _ _ hk e1]
          exact ⟨a, kvs, ev, hs, fun z => na (List.mem_of_mem_take z), hk, RVs.frzBy ih _ _ _ hr e2⟩
        · cases e
      | ref r =>
        simp only at e
        obtain ⟨a, ev, ha⟩ := h
        rename_i hlow
        have hr : ¬ r < n0 := by simpa [D.low] using hlow
        obtain ⟨o, ho, h1, h2, h3⟩ := rl.obj r a ha
        rw [h1] at e
        cases o with
        | lst xs =>
          simp only at e
          obtain ⟨ds', e1, rfl⟩ := Option.map_eq_some_iff.mp e
          obtain ⟨ys, rfl, hr2⟩ := h3
          exact ⟨a, ys, ev, h2, notin_take rl.nd ha hr, RVs.frzBy ih _ _ _ hr2 e1⟩
        | dic ks vs =>
          simp only at e
          obtain ⟨kvs, rfl, hk, hr2⟩ := h3
          split at e
          · rename_i ks' vs' e1 e2
            cases e
            rw [keys_frz _ _ _ hk e1]
            exact ⟨a, kvs, ev, h2, notin_take rl.nd ha hr, hk, RVs.frzBy ih _ _ _ hr2 e2⟩
          · cases e
        | ins c fs => cases e
end

/-! ### the store cut back -/
mutual
theorem low_mono {n m : Nat} (h : n ≤ m) : ∀ d : D, d.low n = true → d.low m = true
  | .non, _ => rfl
  | .bl _, _ => rfl
  | .int _, _ => rfl
  | .str _, _ => rfl
  | .scr _, _ => rfl
  | .tup xs, q => by simp only [D.low] at q ⊢; exact lows_mono h xs q
  | .lst xs, q => by simp only [D.low] at q ⊢; exact lows_mono h xs q
  | .dic ks vs, q => by simp only [D.low, Bool.and_eq_true] at q ⊢; exact ⟨lows_mono h ks q.1, lows_mono h vs q.2⟩
  | .ref k, q => by simp only [D.low, decide_eq_true_eq] at q ⊢; omega
theorem lows_mono {n m : Nat} (h : n ≤ m) : ∀ ds : List D, D.lows n ds = true → D.lows m ds = true
  | [], _ => rfl
  | d :: ds, q => by simp only [D.lows, Bool.and_eq_true] at q ⊢; exact ⟨low_mono h d q.1, lows_mono h ds q.2⟩
end
theorem lowAll {n : Nat} {K : PySem.W.Frag} {H : Hp} {μ : List Addr} : ∀ (ds : List D) (xs : List V), RVs K H μ ds xs → μ.length ≤ n → D.lows n ds = true := fun ds xs h l => by
  have q := RVs.lowOf ds xs h
  exact lows_mono l ds q
theorem Obj.low_of {G : Gb} {H : Hp} {μ : List Addr} {o : Mi.Obj} {ho : HO} (r : RO G H μ o ho) : o.low μ.length = true := by
  cases o with
  | lst ds => obtain ⟨xs, _, h⟩ := r; exact RVs.lowOf ds xs h
  | dic ks vs =>
    obtain ⟨kvs, _, hk, h⟩ := r
    simp only [Obj.low, Bool.and_eq_true]
    exact ⟨keys_low ks kvs hk, RVs.lowOf vs _ h⟩
  | ins c fs => obtain ⟨dx, fv, _, _, h⟩ := r; exact RVs.lowOf _ _ h
theorem Rl.low {G : Gb} {S : Store} {μ : List Addr} {H : Hp} (r : Rl G S μ H) : lowS S.length S = true := by
  unfold lowS
  rw [List.all_eq_true]
  intro o ho
  obtain ⟨n, hn⟩ := List.mem_iff_getElem?.mp ho
  obtain ⟨a, h, _, _, ro⟩ := r.at hn
  rw [← r.len]
  exact Obj.low_of ro
theorem RO.take {G : Gb} {H : Hp} {μ : List Addr} {n0 : Nat} (m : Muts H μ) {o : Mi.Obj} {ho : HO} (r : RO G H μ o ho) (l : o.low n0 = true) : RO G H (μ.take n0) o ho := by
  have hp : ∀ i, i < n0 → (μ.take n0)[i]? = μ[i]? := fun i hi => by rw [List.getElem?_take, if_pos hi]
  cases o with
  | lst ds => obtain ⟨xs, e, h⟩ := r; exact ⟨xs, e, RVs.goL m Go.take n0 hp ds xs l h⟩
  | dic ks vs =>
    obtain ⟨kvs, e, hk, h⟩ := r
    simp only [Obj.low, Bool.and_eq_true] at l
    exact ⟨kvs, e, hk, RVs.goL m Go.take n0 hp vs _ l.2 h⟩
  | ins c fs => obtain ⟨dx, fv, e, hk, h⟩ := r; exact ⟨dx, fv, e, hk, RVs.goL m Go.take n0 hp _ _ l h⟩
theorem Rl.take {G : Gb} {S : Store} {μ : List Addr} {H : Hp} {n0 : Nat} (r : Rl G S μ H) (l : lowS n0 (S.take n0) = true) : Rl G (S.take n0) (μ.take n0) H := by
  refine ⟨by simp [r.len], r.nd.sublist (List.take_sublist _ _), fun n a h => ?_⟩
  rw [List.getElem?_take] at h
  split at h
  · rename_i hn
    obtain ⟨o, ho, h1, h2, h3⟩ := r.obj n a h
    have e : (S.take n0)[n]? = some o := by rw [List.getElem?_take, if_pos hn]; exact h1
    exact ⟨o, ho, e, h2, h3.take r.muts (List.all_eq_true.mp l o (List.mem_of_getElem? e))⟩
  · cases h
/-- what stood at the entry, at the end -/
theorem clean_take {G : Gb} {S0 S : Store} {μ0 μ : List Addr} {H0 H : Hp} (r0 : Rl G S0 μ0 H0) (r : Rl G S μ H) (p : μ0 <+: μ) (h : cleanS S0 S = true) : Rl G (S.take S0.length) μ0 H ∧ μ.take S0.length = μ0 := by
  have e : μ.take S0.length = μ0 := by
    obtain ⟨t, rfl⟩ := p
    rw [← r0.len]
    simp
  refine ⟨?_, e⟩
  have l : lowS S0.length (S.take S0.length) = true := by
    unfold cleanS at h
    rw [Bool.and_eq_true, decide_eq_true_eq, List.all_eq_true] at h
    unfold lowS
    rw [List.all_eq_true]
    intro o ho
    obtain ⟨i, hi⟩ := List.mem_iff_getElem?.mp ho
    rw [List.getElem?_take] at hi
    split at hi
    · rename_i hlt
      have h0 : S0[i]? = some S0[i] := List.getElem?_eq_getElem hlt
      have m : (S0[i], o) ∈ S0.zip S := List.mem_of_getElem? (i := i) (List.getElem?_zip_eq_some.mpr ⟨h0, hi⟩)
      have z := h.2 _ m
      rw [Bool.or_eq_true] at z
      rcases z with z | z
      · have ez : S0[i] = o := of_decide_eq_true z
        rw [← ez]
        exact List.all_eq_true.mp r0.low _ (List.mem_of_getElem? h0)
      · exact z
    · cases hi
  have q := r.take l
  rw [e] at q
  exact q

/-! ### data to be compared or shown -/
mutual
theorem dp_of {K : PySem.W.Frag} {H : Hp} {μ : List Addr} : ∀ (n : Nat) (d : D) (v : V), d.plain n = true → RV K H μ d v → Dp K H v (toPy d)
  | _, .non, _, _, h => by rw [show _ = V.non from h]; exact .non
  | _, .bl b, _, _, h => by rw [show _ = V.bl b from h]; exact .bl b
  | _, .int i, _, _, h => by rw [show _ = V.int i from h]; exact .int i
  | _, .str cs, _, _, h => by rw [show _ = V.str (txt cs) from h]; exact .str _
  | 0, .tup _, _, p, _ => by simp [D.plain] at p
  | 0, .lst _, _, p, _ => by simp [D.plain] at p
  | n + 1, .tup xs, _, p, ⟨a, ys, e, hs, hr⟩ => by
    rw [e]; simp only [toPy]; exact .tup hs (dps_of n xs ys (by simpa [D.plain] using p) hr)
  | n + 1, .lst xs, _, p, ⟨a, ys, e, hs, _, hr⟩ => by
    rw [e]; simp only [toPy]; exact .lst (SqL.of hs) (dps_of n xs ys (by simpa [D.plain] using p) hr)
  | 0, .dic _ _, _, p, _ => by simp [D.plain] at p
  | n + 1, .dic _ _, _, p, _ => by simp [D.plain] at p
  | 0, .scr _, _, p, _ => by simp [D.plain] at p
  | n + 1, .scr _, _, p, _ => by simp [D.plain] at p
  | 0, .ref _, _, p, _ => by simp [D.plain] at p
  | n + 1, .ref _, _, p, _ => by simp [D.plain] at p
theorem dps_of {K : PySem.W.Frag} {H : Hp} {μ : List Addr} : ∀ (n : Nat) (ds : List D) (xs : List V), D.plains n ds = true → RVs K H μ ds xs → DpAll K H xs (toPys ds)
  | _, [], _, _, h => by rw [show _ = [] from h]; exact .nil
  | n, d :: ds, _, p, ⟨x, r, e, h1, h2⟩ => by
    have p' : d.plain n = true ∧ D.plains n ds = true := by cases n <;> simpa [D.plains] using p
    rw [e]; simp only [toPys]
    exact .cons (dp_of n d x p'.1 h1) (dps_of n ds r p'.2 h2)
end
mutual
theorem plain_depth : ∀ (n : Nat) (d : D), d.plain n = true → (toPy d).depth ≤ n ∧ (toPy d).canLay0 = true
  | n, .non, _ => by simp [toPy, PyData.depth, PyData.canLay0]
  | n, .bl b, _ => by simp [toPy, PyData.depth, PyData.canLay0]
  | n, .int i, _ => by simp [toPy, PyData.depth, PyData.canLay0]
  | n, .str cs, p => by
    have p' : (cs.all fun c => decide (c < 1114112)) = true := by cases n <;> simpa [D.plain] using p
    refine ⟨by simp [toPy, PyData.depth], ?_⟩
    simp only [toPy, PyData.canLay0, PyData.strOk]
    simpa using p'
  | 0, .tup _, p => by simp [D.plain] at p
  | 0, .lst _, p => by simp [D.plain] at p
  | n + 1, .tup xs, p => by
    have q := plains_depth n xs (by simpa [D.plain] using p)
    simp only [toPy, PyData.depth, PyData.canLay0]
    exact ⟨by omega, q.2⟩
  | n + 1, .lst xs, p => by
    have q := plains_depth n xs (by simpa [D.plain] using p)
    simp only [toPy, PyData.depth, PyData.canLay0]
    exact ⟨by omega, q.2⟩
  | 0, .dic _ _, p => by simp [D.plain] at p
  | n + 1, .dic _ _, p => by simp [D.plain] at p
  | 0, .scr _, p => by simp [D.plain] at p
  | n + 1, .scr _, p => by simp [D.plain] at p
  | 0, .ref _, p => by simp [D.plain] at p
  | n + 1, .ref _, p => by simp [D.plain] at p
theorem plains_depth : ∀ (n : Nat) (ds : List D), D.plains n ds = true → PyData.depthAll (toPys ds) ≤ n ∧ PyData.canLayAll0 (toPys ds) = true
  | n, [], _ => by simp [toPys, PyData.depthAll, PyData.canLayAll0]
  | n, d :: ds, p => by
    have p' : d.plain n = true ∧ D.plains n ds = true := by cases n <;> simpa [D.plains] using p
    have a := plain_depth n d p'.1
    have b := plains_depth n ds p'.2
    simp only [toPys, PyData.depthAll, PyData.canLayAll0, Bool.and_eq_true]
    exact ⟨by omega, a.2, b.2⟩
end
theorem shaped_of {d : D} (p : d.plain eqDepth = true) : SeqAt.shaped (toPy d) = true := by
  have q := plain_depth eqDepth d p
  have z : (toPy d).depth ≤ 60 := q.1
  simp only [SeqAt.shaped, q.2, Bool.true_and, decide_eq_true_eq]
  omega
theorem txt_beq (a b : List Nat) : ((⟨a.toArray⟩ : Str) == ⟨b.toArray⟩) = (a == b) := by
  by_cases h : a = b
  · subst h; simp
  · have h2 : ¬ (⟨a.toArray⟩ : Str) = ⟨b.toArray⟩ := fun e => h (txt_inj (show txt a = txt b from e))
    rw [beq_eq_false_iff_ne.mpr h, beq_eq_false_iff_ne.mpr h2]
mutual
theorem eqv_ok : ∀ (n m : Nat) (a b : D), a.plain n = true → b.plain m = true → PyData.eqv (toPy a) (toPy b) = D.eqv a b
  | n, m, .non, b, _, q => by
    cases b <;> first | (simp [toPy, PyData.eqv, D.eqv]; done) | (cases m <;> simp [D.plain] at q)
  | n, m, .bl x, b, _, q => by
    cases b <;> first | (simp [toPy, PyData.eqv, D.eqv, bi]; done) | (cases m <;> simp [D.plain] at q)
  | n, m, .int x, b, _, q => by
    cases b <;> first | (simp [toPy, PyData.eqv, D.eqv, bi]; done) | (cases m <;> simp [D.plain] at q)
  | n, m, .str x, b, _, q => by
    cases b <;> first | (simp [toPy, PyData.eqv, D.eqv]; done) | (simp only [toPy, PyData.eqv, D.eqv, txt_beq]; done) | (cases m <;> simp [D.plain] at q)
  | 0, _, .tup _, _, p, _ => by simp [D.plain] at p
  | 0, _, .lst _, _, p, _ => by simp [D.plain] at p
  | n + 1, m, .tup xs, b, p, q => by
    cases b <;> first
      | (cases m with
          | zero => simp [D.plain] at q
          | succ m => simp only [toPy, PyData.eqv, D.eqv]; exact eqvs_ok n m _ _ (by simpa [D.plain] using p) (by simpa [D.plain] using q))
      | (simp [toPy, PyData.eqv, D.eqv]; done) | (cases m <;> simp [D.plain] at q)
  | n + 1, m, .lst xs, b, p, q => by
    cases b <;> first
      | (cases m with
          | zero => simp [D.plain] at q
          | succ m => simp only [toPy, PyData.eqv, D.eqv]; exact eqvs_ok n m _ _ (by simpa [D.plain] using p) (by simpa [D.plain] using q))
      | (simp [toPy, PyData.eqv, D.eqv]; done) | (cases m <;> simp [D.plain] at q)
  | 0, _, .dic _ _, _, p, _ => by simp [D.plain] at p
  | n + 1, _, .dic _ _, _, p, _ => by simp [D.plain] at p
  | 0, _, .scr _, _, p, _ => by simp [D.plain] at p
  | n + 1, _, .scr _, _, p, _ => by simp [D.plain] at p
  | 0, _, .ref _, _, p, _ => by simp [D.plain] at p
  | n + 1, _, .ref _, _, p, _ => by simp [D.plain] at p
theorem eqvs_ok : ∀ (n m : Nat) (a b : List D), D.plains n a = true → D.plains m b = true → PyData.eqvAll (toPys a) (toPys b) = D.eqvs a b
  | n, m, [], [], _, _ => by simp [toPys, PyData.eqvAll, D.eqvs]
  | n, m, [], _ :: _, _, _ => by simp [toPys, PyData.eqvAll, D.eqvs]
  | n, m, _ :: _, [], _, _ => by simp [toPys, PyData.eqvAll, D.eqvs]
  | n, m, a :: as, b :: bs, p, q => by
    have p' : a.plain n = true ∧ D.plains n as = true := by cases n <;> simpa [D.plains] using p
    have q' : b.plain m = true ∧ D.plains m bs = true := by cases m <;> simpa [D.plains] using q
    simp only [toPys, PyData.eqvAll, D.eqvs]
    rw [eqv_ok n m a b p'.1 q'.1, eqvs_ok n m as bs p'.2 q'.2]
end
theorem flat_ok {G : Gb} {S : Store} {μ : List Addr} {H : Hp} (rl : Rl G S μ H) {d v : D} {x : V} (h : RV G.K H μ d x) (e : flatD S d = some v) : Dp G.K H x (toPy v) ∧ v.plain eqDepth = true := by
  unfold flatD at e
  split at e
  · rename_i v' e1
    split at e
    · rename_i hp
      cases e
      exact ⟨dp_of _ _ _ hp (frz_ok rl _ _ _ _ h e1), hp⟩
    · cases e
  · cases e
end Mi
/-! Operations by values. -/
namespace Mi
open PySem L2
theorem insI_perm (x : Int) : ∀ l : List Int, (insI x l).Perm (x :: l)
  | [] => .refl _
  | y :: r => by
    unfold insI
    split
    · exact .refl _
    · exact (List.Perm.cons y (insI_perm x r)).trans (List.Perm.swap x y r)
theorem sortI_perm : ∀ l : List Int, (sortI l).Perm l
  | [] => .refl _
  | x :: r => (insI_perm x (sortI r)).trans (List.Perm.cons x (sortI_perm r))
theorem insI_sorted (x : Int) : ∀ l : List Int, l.Pairwise (· ≤ ·) → (insI x l).Pairwise (· ≤ ·)
  | [], _ => by simp [insI]
  | y :: r, h => by
    unfold insI
    obtain ⟨h1, h2⟩ := List.pairwise_cons.mp h
    split
    · rename_i c
      refine List.pairwise_cons.mpr ⟨fun z hz => ?_, h⟩
      rcases List.mem_cons.mp hz with rfl | hz
      · exact c
      · have := h1 z hz; omega
    · rename_i c
      refine List.pairwise_cons.mpr ⟨fun z hz => ?_, insI_sorted x r h2⟩
      rcases List.mem_cons.mp ((insI_perm x r).mem_iff.mp hz) with rfl | hz
      · omega
      · exact h1 z hz
theorem sortI_sorted : ∀ l : List Int, (sortI l).Pairwise (· ≤ ·)
  | [] => .nil
  | x :: r => insI_sorted x _ (sortI_sorted r)
theorem sorted_one : ∀ {l l' : List Int}, l.Perm l' → l.Pairwise (· ≤ ·) → l'.Pairwise (· ≤ ·) → l = l'
  | [], l', h, _, _ => (List.Perm.nil_eq h)
  | x :: r, [], h, _, _ => by have := h.length_eq; simp at this
  | x :: r, y :: r', h, a, b => by
    obtain ⟨a1, a2⟩ := List.pairwise_cons.mp a
    obtain ⟨b1, b2⟩ := List.pairwise_cons.mp b
    have e : x = y := by
      have hx : x ∈ y :: r' := h.mem_iff.mp List.mem_cons_self
      have hy : y ∈ x :: r := h.mem_iff.mpr List.mem_cons_self
      rcases List.mem_cons.mp hx with e | hx
      · exact e
      · rcases List.mem_cons.mp hy with e | hy
        · exact e.symm
        · have := a1 y hy; have := b1 x hx; omega
    subst e
    rw [sorted_one (List.Perm.cons_inv h) a2 b2]
theorem maxI_ok : ∀ {ns : List Int} {m : Int}, maxI ns = some m → m ∈ ns ∧ ∀ y ∈ ns, y ≤ m
  | [], _, h => by cases h
  | x :: r, m, h => by
    simp only [maxI] at h
    split at h
    · rename_i e
      cases r with
      | nil => cases h; simp
      | cons y r => simp only [maxI] at e; split at e <;> cases e
    · rename_i y e
      obtain ⟨h1, h2⟩ := maxI_ok e
      by_cases c : x < y
      · rw [if_pos c] at h; cases h
        exact ⟨List.mem_cons_of_mem _ h1, fun z hz => by rcases List.mem_cons.mp hz with rfl | hz; omega; exact h2 z hz⟩
      · rw [if_neg c] at h; cases h
        exact ⟨List.mem_cons_self, fun z hz => by rcases List.mem_cons.mp hz with rfl | hz; omega; have := h2 z hz; omega⟩
/-- an exception: its class's number, its fields -/
def RX (G : Gb) (H : Hp) (μ : List Addr) (c : Nat) (fs : List (Nat × D)) (cv : Value) (od : Option Addr) : Prop :=
  cv = .ref (G.cls c) ∧ ((fs = [] ∧ od = none) ∨ ∃ d fv, od = some d ∧ H d = some (.xd fv) ∧ fv.map (·.1) = fs.map (fun p => G.fld p.1) ∧ RVs G.K H μ (fs.map (·.2)) (fv.map (·.2)))
/-- what is wanted of the outcome of any part -/
def OutG (G : Gb) (W : WX) (σ : L2.St) (μ : List Addr) (H : Hp) {α β : Type} (RR : Hp → List Addr → α → β → Prop) (r : Rs α) (Q : β → Hp → Prop) : Prop := match r with
  | .ok a S' => ∀ b H' μ', Rl G S' μ' H' → Go H μ H' μ' → μ <+: μ' → RR H' μ' a b → Q b H'
  | .exc c fs S' => ∀ cv od H' μ', Rl G S' μ' H' → Go H μ H' μ' → μ <+: μ' → RX G H' μ' c fs cv od → W cv od σ H'
  | .bad => False
/-- what is wanted of an expression's outcome -/
abbrev OutE (G : Gb) (W : WX) (σ : L2.St) (μ : List Addr) (H : Hp) (r : Rs D) (Q : VK) : Prop := OutG G W σ μ H (RV G.K) r Q
section
variable {G : Gb} {W : WX} {σ : L2.St} {S : Store} {μ : List Addr} {H : Hp} {Q : VK} {d : D} {v : V}
theorem OutE.later {H1 : Hp} {μ1 : List Addr} {r : Rs D} (o : OutE G W σ μ H r Q) (g : Go H μ H1 μ1) (p : μ <+: μ1) : OutE G W σ μ1 H1 r Q := by
  cases r with
  | ok d S' => exact fun v H' μ' a b c e => o v H' μ' a (g.trans b) (p.trans c) e
  | exc c fs S' => exact fun cv od H' μ' a b c e => o cv od H' μ' a (g.trans b) (p.trans c) e
  | bad => exact o
theorem OutE.val (o : OutE G W σ μ H (.ok d S) Q) (rl : Rl G S μ H) (h : RV G.K H μ d v) : Q v H := o v H μ rl Go.refl (List.prefix_refl _) h
theorem OutE.tup {ds : List D} {xs : List V} (o : OutE G W σ μ H (.ok (.tup ds) S) Q) (rl : Rl G S μ H) (h : RVs G.K H μ ds xs) (p : Addr) (hp : H p = none) : Q (.ref p) (upd H p (.tup xs)) := by
  have g : Go H μ (upd H p (.tup xs)) μ := Go.beside hp (rl.notin hp)
  exact o _ _ μ (rl.beside hp) g (List.prefix_refl _) ⟨p, xs, rfl, SqT.of upd_same, h.go rl.muts g (List.prefix_refl _)⟩
theorem OutE.newT {ds : List D} {xs : List V} (o : OutE G W σ μ H (newT ds S) Q) (rl : Rl G S μ H) (h : RVs G.K H μ ds xs) : xs.length ≤ sizeLine ∧ ∀ p, H p = none → Q (.ref p) (upd H p (.tup xs)) := by
  unfold Mi.newT at o
  split at o
  · rename_i hl
    exact ⟨by rw [← h.length, sizeLine_eq]; exact hl, fun p hp => o.tup rl h p hp⟩
  · exact o.elim
theorem OutE.newL {m : Bool} {ds : List D} {xs : List V} (o : OutE G W σ μ H (newL m ds S) Q) (rl : Rl G S μ H) (h : RVs G.K H μ ds xs) : xs.length ≤ sizeLine ∧ ∀ p, H p = none → Q (.ref p) (upd H p (.lst xs)) := by
  unfold Mi.newL at o
  split at o
  · rename_i hl
    refine ⟨by rw [← h.length, sizeLine_eq]; exact hl, fun p hp => ?_⟩
    cases m with
    | true =>
      have g : Go H μ (upd H p (.lst xs)) (μ ++ [p]) := Go.push hp
      refine o _ _ (μ ++ [p]) (rl.push (o := .lst ds) hp ⟨xs, rfl, h⟩) g (List.prefix_append _ _) ⟨p, rfl, ?_⟩
      rw [← rl.len]; simp
    | false =>
      have g : Go H μ (upd H p (.lst xs)) μ := Go.beside hp (rl.notin hp)
      exact o _ _ μ (rl.beside hp) g (List.prefix_refl _) ⟨p, xs, rfl, upd_same, rl.notin hp, h.go rl.muts g (List.prefix_refl _)⟩
  · exact o.elim
theorem OutE.set {r : Nat} {a : Addr} {o' : Mi.Obj} {ho : HO} (o : OutE G W σ μ H (.ok d (S.set r o')) Q) (rl : Rl G S μ H) (ha : μ[r]? = some a) (ro : RO G H μ o' ho) (h : RV G.K H μ d v) : Q v (upd H a ho) := by
  have g : Go H μ (upd H a ho) μ := Go.set (List.mem_of_getElem? ha)
  exact o _ _ μ (rl.set ha ro) g (List.prefix_refl _) (h.go rl.muts g (List.prefix_refl _))

/-! ### items -/
theorem items_any (rl : Rl G S μ H) {ds : List D} (h : RV G.K H μ d v) (e : items S d = some ds) : ∃ a xs, v = .ref a ∧ (SqL G.K H a xs ∨ SqT G.K H a xs) ∧ RVs G.K H μ ds xs := by
  cases d with
  | lst xs => cases e; obtain ⟨a, ys, ev, hs, _, hr⟩ := h; exact ⟨a, ys, ev, .inl (SqL.of hs), hr⟩
  | tup xs => cases e; obtain ⟨a, ys, ev, hs, hr⟩ := h; exact ⟨a, ys, ev, .inr hs, hr⟩
  | scr ns =>
    cases e
    obtain ⟨a, ev, hs⟩ := h
    refine ⟨a, ns.map .int, ev, .inl ?_, RVs.ofInts ns⟩
    rcases hs with ⟨o, hs⟩ | hs
    · exact .inl (.inr ⟨o, hs⟩)
    · exact hs H
  | ref r =>
    obtain ⟨a, ev, ha⟩ := h
    obtain ⟨o, ho, h1, h2, h3⟩ := rl.obj r a ha
    simp only [items, h1] at e
    cases o with
    | lst xs => cases e; obtain ⟨ys, rfl, hr⟩ := h3; exact ⟨a, ys, ev, .inl (SqL.of h2), hr⟩
    | dic _ _ => cases e
    | ins _ _ => cases e
  | _ => cases e
theorem items_list (rl : Rl G S μ H) {ds : List D} (h : RV G.K H μ d v) (e : items S d = some ds) (n : ∀ xs, d ≠ .tup xs) : ∃ a xs, v = .ref a ∧ SqL G.K H a xs ∧ RVs G.K H μ ds xs := by
  cases d with
  | lst xs => cases e; obtain ⟨a, ys, ev, hs, _, hr⟩ := h; exact ⟨a, ys, ev, SqL.of hs, hr⟩
  | tup xs => exact absurd rfl (n xs)
  | scr ns =>
    cases e
    obtain ⟨a, ev, hs⟩ := h
    refine ⟨a, ns.map .int, ev, ?_, RVs.ofInts ns⟩
    rcases hs with ⟨o, hs⟩ | hs
    · exact .inl (.inr ⟨o, hs⟩)
    · exact hs H
  | ref r =>
    obtain ⟨a, ev, ha⟩ := h
    obtain ⟨o, ho, h1, h2, h3⟩ := rl.obj r a ha
    simp only [items, h1] at e
    cases o with
    | lst xs => cases e; obtain ⟨ys, rfl, hr⟩ := h3; exact ⟨a, ys, ev, SqL.of h2, hr⟩
    | dic _ _ => cases e
    | ins _ _ => cases e
  | _ => cases e
theorem items_own (rl : Rl G S μ H) {ds : List D} (h : RV G.K H μ d v) (e : items S d = some ds) (n : ∀ xs, d ≠ .tup xs) (n2 : ∀ xs, d ≠ .scr xs) : ∃ a xs, v = .ref a ∧ H a = some (.lst xs) ∧ RVs G.K H μ ds xs := by
  cases d with
  | lst xs => cases e; obtain ⟨a, ys, ev, hs, _, hr⟩ := h; exact ⟨a, ys, ev, hs, hr⟩
  | tup xs => exact absurd rfl (n xs)
  | scr xs => exact absurd rfl (n2 xs)
  | ref r =>
    obtain ⟨a, ev, ha⟩ := h
    obtain ⟨o, ho, h1, h2, h3⟩ := rl.obj r a ha
    simp only [items, h1] at e
    cases o with
    | lst xs => cases e; obtain ⟨ys, rfl, hr⟩ := h3; exact ⟨a, ys, ev, h2, hr⟩
    | dic _ _ => cases e
    | ins _ _ => cases e
  | _ => cases e
/-- what stands behind a reference -/
theorem ref_obj (rl : Rl G S μ H) {r : Nat} {o : Mi.Obj} (h : RV G.K H μ (.ref r) v) (e : S[r]? = some o) : ∃ a ho, v = .ref a ∧ μ[r]? = some a ∧ H a = some ho ∧ RO G H μ o ho := by
  obtain ⟨a, ev, ha⟩ := h
  obtain ⟨o', ho, h1, h2, h3⟩ := rl.obj r a ha
  rw [e] at h1; cases h1
  exact ⟨a, ho, ev, ha, h2, h3⟩

/-! ### two values -/
/-- what an operation of two values wants -/
def r2 (G : Gb) (W : WX) (o : B2) : R2 := fun x y H Q => ∃ (S : Store) (μ : List Addr) (σ : L2.St) (a b : D), Rl G S μ H ∧ RV G.K H μ a x ∧ RV G.K H μ b y ∧ OutE G W σ μ H (ev2 o a b S) Q
variable {X : Cx} (hK : X.K = G.K)
theorem line_eq : line = sizeLine := by rw [sizeLine_eq]; rfl
theorem txt_app (a b : List Nat) : txt a ++ txt b = txt (a ++ b) := by
  show Str.append _ _ = _
  simp [Str.append, txt]
theorem txt_len (a : List Nat) : (txt a).length = a.length := by simp [txt, Str.length]
include hK
theorem ok_add {m : Bool} : OpR X (binaryOp .Add) (r2 G W (.add m)) := by
  rintro pins s σ' H x y v u Q I rx ry ⟨S, μ, σ, a, b, rl, ha, hb, o⟩
  have o : OutE G W σ μ H (evAdd m a b S) Q := o
  unfold evAdd at o
  split at o
  · split at o
    · cases (show x = _ from ha); cases (show y = _ from hb)
      exact op_add pins s σ' H _ _ v u Q I rx ry ⟨_, _, rfl, rfl, o.val rl rfl⟩
    · exact o.elim
  · split at o
    · split at o
      · rename_i hl
        cases (show x = _ from ha); cases (show y = _ from hb)
        refine op_add_str pins s σ' H _ _ v u Q I rx ry ⟨_, _, rfl, rfl, by rw [txt_len, txt_len, ← line_eq]; exact hl, o.val rl ?_⟩
        rw [txt_app]; exact rfl
      · exact o.elim
    · exact o.elim
  · split at o
    · obtain ⟨p, xs, rfl, h1, r1⟩ := ha
      obtain ⟨q, ys, rfl, h2, r2⟩ := hb
      have n := o.newT rl (r1.append r2)
      refine op_catA pins s σ' H _ _ v u Q I rx ry ⟨p, q, xs, ys, rfl, rfl, by rw [hK]; exact h1, by rw [hK]; exact h2, by rw [← List.length_append]; exact n.1, fun e => ?_, fun _ e => ?_, fun _ _ => n.2⟩
      · unfold Mi.newT at o
        split at o
        · refine o.val rl ⟨q, ys, rfl, h2, ?_⟩
          have := r1.append r2
          rw [e] at this
          exact this
        · exact o.elim
      · unfold Mi.newT at o
        split at o
        · refine o.val rl ⟨p, xs, rfl, h1, ?_⟩
          have := r1.append r2
          rw [e, List.append_nil] at this
          exact this
        · exact o.elim
    · exact o.elim
  · exact o.elim
  · split at o
    · exact o.elim
    · exact o.elim
    · rename_i n1 n2 n3 n4
      split at o
      · rename_i xs' ys' e1 e2
        obtain ⟨p, xs, rfl, h1, r1⟩ := items_own rl ha e1 (fun z q => by subst q; simp_all) (fun z q => by subst q; simp_all)
        obtain ⟨q, ys, rfl, h2, r2⟩ := items_own rl hb e2 (fun z q => by subst q; simp_all) (fun z q => by subst q; simp_all)
        have n := o.newL rl (r1.append r2)
        exact op_cat pins s σ' H _ _ v u Q I rx ry ⟨p, q, xs, ys, rfl, rfl, h1, h2, by rw [← List.length_append]; exact n.1, n.2⟩
      · exact o.elim
theorem ok_sub : OpR X (binaryOp .Sub) (r2 G W .sub) := by
  rintro pins s σ' H x y v u Q I rx ry ⟨S, μ, σ, a, b, rl, ha, hb, o⟩
  simp only [ev2] at o
  split at o
  · split at o
    · cases (show x = _ from ha); cases (show y = _ from hb)
      exact op_sub pins s σ' H _ _ v u Q I rx ry ⟨_, _, rfl, rfl, o.val rl rfl⟩
    · exact o.elim
  · exact o.elim
theorem wide_lt64 {i : Int} (h : wide i = true) : -(2 ^ 64) < i ∧ i < 2 ^ 64 := by
  unfold wide at h
  simp only [decide_eq_true_eq] at h
  omega
theorem ok_mul {m : Bool} : OpR X (binaryOp .Mult) (r2 G W (.mul m)) := by
  rintro pins s σ' H x y v u Q I rx ry ⟨S, μ, σ, a, b, rl, ha, hb, o⟩
  simp only [ev2] at o
  split at o
  · split at o
    · split at o
      · rename_i hw
        cases (show x = _ from ha); cases (show y = _ from hb)
        refine op_mul pins s σ' H _ _ v u Q I rx ry ⟨_, _, rfl, rfl, ?_, o.val rl rfl⟩
        rcases (Bool.or_eq_true _ _).mp hw with z | z
        · exact .inl (wide_lt64 (X := X) hK z)
        · exact .inr (wide_lt64 (X := X) hK z)
      · exact o.elim
    · exact o.elim
  · split at o
    · split at o
      · rename_i hw
        obtain ⟨p, xs, rfl, h1, _, r1⟩ := ha
        cases (show y = _ from hb)
        have n := o.newL rl (r1.rep _)
        refine op_rep pins s σ' H _ _ v u Q I rx ry ⟨p, _, xs, rfl, rfl, h1, by omega, by omega, ?_, n.2⟩
        have := n.1
        simpa [Nat.mul_comm] using this
      · exact o.elim
    · exact o.elim
  · exact o.elim
theorem ok_div : OpR X (binaryOp .FloorDiv) (r2 G W .div) := by
  rintro pins s σ' H x y v u Q I rx ry ⟨S, μ, σ, a, b, rl, ha, hb, o⟩
  simp only [ev2] at o
  split at o
  · split at o
    · split at o
      · rename_i hw
        cases (show x = _ from ha); cases (show y = _ from hb)
        refine op_fdivW pins s σ' H _ _ v u Q I rx ry ⟨_, _, rfl, rfl, wide_div (b := 80) hw.1 ?_ (by decide) (by decide), o.val rl rfl⟩
        have := hw.2
        omega
      · exact o.elim
    · exact o.elim
  · exact o.elim
theorem ok_mod : OpR X (binaryOp .Mod) (r2 G W .mod) := by
  rintro pins s σ' H x y v u Q I rx ry ⟨S, μ, σ, a, b, rl, ha, hb, o⟩
  simp only [ev2] at o
  split at o
  · split at o
    · split at o
      · rename_i hw
        cases (show x = _ from ha); cases (show y = _ from hb)
        exact op_mod pins s σ' H _ _ v u Q I rx ry ⟨_, _, rfl, rfl, hw, o.val rl rfl⟩
      · exact o.elim
    · exact o.elim
  · exact o.elim
theorem ok_pow : OpR X (binaryOp .Pow) (r2 G W .pow) := by
  rintro pins s σ' H x y v u Q I rx ry ⟨S, μ, σ, a, b, rl, ha, hb, o⟩
  simp only [ev2] at o
  split at o
  · split at o
    · split at o
      · rename_i hw
        cases (show x = _ from ha); cases (show y = _ from hb)
        have := hw.2.2
        unfold wide at this
        simp only [decide_eq_true_eq] at this
        exact op_pow pins s σ' H _ _ v u Q I rx ry ⟨_, _, rfl, rfl, ⟨hw.1, by omega, by omega⟩, o.val rl rfl⟩
      · exact o.elim
    · exact o.elim
  · exact o.elim
theorem ok_cmp {op : CmpOp} {o : B2} {f : Int → Int → Bool} (h : OpR X (compareOp op) (rI0 fun i j => .bl (f i j))) (e : ∀ a b S, ev2 o a b S = cmpI f a b S) : OpR X (compareOp op) (r2 G W o) := by
  rintro pins s σ' H x y v u Q I rx ry ⟨S, μ, σ, a, b, rl, ha, hb, o⟩
  rw [e] at o
  unfold cmpI at o
  split at o
  · split at o
    · cases (show x = _ from ha); cases (show y = _ from hb)
      exact h pins s σ' H _ _ v u Q I rx ry ⟨_, _, rfl, rfl, o.val rl rfl⟩
    · exact o.elim
  · exact o.elim
theorem ok_lt : OpR X (compareOp .Lt) (r2 G W .lt) := ok_cmp hK op_lt fun _ _ _ => rfl
theorem ok_le : OpR X (compareOp .LtE) (r2 G W .le) := ok_cmp hK op_le fun _ _ _ => rfl
theorem ok_gt : OpR X (compareOp .Gt) (r2 G W .gt) := ok_cmp hK op_gt fun _ _ _ => rfl
theorem ok_ge : OpR X (compareOp .GtE) (r2 G W .ge) := ok_cmp hK op_ge fun _ _ _ => rfl
theorem str_eq {a b : D} {x y : V} {H : Hp} {μ : List Addr} {t : Bool} (ha : RV G.K H μ a x) (hb : RV G.K H μ b y) (e : strEq a b = some t) : scal x y = true ∧ decide (x = y) = t := by
  unfold strEq at e
  split at e
  · rename_i cs cs'
    cases e
    rw [show x = _ from ha, show y = _ from hb]
    refine ⟨rfl, ?_⟩
    rw [Bool.eq_iff_iff, decide_eq_true_eq, beq_iff_eq]
    constructor
    · intro h
      injection h with h
      exact txt_inj h
    · intro h
      rw [h]
  · cases e
theorem ok_eq (hu : X.A.units + 64 < cLine) : OpR X (compareOp .Eq) (r2 G W .eq) := by
  rintro pins s σ' H x y v u Q I rx ry ⟨S, μ, σ, a, b, rl, ha, hb, o⟩
  simp only [ev2, evEq] at o
  split at o
  · rename_i t et
    obtain ⟨q1, q2⟩ := str_eq hK ha hb et
    refine op_eq pins s σ' H _ _ v u Q I rx ry ⟨q1, ?_⟩
    rw [q2]
    exact o.val rl rfl
  split at o
  · rename_i x' y' e1 e2
    obtain ⟨d1, p1⟩ := flat_ok rl ha e1
    obtain ⟨d2, p2⟩ := flat_ok rl hb e2
    refine op_eqD hu pins s σ' H _ _ v u Q I rx ry ⟨_, _, by rw [hK]; exact d1, by rw [hK]; exact d2, shaped_of p1, shaped_of p2, ?_⟩
    rw [eqv_ok _ _ _ _ p1 p2]
    exact o.val rl rfl
  · exact o.elim
theorem ok_ne (hu : X.A.units + 64 < cLine) : OpR X (compareOp .NotEq) (r2 G W .ne) := by
  rintro pins s σ' H x y v u Q I rx ry ⟨S, μ, σ, a, b, rl, ha, hb, o⟩
  simp only [ev2, evEq] at o
  split at o
  · rename_i t et
    obtain ⟨q1, q2⟩ := str_eq hK ha hb et
    refine op_ne pins s σ' H _ _ v u Q I rx ry ⟨q1, ?_⟩
    rw [q2]
    exact o.val rl rfl
  split at o
  · rename_i x' y' e1 e2
    obtain ⟨d1, p1⟩ := flat_ok rl ha e1
    obtain ⟨d2, p2⟩ := flat_ok rl hb e2
    refine op_neD hu pins s σ' H _ _ v u Q I rx ry ⟨_, _, by rw [hK]; exact d1, by rw [hK]; exact d2, shaped_of p1, shaped_of p2, ?_⟩
    rw [eqv_ok _ _ _ _ p1 p2]
    exact o.val rl rfl
  · exact o.elim
theorem non_iff {a : D} {x : V} {H : Hp} {μ : List Addr} (h : RV G.K H μ a x) : decide (x = .non) = isNon a := by
  cases a with
  | non => rw [show x = _ from h]; rfl
  | bl b => rw [show x = _ from h]; rfl
  | int i => rw [show x = _ from h]; rfl
  | str cs => rw [show x = _ from h]; rfl
  | tup ds => obtain ⟨_, _, rfl, _⟩ := h; rfl
  | lst ds => obtain ⟨_, _, rfl, _⟩ := h; rfl
  | dic ks vs => obtain ⟨_, _, rfl, _⟩ := h; rfl
  | scr ns => obtain ⟨_, rfl, _⟩ := h; rfl
  | ref r => obtain ⟨_, rfl, _⟩ := h; rfl
theorem ok_is : OpR X (compareOp .Is) (r2 G W .is) := by
  rintro pins s σ' H x y v u Q I rx ry ⟨S, μ, σ, a, b, rl, ha, hb, o⟩
  simp only [ev2] at o
  split at o
  · cases (show y = _ from hb)
    refine op_isN pins s σ' H _ _ v u Q I rx ry ⟨rfl, ?_⟩
    rw [non_iff hK ha]
    exact o.val rl rfl
  · exact o.elim
theorem ok_isn : OpR X (compareOp .IsNot) (r2 G W .isn) := by
  rintro pins s σ' H x y v u Q I rx ry ⟨S, μ, σ, a, b, rl, ha, hb, o⟩
  simp only [ev2] at o
  split at o
  · cases (show y = _ from hb)
    refine op_notN pins s σ' H _ _ v u Q I rx ry ⟨rfl, ?_⟩
    rw [non_iff hK ha]
    exact o.val rl rfl
  · split at o
    · cases (show x = _ from ha); cases (show y = _ from hb)
      refine op_notBl pins s σ' H _ _ v u Q I rx ry ⟨_, _, rfl, rfl, ?_⟩
      refine o.val rl ?_
      rename_i c d
      cases c <;> cases d <;> rfl
    · exact o.elim
  · exact o.elim
theorem scal_flat {a : D} {x : V} (h : RV G.K H μ a x) (f : scalar a = true) : flatV x = true := by
  cases a with
  | non => rw [show x = _ from h]; rfl
  | bl b => rw [show x = _ from h]; rfl
  | int i => rw [show x = _ from h]; rfl
  | str cs => rw [show x = _ from h]; rfl
  | _ => cases f
theorem scal_eq {a b : D} {x y : V} (h : RV G.K H μ a x) (k : RV G.K H μ b y) (f : scalar a = true) (g : scalar b = true) : eqV x y = D.eqv a b := by
  cases a <;> first | (cases f; done) | skip
  all_goals cases b <;> first | (cases g; done) | skip
  all_goals rw [show x = _ from h, show y = _ from k]
  all_goals first
    | rfl
    | (show ((txt _ : Str) == txt _) = _; exact txt_beq _ _)
theorem scals_flat : ∀ {ds : List D} {xs : List V}, RVs G.K H μ ds xs → ds.all scalar = true → xs.all flatV = true
  | [], xs, h, _ => by rw [show xs = [] from h]; rfl
  | d :: ds, _, ⟨x, r, e, h, t⟩, f => by
    simp only [List.all_cons, Bool.and_eq_true] at f
    rw [e, List.all_cons, scal_flat hK h f.1, scals_flat t f.2]; rfl
theorem scals_in {a : D} {x : V} (ha : RV G.K H μ a x) (fa : scalar a = true) : ∀ {ds : List D} {xs : List V}, RVs G.K H μ ds xs → ds.all scalar = true → inV x xs = ds.any fun y => D.eqv y a
  | [], xs, h, _ => by rw [show xs = [] from h]; rfl
  | d :: ds, _, ⟨y, r, e, h, t⟩, f => by
    simp only [List.all_cons, Bool.and_eq_true] at f
    have ih := scals_in ha fa t f.2
    unfold inV at ih
    unfold inV
    rw [e, List.any_cons, List.any_cons, scal_eq hK h ha f.1 fa, ih]
theorem ok_inn : OpR X (compareOp .In) (fun x y H Q => ∃ (S : Store) (μ : List Addr) (σ : L2.St) (a b : D), Rl G S μ H ∧ RV G.K H μ a x ∧ RV G.K H μ b y ∧ OutE G W σ μ H (ev2 .inn a b S) Q) := by
  rintro pins s σ' H x y v u Q I rx ry ⟨S, μ, σ, a, b, rl, ha, hb, o⟩
  simp only [ev2, evIn] at o
  split at o
  · rename_i xs ei
    split at o
    rename_i hf
    simp only [Bool.and_eq_true] at hf
    obtain ⟨p, ys, rfl, hs, hr⟩ := items_any rl hb ei
    refine op_in_seq pins s σ' H _ _ v u Q I rx ry ⟨p, ys, rfl, by rw [hK]; exact hs, scal_flat hK ha hf.1, scals_flat hK hr hf.2, ?_⟩
    rw [if_neg (by decide), scals_in hK ha hf.1 hr hf.2]
    exact o.val rl rfl
    exact o.elim
  · exact o.elim
theorem ok_nin : OpR X (compareOp .NotIn) (fun x y H Q => ∃ (S : Store) (μ : List Addr) (σ : L2.St) (a b : D), Rl G S μ H ∧ RV G.K H μ a x ∧ RV G.K H μ b y ∧ OutE G W σ μ H (ev2 .nin a b S) Q) := by
  rintro pins s σ' H x y v u Q I rx ry ⟨S, μ, σ, a, b, rl, ha, hb, o⟩
  simp only [ev2, evIn] at o
  split at o
  · rename_i xs ei
    split at o
    rename_i hf
    simp only [Bool.and_eq_true] at hf
    obtain ⟨p, ys, rfl, hs, hr⟩ := items_any rl hb ei
    refine op_notIn_seq pins s σ' H _ _ v u Q I rx ry ⟨p, ys, rfl, by rw [hK]; exact hs, scal_flat hK ha hf.1, scals_flat hK hr hf.2, ?_⟩
    rw [if_pos rfl, scals_in hK ha hf.1 hr hf.2]
    exact o.val rl rfl
    exact o.elim
  · exact o.elim
theorem place_ix (n : Nat) (i : Int) : place n i = ixN n i := rfl
/-- an item of a list, a tuple, a text -/
theorem ok_ixS : IxR X (fun x y H Q => ∃ (S : Store) (μ : List Addr) (σ : L2.St) (a : D) (i : Int), Rl G S μ H ∧ RV G.K H μ a x ∧ y = .int i ∧ OutE G W σ μ H (ev2 .ix a (.int i) S) Q) := by
  rintro value slice pins s σ' H x y v u Q I rx ry ⟨S, μ, σ, a, i, rl, ha, hy, o⟩ hs
  simp only [ev2, evIx] at o
  split at o
  · split at o
    · rename_i cs hl
      cases (show x = _ from ha)
      split at o
      · rename_i k ek
        split at o
        · rename_i c ec
          refine ix_seq value slice pins s σ' H _ _ v u Q I rx ry (.inr (.inr ⟨_, i, c, rfl, hy, by rw [txt_len, ← line_eq]; exact hl, ?_, o.val rl rfl⟩)) hs
          show (ixN (txt cs).cps.toList.length i).bind _ = _
          have e1 : (txt cs).cps.toList = cs := by simp [txt]
          rw [e1, ← place_ix hK, ek]
          exact ec
        · exact o.elim
      · exact o.elim
    · exact o.elim
  · split at o
    · rename_i xs e
      obtain ⟨p, ys, rfl, h1, hr⟩ := items_any rl ha e
      split at o
      · rename_i k ek
        split at o
        · rename_i d ed
          obtain ⟨z, ez, hz⟩ := hr.get ed
          have ea : atI ys i = some z := by
            unfold atI
            rw [← hr.length, ← place_ix hK, ek]
            exact ez
          rcases h1 with h1 | h1
          · exact ix_seq value slice pins s σ' H _ _ v u Q I rx ry (.inl ⟨p, ys, i, z, rfl, hy, by rw [hK]; exact h1, ea, o.val rl hz⟩) hs
          · exact ix_seq value slice pins s σ' H _ _ v u Q I rx ry (.inr (.inl ⟨p, ys, i, z, rfl, hy, by rw [hK]; exact h1, ea, o.val rl hz⟩)) hs
        · exact o.elim
      · exact o.elim
    · exact o.elim
/-- what a method wants: the receiver, one argument -/
def rM1 (G : Gb) (W : WX) (o : B1) : V → List V → Hp → VK → Prop := fun x xs H Q => ∃ (S : Store) (μ : List Addr) (σ : L2.St) (a : D), xs = [] ∧ Rl G S μ H ∧ RV G.K H μ a x ∧ OutE G W σ μ H (ev1 o a S) Q
def rM2 (G : Gb) (W : WX) (o : B2) : V → List V → Hp → VK → Prop := fun x xs H Q => ∃ (S : Store) (μ : List Addr) (σ : L2.St) (a b : D) (y : V), xs = [y] ∧ Rl G S μ H ∧ RV G.K H μ a x ∧ RV G.K H μ b y ∧ OutE G W σ μ H (ev2 o a b S) Q
theorem ok_app : MtR X "list.append" (rM2 G W .app) := by
  rintro pins s σ' H x xs v us Q I rx rs ⟨S, μ, σ, a, b, y, rfl, rl, ha, hb, o⟩
  simp only [ev2] at o
  split at o
  · split at o
    · rename_i r ys e
      split at o
      · rename_i hl
        obtain ⟨p, ho, rfl, hm, hH, zs, rfl, hr⟩ := ref_obj rl ha e
        refine mt_append pins s σ' H _ _ v us Q I rx rs ⟨p, zs, y, rfl, rfl, hH, by rw [← hr.length, ← line_eq]; exact hl, ?_⟩
        exact o.set rl hm ⟨_, rfl, hr.append (RVs.one hb)⟩ rfl
      · exact o.elim
    · exact o.elim
  · exact o.elim
theorem ok_popa : MtR X "list.pop" (rM2 G W .popa) := by
  rintro pins s σ' H x xs v us Q I rx rs ⟨S, μ, σ, a, b, y, rfl, rl, ha, hb, o⟩
  simp only [ev2] at o
  split at o
  · split at o
    · rename_i r ys e
      split at o
      · split at o
        · rename_i i hi
          split at o
          · rename_i z ez
            obtain ⟨p, ho, rfl, hm, hH, zs, rfl, hr⟩ := ref_obj rl ha e
            cases (show y = _ from hb)
            obtain ⟨w, ew, hw⟩ := hr.get ez
            have hl := hr.length
            have hzl : zs.length ≤ sizeLine := (I.lstM hH).1
            have hsz := sizeLine_eq
            refine mt_popAt pins s σ' H _ _ v us Q I rx rs ⟨p, zs, i, i.toNat, w, rfl, rfl, hH, by omega, by omega, ?_, ew, ?_⟩
            · refine (ixN_seq ?_).1
              unfold ixN
              rw [if_pos hi.1, if_pos (by omega)]
            · exact o.set rl hm ⟨_, rfl, hr.eraseIdx _⟩ hw
          · exact o.elim
        · exact o.elim
      · exact o.elim
    · exact o.elim
  · exact o.elim
theorem ok_pop : MtR X "list.pop" (rM1 G W .pop) := by
  rintro pins s σ' H x xs v us Q I rx rs ⟨S, μ, σ, a, rfl, rl, ha, o⟩
  simp only [ev1] at o
  split at o
  · split at o
    · rename_i r ys e
      split at o
      · rename_i z ez
        obtain ⟨p, ho, rfl, hm, hH, zs, rfl, hr⟩ := ref_obj rl ha e
        rw [List.getLast?_eq_getElem?] at ez
        obtain ⟨w, ew, hw⟩ := hr.get ez
        rw [hr.length] at ew
        exact mt_pop pins s σ' H _ _ v us Q I rx rs ⟨p, zs, w, rfl, rfl, hH, ew, o.set rl hm ⟨_, rfl, hr.dropLast⟩ hw⟩
      · exact o.elim
    · exact o.elim
  · exact o.elim
theorem ok_clear : MtR X "list.clear" (rM1 G W .clear) := by
  rintro pins s σ' H x xs v us Q I rx rs ⟨S, μ, σ, a, rfl, rl, ha, o⟩
  simp only [ev1] at o
  split at o
  · split at o
    · rename_i r ys e
      obtain ⟨p, ho, rfl, hm, hH, zs, rfl, hr⟩ := ref_obj rl ha e
      exact mt_clear pins s σ' H _ _ v us Q I rx rs ⟨p, zs, rfl, rfl, hH, o.set rl hm ⟨[], rfl, rfl⟩ rfl⟩
    · exact o.elim
  · exact o.elim
/-- what a call of a builtin wants -/
def rC1 (G : Gb) (W : WX) (o : B1) : List V → Hp → VK → Prop := fun xs H Q => ∃ (S : Store) (μ : List Addr) (σ : L2.St) (a : D) (x : V), xs = [x] ∧ Rl G S μ H ∧ RV G.K H μ a x ∧ OutE G W σ μ H (ev1 o a S) Q
def rC2 (G : Gb) (W : WX) (o : B2) : List V → Hp → VK → Prop := fun xs H Q => ∃ (S : Store) (μ : List Addr) (σ : L2.St) (a b : D) (x y : V), xs = [x, y] ∧ Rl G S μ H ∧ RV G.K H μ a x ∧ RV G.K H μ b y ∧ OutE G W σ μ H (ev2 o a b S) Q
theorem ok_min (hc : X.calm = true) : CallR X (.builtin "min") (rC2 G W .min) := by
  rintro pins s σ' H xs us Q I rs ⟨S, μ, σ, a, b, x, y, rfl, rl, ha, hb, o⟩
  simp only [ev2] at o
  split at o
  · split at o
    · cases (show x = _ from ha); cases (show y = _ from hb)
      exact call_min2 hc pins s σ' H _ us Q I rs ⟨_, _, rfl, o.val rl rfl⟩
    · exact o.elim
  · exact o.elim
theorem ok_max2 (hc : X.calm = true) : CallR X (.builtin "max") (rC2 G W .max) := by
  rintro pins s σ' H xs us Q I rs ⟨S, μ, σ, a, b, x, y, rfl, rl, ha, hb, o⟩
  simp only [ev2] at o
  split at o
  · split at o
    · cases (show x = _ from ha); cases (show y = _ from hb)
      exact call_max2 hc pins s σ' H _ us Q I rs ⟨_, _, rfl, o.val rl rfl⟩
    · exact o.elim
  · exact o.elim
theorem ok_abs : CallR X (.builtin "abs") (rC1 G W .abs) := by
  rintro pins s σ' H xs us Q I rs ⟨S, μ, σ, a, x, rfl, rl, ha, o⟩
  simp only [ev1] at o
  split at o
  · cases (show x = _ from ha)
    exact call_abs pins s σ' H _ us Q I rs ⟨_, rfl, o.val rl rfl⟩
  · exact o.elim
theorem ok_int : CallR X (.type "int") (rC1 G W .int) := by
  rintro pins s σ' H xs us Q I rs ⟨S, μ, σ, a, x, rfl, rl, ha, o⟩
  simp only [ev1] at o
  split at o
  · cases (show x = _ from ha)
    exact call_int1 pins s σ' H _ us Q I rs (.inl ⟨_, rfl, o.val rl rfl⟩)
  · cases (show x = _ from ha)
    exact call_int1 pins s σ' H _ us Q I rs (.inr ⟨_, rfl, o.val rl rfl⟩)
  · exact o.elim
theorem ok_sum (hc : X.calm = true) : CallR X (.builtin "sum") (rC1 G W .sum) := by
  rintro pins s σ' H xs us Q I rs ⟨S, μ, σ, a, x, rfl, rl, ha, o⟩
  simp only [ev1] at o
  split at o
  · exact o.elim
  · split at o
    · rename_i ds e
      split at o
      · rename_i ns en
        obtain ⟨p, ys, rfl, hs, hr⟩ := items_list rl ha e (fun z q => by subst q; simp_all)
        rw [hr.toInts en] at hs
        exact cr_sum hc pins s σ' H _ us Q I rs ⟨p, ns, rfl, by rw [hK]; exact hs, o.val rl rfl⟩
      · exact o.elim
    · exact o.elim
theorem ok_max (hc : X.calm = true) : CallR X (.builtin "max") (rC1 G W .max) := by
  rintro pins s σ' H xs us Q I rs ⟨S, μ, σ, a, x, rfl, rl, ha, o⟩
  simp only [ev1] at o
  split at o
  · exact o.elim
  · split at o
    · rename_i ds e
      split at o
      · rename_i ns en
        split at o
        · rename_i m em
          obtain ⟨p, ys, rfl, hs, hr⟩ := items_list rl ha e (fun z q => by subst q; simp_all)
          rw [hr.toInts en] at hs
          obtain ⟨h1, h2⟩ := maxI_ok em
          refine cr_max hc pins s σ' H _ us Q I rs ⟨p, ns, rfl, by rw [hK]; exact hs, List.length_pos_of_mem h1, fun k hk hk2 => ?_⟩
          have : k = m := by have := hk2 m h1; have := h2 k hk; omega
          rw [this]
          exact o.val rl rfl
        · exact o.elim
      · exact o.elim
    · exact o.elim
theorem ok_all (hc : X.calm = true) : CallR X (.builtin "all") (rC1 G W .all) := by
  rintro pins s σ' H xs us Q I rs ⟨S, μ, σ, a, x, rfl, rl, ha, o⟩
  simp only [ev1] at o
  split at o
  · exact o.elim
  · split at o
    · rename_i ds e
      split at o
      · rename_i ns en
        obtain ⟨p, ys, rfl, hs, hr⟩ := items_list rl ha e (fun z q => by subst q; simp_all)
        rw [hr.toBools en] at hs
        exact cr_all hc pins s σ' H _ us Q I rs ⟨p, ns, rfl, by rw [hK]; exact hs, o.val rl rfl⟩
      · exact o.elim
    · exact o.elim
theorem ok_list {m : Bool} : CallR X (.type "list") (rC1 G W (.list m)) := by
  rintro pins s σ' H xs us Q I rs ⟨S, μ, σ, a, x, rfl, rl, ha, o⟩
  simp only [ev1, evList] at o
  split at o
  · rename_i ds e
    obtain ⟨p, ys, rfl, hs, hr⟩ := items_any rl ha e
    exact call_list_of pins s σ' H _ us Q I rs ⟨p, ys, rfl, by rw [hK]; exact hs, (o.newL rl hr).2⟩
  · exact o.elim
theorem ok_tuple : CallR X (.type "tuple") (rC1 G W .tup) := by
  rintro pins s σ' H xs us Q I rs ⟨S, μ, σ, a, x, rfl, rl, ha, o⟩
  simp only [ev1] at o
  split at o
  · exact o.elim
  · obtain ⟨p, ys, rfl, hs, _, hr⟩ := ha
    exact call_tuple_of pins s σ' H _ us Q I rs ⟨p, ys, rfl, .inl ⟨SqL.of hs, (o.newT rl hr).2⟩⟩
  · obtain ⟨p, ys, rfl, hs, hr⟩ := ha
    exact call_tuple_of pins s σ' H _ us Q I rs ⟨p, ys, rfl, .inr ⟨by rw [hK]; exact hs, o.val rl ⟨p, ys, rfl, hs, hr⟩⟩⟩
  · split at o
    · rename_i ds e
      obtain ⟨p, ys, rfl, hs, hr⟩ := items_list rl ha e (fun z q => by subst q; simp_all)
      exact call_tuple_of pins s σ' H _ us Q I rs ⟨p, ys, rfl, .inl ⟨by rw [hK]; exact hs, (o.newT rl hr).2⟩⟩
    · exact o.elim
theorem ok_sort : CallR X (.builtin "sorted") (rC1 G W .sort) := by
  rintro pins s σ' H xs us Q I rs ⟨S, μ, σ, a, x, rfl, rl, ha, o⟩
  simp only [ev1] at o
  split at o
  · exact o.elim
  · split at o
    · rename_i ds e
      split at o
      · rename_i ns en
        obtain ⟨p, ys, rfl, hs, hr⟩ := items_list rl ha e (fun z q => by subst q; simp_all)
        rw [hr.toInts en] at hs
        refine cr_sortedI pins s σ' H _ us Q I rs ⟨p, ns, rfl, by rw [hK]; exact hs, fun ns' q hp hs' hq => ?_⟩
        have e2 : ns' = sortI ns := sorted_one (hp.trans (sortI_perm ns).symm) hs' (sortI_sorted ns)
        subst e2
        have g : Go H μ (upd H q (.lst ((sortI ns).map V.int))) μ := Go.beside hq (rl.notin hq)
        exact o _ _ μ (rl.beside hq) g (List.prefix_refl _) ⟨q, _, rfl, upd_same, rl.notin hq, RVs.ofInts _⟩
      · exact o.elim
    · exact o.elim
theorem ok_len : CallR X (.builtin "len") (rC1 G W .len) := by
  rintro pins s σ' H xs us Q I rs ⟨S, μ, σ, a, x, rfl, rl, ha, o⟩
  simp only [ev1, lenD] at o
  split at o
  · rename_i n en
    split at en
    · split at en
      · rename_i cs hl
        cases en
        cases (show x = _ from ha)
        refine call_len_str pins s σ' H _ us Q I rs ⟨_, rfl, by rw [txt_len, ← line_eq]; exact hl, ?_⟩
        rw [txt_len]
        exact o.val rl rfl
      · cases en
    · split at en
      · rename_i ds e
        cases en
        obtain ⟨p, ys, rfl, hs, hr⟩ := items_any rl ha e
        refine call_len_seq pins s σ' H _ us Q I rs ⟨p, ys, rfl, by rw [hK]; exact hs, ?_⟩
        rw [← hr.length]
        exact o.val rl rfl
      · split at en
        · rename_i ks vs e
          cases en
          have : ∃ p kvs, x = .ref p ∧ H p = some (.dK kvs) ∧ ks.length = kvs.length := by
            cases a with
            | dic ks' vs' =>
              cases e
              obtain ⟨p, kvs, rfl, h1, _, hk, _⟩ := ha
              exact ⟨p, kvs, rfl, h1, by have := congrArg List.length hk; simpa using this⟩
            | ref r =>
              obtain ⟨p, rfl, hm⟩ := ha
              obtain ⟨ob, ho, h1, h2, h3⟩ := rl.obj r p hm
              simp only [dictOf, h1] at e
              cases ob with
              | dic ks' vs' => cases e; obtain ⟨kvs, rfl, hk, _⟩ := h3; exact ⟨p, kvs, rfl, h2, by have := congrArg List.length hk; simpa using this⟩
              | lst _ => cases e
              | ins _ _ => cases e
            | _ => cases e
          obtain ⟨p, kvs, rfl, h1, hl⟩ := this
          refine call_lenD pins s σ' H _ us Q I rs ⟨p, kvs, rfl, h1, ?_⟩
          rw [← hl]
          exact o.val rl rfl
        · cases en
  · exact o.elim
theorem ok_neg : UnR X (unaryOp .USub) (fun x H Q => ∃ (S : Store) (μ : List Addr) (σ : L2.St) (a : D), Rl G S μ H ∧ RV G.K H μ a x ∧ OutE G W σ μ H (ev1 .neg a S) Q) := by
  rintro pins s σ' H x v Q I rx ⟨S, μ, σ, a, rl, ha, o⟩
  simp only [ev1] at o
  split at o
  · cases (show x = _ from ha)
    exact un_neg pins s σ' H _ v Q I rx ⟨_, rfl, o.val rl rfl⟩
  · exact o.elim
/-- repr of data -/
theorem repr_data (hg : X.A.guards = some []) (hu : X.A.units + 64 < cLine) : CallR X (.builtin "repr") (fun xs H Q => ∃ (v : V) (d : PyData), xs = [v] ∧ Dp X.K H v d ∧ SeqAt.shaped d = true ∧ d.showable = true ∧ d.shown.length + 64 ≤ sizeLine ∧ d.depth ≤ 60 ∧ Q (.str d.shown) H) := by
  rintro pins s σ' H xs us Q I rs ⟨v, d, rfl, hd, hs, hsh, hl, hdp, q⟩
  obtain ⟨u, rfl, ru⟩ := Vals.one rs
  obtain ⟨as, rd⟩ := Dp.reads I d v u hd ru
  have fin : ∀ (h' : Heap) (t : Tok) (tk : Nat), (∀ (b : Addr) (o : PySem.Obj), s.heap.get? b = some o → h'.get? b = some o) → EP X pins σ' Q (.str d.shown t) { s with heap := h', toks := tk } := fun h' t tk hk => ⟨.str d.shown, H, I.kept (t' := tk) hk, ⟨t, rfl⟩, q⟩
  cases d with
  | none => cases hd; cases ru; exact PySem.P.repr_of_none (fin s.heap s.toks (s.toks + 1) fun _ _ h => h)
  | bool b =>
    cases hd; cases ru
    exact PySem.P.repr_of_bool (fin s.heap s.toks (s.toks + 1) fun _ _ h => h)
  | int i =>
    cases hd
    obtain ⟨t, rfl⟩ := ru
    refine PySem.P.repr_of_int ?_ (fin s.heap s.toks (s.toks + 1) fun _ _ h => h)
    simpa [PyData.showable] using hsh
  | str x =>
    cases hd
    obtain ⟨t, rfl⟩ := ru
    exact PySem.P.repr_of_str (fin s.heap s.toks (s.toks + 1) fun _ _ h => h) (by
      have : (PyData.str x).shown.length + 64 ≤ sizeLine := hl
      simp only [PyData.shown] at this
      omega)
  | list ds =>
    cases hd
    cases ru
    exact repr_of_reads' rd hsh (PyData.noDict_hsm (PyData.hasDict_of_canLay _ (SeqAt.canLay_of_shaped hs))) hg (by omega) (fun _ _ h => h) (fun h' t tk hk => fin h' t tk hk) (by omega)
  | tuple ds =>
    cases hd
    cases ru
    exact repr_of_reads' rd hsh (PyData.noDict_hsm (PyData.hasDict_of_canLay _ (SeqAt.canLay_of_shaped hs))) hg (by omega) (fun _ _ h => h) (fun h' t tk hk => fin h' t tk hk) (by omega)
  | dict kvs => cases hd
end
mutual
theorem shows_ok : ∀ (n : Nat) (d : D), d.plain n = true → d.shows = true → (toPy d).showable = true
  | n, .non, _, _ => by simp [toPy, PyData.showable]
  | n, .bl b, _, _ => by simp [toPy, PyData.showable]
  | n, .int i, _, h => by
    simp only [toPy, PyData.showable, decide_eq_true_eq]
    have h' : wide i = true := by simpa [D.shows] using h
    unfold wide at h'
    simp only [decide_eq_true_eq] at h'
    have : i.natAbs.log2 < 64 := by
      by_cases z : i.natAbs = 0
      · rw [z]; decide
      · exact (Nat.log2_lt z).mpr (by omega)
    omega
  | n, .str cs, _, _ => by simp [toPy, PyData.showable]
  | 0, .tup _, p, _ => by simp [D.plain] at p
  | 0, .lst _, p, _ => by simp [D.plain] at p
  | n + 1, .tup xs, p, h => by
    simp only [toPy, PyData.showable]
    exact showsL_ok n xs (by simpa [D.plain] using p) (by simpa [D.shows] using h)
  | n + 1, .lst xs, p, h => by
    simp only [toPy, PyData.showable]
    exact showsL_ok n xs (by simpa [D.plain] using p) (by simpa [D.shows] using h)
  | 0, .dic _ _, p, _ => by simp [D.plain] at p
  | n + 1, .dic _ _, p, _ => by simp [D.plain] at p
  | 0, .scr _, p, _ => by simp [D.plain] at p
  | n + 1, .scr _, p, _ => by simp [D.plain] at p
  | 0, .ref _, p, _ => by simp [D.plain] at p
  | n + 1, .ref _, p, _ => by simp [D.plain] at p
theorem showsL_ok : ∀ (n : Nat) (ds : List D), D.plains n ds = true → D.showsL ds = true → PyData.showableAll (toPys ds) = true
  | n, [], _, _ => by simp [toPys, PyData.showableAll]
  | n, d :: ds, p, h => by
    have p' : d.plain n = true ∧ D.plains n ds = true := by cases n <;> simpa [D.plains] using p
    have h' : d.shows = true ∧ D.showsL ds = true := by simpa [D.showsL] using h
    simp only [toPys, PyData.showableAll, shows_ok n d p'.1 h'.1, showsL_ok n ds p'.2 h'.2, Bool.and_self]
end
section
variable {G : Gb} {W : WX} {X : Cx} (hK : X.K = G.K)
include hK
theorem ok_rep (hg : X.A.guards = some []) (hu : X.A.units + 64 < cLine) : CallR X (.builtin "repr") (rC1 G W .rep) := by
  rintro pins s σ' H xs us Q I rs ⟨S, μ, σ, a, x, rfl, rl, ha, o⟩
  simp only [ev1] at o
  split at o
  · rename_i v e
    split at o
    · rename_i hs
      obtain ⟨d1, p1⟩ := flat_ok rl ha e
      have hsh : (toPy v).shown.length = (reprOf v).length := by simp [reprOf, Str.length]
      refine repr_data hK hg hu pins s σ' H _ us Q I rs ⟨x, toPy v, rfl, by rw [hK]; exact d1, shaped_of p1, shows_ok _ _ p1 hs.1, by rw [hsh, ← line_eq]; exact hs.2, (plain_depth _ _ p1).1, ?_⟩
      refine o.val rl ?_
      show _ = V.str (txt (reprOf v))
      simp [txt, reprOf]
    · exact o.elim
  · exact o.elim
end
end Mi
/-! Defs: what they promise, their calls, their bodies. -/
namespace Mi
open PySem PySem.Spec PyProof.Rows L2
/-- a def's promise, where nothing is being shown (the guards are none) -/
structure FnG (P : Program) (w : World) (K : PySem.W.Frag) (mg : Str → Option Value) (base : Heap) (k : Nat) (f : Addr) (fd : FuncData) (ps : List Str) (sp : Sp) : Prop where
  len : ∀ vs H Q E, sp vs H Q E → vs.length = ps.length
  run : ∀ (A : Around) (outer : List PySem.Env) (s : Shared) (H : Hp) (args : Args) (us : List Value) (vs : List V) (Q : VK) (E : XK),
    Room k A → A.guards = some [] → Env0 P w K mg base A outer s H → BindsTo s fd args (ps.zip us) → Vals vs us → sp vs H Q E →
    codeAny (model P w) A (.call (.ref f) args) (CR (L2.CX P w) outer P w H s Q E) s
theorem FnG.mono {P : Program} {w : World} {K : PySem.W.Frag} {mg : Str → Option Value} {base : Heap} {j k : Nat} {f : Addr} {fd : FuncData} {ps : List Str} {sp : Sp} (F : FnG P w K mg base j f fd ps sp) (h : j ≤ k) : FnG P w K mg base k f fd ps sp :=
  ⟨F.len, fun A outer s H args us vs Q E hr hg e b r q => F.run A outer s H args us vs Q E (hr.mono h) hg e b r q⟩
section
variable {X : Cx} {W : WX} {k : Nat} {f : Addr} {fd : FuncData} {ps : List Str} {sp : Sp}
theorem run_g {pins : List (Addr × PySem.Obj)} {σ : L2.St} {H : Hp} {s : Shared} {Q : VK} {us : List Value} {vs : List V} (F : FnG X.prog X.w X.K X.mg X.base k f fd ps sp) (hr : Room k X.A) (hg : X.A.guards = some [])
    (hb : Binds X.K fd ps []) (tk : Takes X W) (I : L2.Inv X pins σ H s) (r : Vals vs us) (h : sp vs H Q (WE W σ)) : wpAny (model X.prog X.w) X.A (PySem.call (.ref f) us) (EP X pins σ Q) X.xe s := by
  have b := hb s us I.kIn (by rw [List.append_nil, ← r.length]; exact F.len _ _ _ _ h)
  rw [List.append_nil] at b
  have c := F.run X.A X.stack s H ⟨us, []⟩ us vs Q (WE W σ) hr hg I.env0 b r h
  refine wpAny_call (codeAny_mono c fun o s' hq => ?_)
  match o, hq with
  | .error e, hq => exact passAt tk σ pins H s e s' I hq
  | .ok (.ret u), hq => exact I.after hq
/-- f(e, ..), f a def of the program's -/
theorem pe_callG {x : Str} {p pos : Pos} {e : Expr} {es : List Expr} {t : TA} (F : FnG X.prog X.w X.K X.mg X.base k f fd ps sp) (hr : Room k X.A) (hg : X.A.guards = some []) (gx : Gl X x) (hm : X.mg x = some (.ref f)) (hk : PySem.W.keepIn X.K (.ref f) = true)
    (hb : Binds X.K fd ps []) (tk : Takes X W) (ha : PA X (e :: es) t) (hdb : (x == ("__debug__" : Str)) = false) (he : starEach (e :: es) X.env = (false, eval e X.env) :: starEach es X.env) (hpl : (backTo pos (starEach es X.env)).any (·.1) = false) :
    PE X (.Call (.Name x p) (e :: es) [] pos) (tCallS sp (WE W) t) := by
  constructor
  intro pins s σ H Q I h
  refine wpAny_Call_Name_kw (ld_glob I gx hm (PySem.W.callWith_K (h₀ := X.base) I.ok.mod.kin hk (thn (ha.run pos pins s σ H _ I h) (fun us s1 hq => ?_)) he hpl) hdb)
  obtain ⟨vs, H1, I1, r, q⟩ := hq
  exact ⟨I1.kIn, run_g F hr hg hb tk I1 r q⟩
end
/-- a def by its body -/
theorem fn_g {P : Program} {w : World} {K : PySem.W.Frag} {mg : Str → Option Value} {base : Heap} {k : Nat} {x qual : Str} {params : Arguments} {body : List Stmt} {scope : Scope} {f : Addr} {fd : FuncData} {N ps : List Str} {sp : Sp}
    (F : FunD K x qual params body scope [] [] f fd) (S : FnScope N ps scope) (len : ∀ vs H Q E, sp vs H Q E → vs.length = ps.length)
    (hbody : ∀ (cdv : Value) (A : Around) (outer : List PySem.Env) (s : Shared) (H : Hp) (vs : List V) (Q : VK) (E : XK), Room k (A.deeper (envOfC qual scope s.heap.objs.size f cdv)) → A.guards = some [] → sp vs H Q E →
      ∃ t, PSs (cxOf (L2.CX P w) P w K mg base N qual scope f cdv A outer s H E) body t ∧ t { nx := fun _ H' => Q .non H', rt := Q } (start N vs) H) : FnG P w K mg base (k + 1) f fd ps sp := by
  obtain ⟨oc, od, dV, kV, doc, pm, an, cdv, ct, osl, rfl, lk, hcd, _, _⟩ := F.ex
  refine ⟨len, ?_⟩
  intro A outer s H args us vs Q E hr hg e0 hb r hsp
  have KX : K.In s.heap := e0.mod.kin.keeps fun b o q => (e0.bs b o q).1
  have lim := e0.mod.nolimit.keeps fun b o q => (e0.bs b o q).1
  have hpar : ∀ y ∈ ps.zip us, scope.names.lookup y.1 = some .local ∨ (scope.names.lookup y.1 = some .cell ∧ ((cellsFrom (s.heap.objs.size + 1) scope.names []).lookup y.1).isSome = true) := by
    intro y hy
    exact (S.par y.1 (List.of_mem_zip (show (y.1, y.2) ∈ ps.zip us from hy)).1).imp id fun q => ⟨q, PySem.W.cellsFrom_some _ _ _ (.inl q)⟩
  refine codeAny_call_function hr.depth (KX _ _ lk) rfl S.co S.gen rfl (PySem.W.codeRec_of KX hcd) (hb _ _ _ _ (wpAny_newFunctionEnv_cells S.kind hpar fun env he s1 y => ?_))
  subst he
  obtain ⟨t, ht, hq⟩ := hbody cdv A outer s H vs Q E (hr.deeper _) hg hsp
  have I := inv_start (CX := L2.CX P w) (E := E) (cd := cdv) (f := f) (qual := qual) S hr.hd e0 (len _ _ _ _ hsp) r y
  refine ⟨lim.keeps y.toInCall.keep, codeAny_func (wpAny_mono (ht.run [] s1 (start N vs) H _ I hq) ?_ fun _ _ z => z)⟩
  intro fl s' hs
  match fl, hs with
  | .ret u, ⟨v, σ', H', J, rv, q⟩ => exact ⟨v, H', J.os, J.bare, J.base, J.hok, rv, q⟩
  | .next, ⟨σ', H', J, q⟩ => exact ⟨.non, H', J.os, J.bare, J.base, J.hok, rfl, q⟩
  | .brk, ⟨_, _, _, q⟩ => exact q.elim
  | .cont, ⟨_, _, _, q⟩ => exact q.elim

/-! ### the promise by the small language -/
/-- what a def of the small language promises -/
def spM (G : Gb) (run : List D → Store → Rs D) : Sp := fun vs H Q E => ∃ (S : Store) (μ : List Addr) (ds : List D), Rl G S μ H ∧ RVs G.K H μ ds vs ∧ OutE G (fun c d _ H' => E c d H') [] μ H (run ds S) Q

/-! ### environments -/
def REnv (G : Gb) (H : Hp) (μ : List Addr) (r : Mi.Env) (σ : L2.St) : Prop := r.length = σ.length ∧ ∀ (i : Nat) (d : D), r[i]? = some (some d) → ∃ v, σ[i]? = some (some v) ∧ RV G.K H μ d v
section
variable {G : Gb} {H H' : Hp} {μ μ' : List Addr} {r : Mi.Env} {σ : L2.St}
theorem REnv.go (h : REnv G H μ r σ) (m : Muts H μ) (g : Go H μ H' μ') (p : μ <+: μ') : REnv G H' μ' r σ :=
  ⟨h.1, fun i d e => let ⟨v, a, b⟩ := h.2 i d e; ⟨v, a, b.go m g p⟩⟩
theorem REnv.set {d : D} {v : V} (h : REnv G H μ r σ) (i : Nat) (hv : RV G.K H μ d v) : REnv G H μ (r.set i (some d)) (σ.set i (some v)) := by
  refine ⟨by simp [h.1], fun j d' e => ?_⟩
  by_cases c : i = j
  · subst c
    by_cases l : i < r.length
    · rw [List.getElem?_set_self l] at e
      cases e
      exact ⟨v, by rw [List.getElem?_set_self (by rw [← h.1]; exact l)], hv⟩
    · rw [List.getElem?_eq_none (by simpa using l)] at e; cases e
  · rw [List.getElem?_set_ne c] at e
    rw [List.getElem?_set_ne c]
    exact h.2 j d' e
theorem REnv.wipe (h : REnv G H μ r σ) : ∀ vs : List Nat, REnv G H μ (wipeE r vs) (L2.wipe σ vs)
  | [] => h
  | v :: vs => by
    have ih := REnv.wipe h vs
    refine ⟨by simp [wipeE, L2.wipe, ih.1], fun j d' e => ?_⟩
    by_cases c : v = j
    · subst c
      unfold wipeE at e
      by_cases l : v < (wipeE r vs).length
      · rw [List.getElem?_set_self l] at e; cases e
      · rw [List.getElem?_eq_none (by simpa using l)] at e; cases e
    · unfold wipeE at e
      rw [List.getElem?_set_ne c] at e
      obtain ⟨x, h1, h2⟩ := ih.2 j d' e
      exact ⟨x, by show (List.set _ _ _)[j]? = _; rw [List.getElem?_set_ne c]; exact h1, h2⟩
theorem RVs.start {ds : List D} {vs : List V} (h : RVs G.K H μ ds vs) (N : List Str) (ns : Nat) (hn : N.length = ns) : REnv G H μ (startE ns ds) (L2.start N vs) := by
  have hl := h.length
  refine ⟨by simp [startE, L2.start, hl, hn], fun i d e => ?_⟩
  unfold startE at e
  by_cases c : i < ds.length
  · rw [List.getElem?_append_left (by simpa using c), List.getElem?_map] at e
    cases q : ds[i]? with
    | none => rw [q] at e; cases e
    | some d' =>
      rw [q] at e
      cases e
      obtain ⟨x, h1, h2⟩ := h.get q
      refine ⟨x, ?_, h2⟩
      unfold L2.start
      rw [List.getElem?_append_left (by simpa using (by omega : i < vs.length)), List.getElem?_map, h1]
      rfl
  · rw [List.getElem?_append_right (by simpa using (by omega : ds.length ≤ i))] at e
    have := List.mem_of_getElem? e
    rw [List.mem_replicate] at this
    cases this.2
end
end Mi
/-! The written text taken apart. -/
namespace Mi
open PySem PySem.Spec PyProof.Rows L2

/-! ### plain forms -/
def notStar : Expr → Bool
  | .Starred _ _ => false
  | _ => true
theorem star_cons {e : Expr} {es : List Expr} {env : PySem.Env} (h : notStar e = true) : starEach (e :: es) env = (false, eval e env) :: starEach es env := by
  cases e <;> first | rfl | cases h
theorem star_any {env : PySem.Env} {pos : Pos} : ∀ {es : List Expr}, es.all notStar = true → (backTo pos (starEach es env)).any (·.1) = false
  | [], _ => rfl
  | e :: es, h => by
    simp only [List.all_cons, Bool.and_eq_true] at h
    rw [star_cons h.1]
    have ih := star_any (env := env) (pos := pos) h.2
    unfold backTo at ih ⊢
    simp only [List.map_cons, List.any_cons, Bool.false_or]
    exact ih
theorem star_all {env : PySem.Env} {pos : Pos} : ∀ {es : List Expr}, es.all notStar = true → (backTo pos (starEach es env)).all (fun x => !x.1) = true
  | [], _ => rfl
  | e :: es, h => by
    simp only [List.all_cons, Bool.and_eq_true] at h
    rw [star_cons h.1]
    have ih := star_all (env := env) (pos := pos) h.2
    unfold backTo at ih ⊢
    simp only [List.map_cons, List.all_cons, Bool.not_false, Bool.true_and]
    exact ih
/-- no call without arguments (super() is such a one) -/
def noSup : Expr → Bool
  | .Call (.Name _ _) [] [] _ => false
  | _ => true
theorem sup_base {o : Expr} {a : Str} {env : PySem.Env} {t : Sem Value} (h : noSup o = true) : attributeBase o a env t = t := by
  unfold attributeBase
  split
  · cases h
  · rfl
def notSet : Expr → Bool
  | .Set _ _ _ => false
  | _ => true
theorem set_base {e : Expr} {env : PySem.Env} {x : Value} (h : notSet e = true) : foldedSetIterable e env x = pure x := by
  cases e <;> first | rfl | cases h
def notComp : Expr → Bool
  | .ListComp .. => false
  | .SetComp .. => false
  | .DictComp .. => false
  | _ => true
theorem swap_base {e : Expr} {t : Option Expr} {n : Nat} {env : PySem.Env} (h : notComp e = true) : swapsWith e t n env = pure false := by
  cases e <;> first | rfl | cases h
def notTest : Expr → Bool
  | .UnaryOp .Not _ _ => false
  | .BoolOp .. => false
  | .IfExp .. => false
  | .Compare .. => false
  | _ => true
theorem test_base {e : Expr} {env : PySem.Env} (h : notTest e = true) (w : Sem Value) : isTrue e env w = (do let v ← w; standAt e.pos; holding [v] (truthy v)) := by
  cases e <;> first | rfl | cases h | skip
  rename_i op x p
  cases op <;> first | rfl | cases h

/-! ### taking apart -/
def dName : Expr → Option Str
  | .Name x _ => some x
  | _ => none
theorem dName_ok {e : Expr} {x : Str} (h : dName e = some x) : ∃ p, e = .Name x p := by
  unfold dName at h; split at h
  · cases h; exact ⟨_, rfl⟩
  · cases h
def dCall : Expr → Option (Str × List Expr)
  | .Call (.Name x _) es [] _ => some (x, es)
  | _ => none
theorem dCall_ok {e : Expr} {x : Str} {es : List Expr} (h : dCall e = some (x, es)) : ∃ p pos, e = .Call (.Name x p) es [] pos := by
  unfold dCall at h; split at h
  · cases h; exact ⟨_, _, rfl⟩
  · cases h
def dMeth : Expr → Option (Expr × Str × List Expr)
  | .Call (.Attribute o m ap) es [] cp => if (ap.endLine == cp.line) && noSup o && decide (es.length < 20) then some (o, m, es) else none
  | _ => none
theorem dMeth_ok {e o : Expr} {m : Str} {es : List Expr} (h : dMeth e = some (o, m, es)) : ∃ ap cp, e = .Call (.Attribute o m ap) es [] cp ∧ (ap.endLine == cp.line) = true ∧ noSup o = true ∧ es.length < 20 := by
  unfold dMeth at h; split at h
  · split at h
    · rename_i q
      simp only [Bool.and_eq_true, decide_eq_true_eq] at q
      cases h; exact ⟨_, _, rfl, q.1.1, q.1.2, q.2⟩
    · cases h
  · cases h
def dBin : Expr → Option (Operator × Expr × Expr)
  | .BinOp l o r _ => some (o, l, r)
  | _ => none
theorem dBin_ok {e l r : Expr} {o : Operator} (h : dBin e = some (o, l, r)) : ∃ p, e = .BinOp l o r p := by
  unfold dBin at h; split at h
  · cases h; exact ⟨_, rfl⟩
  · cases h
def dCmp : Expr → Option (CmpOp × Expr × Expr)
  | .Compare l [o] [r] _ => if behindInMarks o r then none else some (o, l, r)
  | _ => none
theorem dCmp_ok {e l r : Expr} {o : CmpOp} (h : dCmp e = some (o, l, r)) : ∃ p, e = .Compare l [o] [r] p ∧ behindInMarks o r = false := by
  unfold dCmp at h; split at h
  · split at h
    · cases h
    · rename_i q; cases h; exact ⟨_, rfl, by simpa using q⟩
  · cases h
def dChn : Expr → Option (CmpOp × CmpOp × Expr × Expr × Expr)
  | .Compare l [o, o'] [m, r] _ => if lastMarks [o, o'] [m, r] then none else some (o, o', l, m, r)
  | _ => none
theorem dChn_ok {e l m r : Expr} {o o' : CmpOp} (h : dChn e = some (o, o', l, m, r)) : ∃ p, e = .Compare l [o, o'] [m, r] p ∧ lastMarks [o, o'] [m, r] = false := by
  unfold dChn at h; split at h
  · split at h
    · cases h
    · rename_i q; cases h; exact ⟨_, rfl, by simpa using q⟩
  · cases h
def notSlice : Expr → Bool
  | .Slice _ _ _ _ => false
  | _ => true
def dSub : Expr → Option (Expr × Expr)
  | .Subscript a b _ => if notSlice b then some (a, b) else none
  | _ => none
theorem dSub_ok {e a b : Expr} (h : dSub e = some (a, b)) : ∃ p, e = .Subscript a b p ∧ PlainIx b := by
  unfold dSub at h; split at h
  · split at h
    · rename_i q
      cases h
      refine ⟨_, rfl, fun o i => ?_⟩
      cases b <;> first | rfl | cases q
    · cases h
  · cases h
def dSlc : Expr → Option (Expr × Option Expr × Option Expr)
  | .Subscript a (.Slice lo hi none _) _ => some (a, lo, hi)
  | _ => none
theorem dSlc_ok {e a : Expr} {lo hi : Option Expr} (h : dSlc e = some (a, lo, hi)) : ∃ p q, e = .Subscript a (.Slice lo hi none q) p := by
  unfold dSlc at h; split at h
  · cases h; exact ⟨_, _, rfl⟩
  · cases h
def dAttr : Expr → Option (Expr × Str)
  | .Attribute o f _ => if noSup o then some (o, f) else none
  | _ => none
theorem dAttr_ok {e o : Expr} {f : Str} (h : dAttr e = some (o, f)) : ∃ p, e = .Attribute o f p ∧ noSup o = true := by
  unfold dAttr at h; split at h
  · split at h
    · rename_i q; cases h; exact ⟨_, rfl, q⟩
    · cases h
  · cases h
def dList : Expr → Option (List Expr)
  | .List es _ => some es
  | _ => none
theorem dList_ok {e : Expr} {es : List Expr} (h : dList e = some es) : ∃ p, e = .List es p := by
  unfold dList at h; split at h
  · cases h; exact ⟨_, rfl⟩
  · cases h
def dTup : Expr → Option (List Expr)
  | .Tuple es _ _ => some es
  | _ => none
theorem dTup_ok {e : Expr} {es : List Expr} (h : dTup e = some es) : ∃ k p, e = .Tuple es k p := by
  unfold dTup at h; split at h
  · cases h; exact ⟨_, _, rfl⟩
  · cases h
/-- a and (the rest), a or (the rest) -/
def dBool : Expr → Option (BoolOp × Expr × Expr × Bool)
  | .BoolOp op [a, b] p => some (op, a, b, true)
  | .BoolOp op (a :: b :: c :: r) p => some (op, a, .BoolOp op (b :: c :: r) p, false)
  | _ => none
theorem dBool_ok {e a b : Expr} {op : BoolOp} {l : Bool} (h : dBool e = some (op, a, b, l)) : (l = true ∧ ∃ p, e = .BoolOp op [a, b] p) ∨ (l = false ∧ ∃ p x y r, b = .BoolOp op (x :: y :: r) p ∧ e = .BoolOp op (a :: x :: y :: r) p) := by
  unfold dBool at h; split at h
  · cases h; exact .inl ⟨rfl, _, rfl⟩
  · cases h; exact .inr ⟨rfl, _, _, _, _, rfl, rfl⟩
  · cases h
def dNot : Expr → Option Expr
  | .UnaryOp .Not e _ => some e
  | _ => none
theorem dNot_ok {e a : Expr} (h : dNot e = some a) : ∃ p, e = .UnaryOp .Not a p := by
  unfold dNot at h; split at h
  · cases h; exact ⟨_, rfl⟩
  · cases h
def dNeg : Expr → Option Expr
  | .UnaryOp .USub e _ => some e
  | _ => none
theorem dNeg_ok {e a : Expr} (h : dNeg e = some a) : ∃ p, e = .UnaryOp .USub a p := by
  unfold dNeg at h; split at h
  · cases h; exact ⟨_, rfl⟩
  · cases h
def dIf : Expr → Option (Expr × Expr × Expr)
  | .IfExp c a b _ => some (c, a, b)
  | _ => none
theorem dIf_ok {e c a b : Expr} (h : dIf e = some (c, a, b)) : ∃ p, e = .IfExp c a b p := by
  unfold dIf at h; split at h
  · cases h; exact ⟨_, rfl⟩
  · cases h
def dComp : Expr → Option (Expr × Expr × Expr × List Expr × Scope)
  | .ListComp e [⟨tg, it, ifs, a⟩] sc _ => if a = 0 then some (e, tg, it, ifs, sc) else none
  | _ => none
theorem dComp_ok {e x tg it : Expr} {ifs : List Expr} {sc : Scope} (h : dComp e = some (x, tg, it, ifs, sc)) : ∃ p, e = .ListComp x [⟨tg, it, ifs, 0⟩] sc p := by
  unfold dComp at h; split at h
  · split at h
    · rename_i q; subst q; cases h; exact ⟨_, rfl⟩
    · cases h
  · cases h
def litOk : D → Expr → Bool
  | .int i, .Constant (.int j) _ _ => i == j
  | .bl b, .Constant (.bool c) _ _ => b == c
  | .non, .Constant .none _ _ => true
  | .str cs, .Constant (.str x) _ _ => decide (x = txt cs)
  | _, _ => false

/-! ### the outcome of any part -/
section
variable {G : Gb} {W : WX} {σ : L2.St} {μ : List Addr} {H : Hp} {α β γ δ : Type} {RR : Hp → List Addr → α → β → Prop} {RR2 : Hp → List Addr → γ → δ → Prop}
theorem OutG.later {Q : β → Hp → Prop} {H1 : Hp} {μ1 : List Addr} {r : Rs α} (o : OutG G W σ μ H RR r Q) (g : Go H μ H1 μ1) (p : μ <+: μ1) : OutG G W σ μ1 H1 RR r Q := by
  cases r with
  | ok d S' => exact fun v H' μ' a b c e => o v H' μ' a (g.trans b) (p.trans c) e
  | exc c fs S' => exact fun cv od H' μ' a b c e => o cv od H' μ' a (g.trans b) (p.trans c) e
  | bad => exact o
theorem OutG.split {r : Rs α} {f : α → Store → Rs γ} {Q : δ → Hp → Prop} {K : β → Hp → Prop} (o : OutG G W σ μ H RR2 (r.bind f) Q)
    (h : ∀ a S1 b H1 μ1, r = .ok a S1 → Rl G S1 μ1 H1 → Go H μ H1 μ1 → μ <+: μ1 → RR H1 μ1 a b → OutG G W σ μ1 H1 RR2 (f a S1) Q → K b H1) : OutG G W σ μ H RR r K := by
  cases r with
  | ok a S1 => exact fun b H1 μ1 x y z q => h a S1 b H1 μ1 rfl x y z q (OutG.later o y z)
  | exc c fs S' => exact o
  | bad => exact o
theorem OutG.ret {a : α} {b : β} {S : Store} {Q : β → Hp → Prop} (o : OutG G W σ μ H RR (.ok a S) Q) (rl : Rl G S μ H) (h : RR H μ a b) : Q b H := o b H μ rl Go.refl (List.prefix_refl _) h
end
/-- a part's reading -/
def rd (G : Gb) (W : WX) {α β : Type} (RR : Hp → List Addr → α → β → Prop) (m : Mi.Env → Store → Rs α) : L2.St → Hp → (β → Hp → Prop) → Prop := fun σ H Q => ∃ (S : Store) (μ : List Addr) (r : Mi.Env), Rl G S μ H ∧ REnv G H μ r σ ∧ OutG G W σ μ H RR (m r S) Q
abbrev rdE (G : Gb) (W : WX) (c : Cfg) (e : E) : TE := rd G W (RV G.K) (evE c e)
abbrev rdT (G : Gb) (W : WX) (c : Cfg) (e : E) : TT := rd G W (fun _ _ a b => a = b) (evT c e)
abbrev rdA (G : Gb) (W : WX) (c : Cfg) (es : Es) : TA := rd G W (RVs G.K) (evEs c es)

/-! ### walks -/
/-- what an iterator yields -/
structure Walks (G : Gb) (J : It) (ds : List D) (g : Guard) (H0 : Hp) (μ0 : List Addr) : Prop where
  go : ∀ (i : Nat) (S : Store) (μ : List Addr) (H : Hp), i < ds.length → Rl G S μ H → Go H0 μ0 H μ → μ0 <+: μ → stands g S = true → J.go i H
  yld : ∀ (i : Nat) (S : Store) (μ : List Addr) (H : Hp) (x : V) (H' : Hp), i < ds.length → Rl G S μ H → Go H0 μ0 H μ → μ0 <+: μ → stands g S = true → J.yld i H x H' → Rl G S μ H' ∧ Go H μ H' μ ∧ ∃ d, ds[i]? = some d ∧ RV G.K H' μ d x
  stop : ∀ (S : Store) (μ : List Addr) (H : Hp), Rl G S μ H → Go H0 μ0 H μ → μ0 <+: μ → stands g S = true → J.stop ds.length H
abbrev rdI (G : Gb) (W : WX) (c : Cfg) (s : Src) : TI := rd G W (fun H μ (p : List D × Guard) (J : It) => Walks G J p.1 p.2 H μ) (evSrc c s)

section
variable {G : Gb} {S : Store} {μ : List Addr} {H : Hp}
/-- a list at every turn -/
def Lists (G : Gb) (g : Guard) (a : Addr) (ds : List D) (H0 : Hp) (μ0 : List Addr) : Prop :=
  ∀ (S : Store) (μ : List Addr) (H : Hp), Rl G S μ H → Go H0 μ0 H μ → μ0 <+: μ → stands g S = true → ∃ xs, SqL G.K H a xs ∧ RVs G.K H μ ds xs
theorem guard_items {d : D} {ds : List D} {g : Guard} {S S1 : Store} (e : items S d = some ds) (hg : ∀ p ∈ guardOf d ds, p ∈ g) (st : stands g S1 = true) : items S1 d = some ds := by
  cases d with
  | ref r =>
    have q := List.all_eq_true.mp st (r, ds) (hg _ (by simp [guardOf]))
    simp only [decide_eq_true_eq] at q
    simp only [items, q]
  | _ => exact e
theorem lists_of (rl : Rl G S μ H) {d : D} {v : V} {ds : List D} (h : RV G.K H μ d v) (e : items S d = some ds) (n : ∀ xs, d ≠ .tup xs) (g : Guard) (hg : ∀ p ∈ guardOf d ds, p ∈ g) : ∃ a, v = .ref a ∧ Lists G g a ds H μ := by
  obtain ⟨a, xs, ev, hs, hr⟩ := items_list rl h e n
  refine ⟨a, ev, fun S1 μ1 H1 rl1 g1 p1 st => ?_⟩
  obtain ⟨a', xs', ev', hs', hr'⟩ := items_list rl1 (h.go rl.muts g1 p1) (guard_items e hg st) n
  rw [ev] at ev'
  cases ev'
  exact ⟨xs', hs', hr'⟩
theorem rv_get {K : PySem.W.Frag} {ds : List D} {xs : List V} {i : Nat} {x : V} (h : RVs K H μ ds xs) (e : xs[i]? = some x) : ∃ d, ds[i]? = some d ∧ RV K H μ d x := by
  have hl : i < ds.length := by rw [h.length]; exact (List.getElem?_eq_some_iff.mp e).1
  obtain ⟨y, h1, h2⟩ := h.get (List.getElem?_eq_getElem hl)
  rw [e] at h1; cases h1
  exact ⟨_, List.getElem?_eq_getElem hl, h2⟩
theorem vs_get {K : PySem.W.Frag} {ds : List D} {xs : List V} {i : Nat} (h : RVs K H μ ds xs) (hi : i < ds.length) : ∃ x, xs[i]? = some x := ⟨_, List.getElem?_eq_getElem (by rw [← h.length]; exact hi)⟩
/-- walks of lists -/
theorem walks_list {g : Guard} {a : Addr} {ds : List D} {H0 : Hp} {μ0 : List Addr} (L : Lists G g a ds H0 μ0) : Walks G (Itl G.K a) ds g H0 μ0 where
  go := fun i S μ H hi rl go p st => by
    obtain ⟨xs, h1, h2⟩ := L S μ H rl go p st
    obtain ⟨x, hx⟩ := vs_get h2 hi
    exact ⟨xs, x, h1, hx⟩
  yld := fun i S μ H x H' hi rl go p st y => by
    obtain ⟨rfl, y⟩ := y
    obtain ⟨xs, h1, h2⟩ := L S μ H' rl go p st
    exact ⟨rl, Go.refl, rv_get h2 (y xs h1)⟩
  stop := fun S μ H rl go p st => by
    obtain ⟨xs, h1, h2⟩ := L S μ H rl go p st
    exact ⟨xs, h1, by rw [h2.length]; exact Nat.le_refl _⟩
theorem walks_tup {g : Guard} {a : Addr} {xs : List V} {ds : List D} {H0 : Hp} {μ0 : List Addr} (m : Muts H0 μ0) (hs : SqT G.K H0 a xs) (hr : RVs G.K H0 μ0 ds xs) : Walks G (Itt G.K a) ds g H0 μ0 where
  go := fun i S μ H hi rl go p st => by
    obtain ⟨x, hx⟩ := vs_get hr hi
    exact ⟨xs, x, SqT.go hs m go, hx⟩
  yld := fun i S μ H x H' hi rl go p st y => by
    obtain ⟨rfl, y⟩ := y
    exact ⟨rl, Go.refl, rv_get (hr.go m go p) (y xs (SqT.go hs m go))⟩
  stop := fun S μ H rl go p st => ⟨xs, SqT.go hs m go, by rw [hr.length]; exact Nat.le_refl _⟩
theorem walks_range {g : Guard} {lo hi : Int} {n : Nat} (hn : n = (hi - lo).toNat) {H0 : Hp} {μ0 : List Addr} : Walks G (Itr lo n) (rangeD lo hi) g H0 μ0 where
  go := fun i S μ H hi rl go p st => by
    have : i < n := by simpa [rangeD, hn] using hi
    exact this
  yld := fun i S μ H x H' hi' rl go p st y => by
    obtain ⟨rfl, rfl⟩ := y
    refine ⟨rl, Go.refl, .int (lo + i), ?_, rfl⟩
    have h1 : i < (List.range (hi - lo).toNat).length := by simpa [rangeD] using hi'
    unfold rangeD
    rw [List.getElem?_map, List.getElem?_eq_getElem h1, List.getElem_range]
    rfl
  stop := fun S μ H rl go p st => by
    show n ≤ _
    simp [rangeD, hn]
theorem walks_str {g : Guard} {cs : List Nat} {H0 : Hp} {μ0 : List Addr} : Walks G (Its (txt cs)) (cs.map fun c => .str [c]) g H0 μ0 where
  go := fun i S μ H hi rl go p st => by
    show i < (txt cs).cps.size
    simpa [txt] using hi
  yld := fun i S μ H x H' hi rl go p st y => by
    obtain ⟨rfl, c, hc, rfl⟩ := y
    refine ⟨rl, Go.refl, .str [c], ?_, rfl⟩
    have h1 : cs[i]? = some c := by simpa [txt] using hc
    rw [List.getElem?_map, h1]
    rfl
  stop := fun S μ H rl go p st => by
    show (txt cs).cps.size ≤ _
    simp [txt]
theorem walks_enum {g : Guard} {a : Addr} {ds : List D} {H0 : Hp} {μ0 : List Addr} (L : Lists G g a ds H0 μ0) : Walks G (Ite G.K a) (ds.zipIdx.map fun p => .tup [natI p.2, p.1]) g H0 μ0 where
  go := fun i S μ H hi rl go p st => by
    obtain ⟨xs, h1, h2⟩ := L S μ H rl go p st
    obtain ⟨x, hx⟩ := vs_get h2 (by simpa using hi)
    exact ⟨xs, x, h1, hx⟩
  yld := fun i S μ H x H' hi rl go p st y => by
    obtain ⟨T, z, rfl, hT, rfl, y⟩ := y
    obtain ⟨xs, h1, h2⟩ := L S μ H rl go p st
    obtain ⟨d, hd, hz⟩ := rv_get h2 (y xs h1)
    have g1 : Go H μ (upd H T (.tup [.int (i : Nat), z])) μ := Go.beside hT (rl.notin hT)
    refine ⟨rl.beside hT, g1, .tup [natI i, d], ?_, T, _, rfl, SqT.of upd_same, RVs.two rfl (hz.go rl.muts g1 (List.prefix_refl _))⟩
    rw [List.getElem?_map, List.getElem?_zipIdx, hd]
    simp
  stop := fun S μ H rl go p st => by
    obtain ⟨xs, h1, h2⟩ := L S μ H rl go p st
    exact ⟨xs, h1, by rw [← h2.length]; simp⟩
theorem walks_zip {g : Guard} {a b : Addr} {ds es : List D} {H0 : Hp} {μ0 : List Addr} (L : Lists G g a ds H0 μ0) (L' : Lists G g b es H0 μ0) : Walks G (Itz G.K a b) ((ds.zip es).map fun p => .tup [p.1, p.2]) g H0 μ0 where
  go := fun i S μ H hi rl go p st => by
    obtain ⟨xs, h1, h2⟩ := L S μ H rl go p st
    obtain ⟨ys, h3, h4⟩ := L' S μ H rl go p st
    simp only [List.length_map, List.length_zip] at hi
    obtain ⟨x, hx⟩ := vs_get h2 (i := i) (by omega)
    obtain ⟨y, hy⟩ := vs_get h4 (i := i) (by omega)
    exact ⟨xs, ys, x, y, h1, h3, hx, hy⟩
  yld := fun i S μ H x H' hi rl go p st y => by
    obtain ⟨T, u, w, rfl, hT, rfl, y1, y2⟩ := y
    obtain ⟨xs, h1, h2⟩ := L S μ H rl go p st
    obtain ⟨ys, h3, h4⟩ := L' S μ H rl go p st
    obtain ⟨d, hd, hu⟩ := rv_get h2 (y1 xs h1)
    obtain ⟨e, he, hw⟩ := rv_get h4 (y2 ys h3)
    have g1 : Go H μ (upd H T (.tup [u, w])) μ := Go.beside hT (rl.notin hT)
    refine ⟨rl.beside hT, g1, .tup [d, e], ?_, T, _, rfl, SqT.of upd_same, RVs.two (hu.go rl.muts g1 (List.prefix_refl _)) (hw.go rl.muts g1 (List.prefix_refl _))⟩
    have hz : (ds.zip es)[i]? = some (d, e) := List.getElem?_zip_eq_some.mpr ⟨hd, he⟩
    rw [List.getElem?_map, hz]
    rfl
  stop := fun S μ H rl go p st => by
    obtain ⟨xs, h1, h2⟩ := L S μ H rl go p st
    obtain ⟨ys, h3, h4⟩ := L' S μ H rl go p st
    refine ⟨xs, ys, h1, h3, ?_⟩
    simp only [List.length_map, List.length_zip]
    have := h2.length
    have := h4.length
    omega
theorem walks_rev {g : Guard} {a : Addr} {ds : List D} {n : Nat} {H0 : Hp} {μ0 : List Addr} (L : Lists G g a ds H0 μ0) (hn : n = ds.length) : Walks G (Itv G.K a n) ds.reverse g H0 μ0 where
  go := fun i S μ H hi rl go p st => by
    obtain ⟨xs, h1, h2⟩ := L S μ H rl go p st
    have hi' : i < ds.length := by simpa using hi
    obtain ⟨x, hx⟩ := vs_get h2 (i := n - 1 - i) (by omega)
    exact ⟨by omega, xs, x, h1, hx⟩
  yld := fun i S μ H x H' hi rl go p st y => by
    obtain ⟨rfl, y⟩ := y
    obtain ⟨xs, h1, h2⟩ := L S μ H' rl go p st
    obtain ⟨d, hd, hz⟩ := rv_get h2 (y xs h1)
    have hi' : i < ds.length := by simpa using hi
    refine ⟨rl, Go.refl, d, ?_, hz⟩
    rw [List.getElem?_reverse hi', ← hn]
    exact hd
  stop := fun S μ H rl go p st => by
    show n ≤ _
    simp [hn]
end
end Mi
/-! Whether a part of the small language says what the written text says. -/
namespace Mi
open PySem PySem.Spec PyProof.Rows L2

inductive GV where
  | fn (f : Nat) | cls (c : Nat) | cst (d : D) | blt
structure Cn where
  Γ : List (Str × GV)
  N : List Str
def glo (sc : Scope) (x : Str) : Bool := decide (sc.names.lookup x = some .globalImplicit) && !(x == ("__debug__" : Str))
def visB (sc : Scope) (x : Str) : Bool := (match sc.names.lookup x with
  | some .local => true
  | some .cell => true
  | some .free => true
  | _ => false) && !(x == ("__debug__" : Str)) && !(x == ("__classdict__" : Str))
def locB (top : Bool) (sc : Scope) (x : Str) : Bool := decide (sc.names.lookup x = some .local) || (top && decide (sc.names.lookup x = some .cell))
def isBlt : Option GV → Bool
  | some .blt => true
  | _ => false
def bltB (cn : Cn) (sc : Scope) (x : Str) : Bool := glo sc x && isBlt (cn.Γ.lookup x)
def isFn (f : Nat) : Option GV → Bool
  | some (.fn g) => g == f
  | _ => false
def isCst (d : D) : Option GV → Bool
  | some (.cst e) => D.beq e d
  | _ => false
def nameB (cn : Cn) (top : Bool) (sc : Scope) (i : Nat) (x : Str) : Bool := decide (cn.N[i]? = some x) && locB top sc x
def namesB (cn : Cn) (top : Bool) (sc : Scope) : List Nat → List Expr → Bool
  | [], [] => true
  | i :: is, e :: es => (match dName e with
    | some x => nameB cn top sc i x
    | none => false) && namesB cn top sc is es
  | _, _ => false
def chkT (cn : Cn) (top : Bool) (sc : Scope) : Tg → Expr → Bool
  | .nm i, e => (match dName e with
    | some x => nameB cn top sc i x
    | none => false)
  | .tp is, e => (match dTup e with
    | some es => namesB cn top sc is es
    | none => false)
def isTup (e : Expr) : Bool := (dTup e).isSome
def binOf : B2 → Option Operator
  | .add _ => some .Add
  | .sub => some .Sub
  | .mul _ => some .Mult
  | .div => some .FloorDiv
  | .mod => some .Mod
  | .pow => some .Pow
  | _ => none
def cmpOf : B2 → Option CmpOp
  | .eq => some .Eq
  | .ne => some .NotEq
  | .lt => some .Lt
  | .le => some .LtE
  | .gt => some .Gt
  | .ge => some .GtE
  | .is => some .Is
  | .isn => some .IsNot
  | .inn => some .In
  | .nin => some .NotIn
  | .ind => some .In
  | .nid => some .NotIn
  | _ => none
def methOf : B2 → Option Str
  | .app => some "append"
  | .popa => some "pop"
  | _ => none
def b1Fn : B1 → Option Str
  | .len => some "len"
  | .sum => some "sum"
  | .max => some "max"
  | .all => some "all"
  | .abs => some "abs"
  | .int => some "int"
  | .rep => some "repr"
  | .sort => some "sorted"
  | .list _ => some "list"
  | .tup => some "tuple"
  | _ => none
def tyNm : Nat → String
  | 0 => "NoneType"
  | 1 => "bool"
  | 2 => "int"
  | 3 => "str"
  | 4 => "tuple"
  | 5 => "list"
  | _ => "dict"
/-- a class that isinstance asks for -/
def tyE (cn : Cn) (sc : Scope) (t : Nat) (e : Expr) : Bool := match dName e with
  | some x => bltB cn sc x && (match t with
    | 1 => decide (x = "bool")
    | 2 => decide (x = "int")
    | 3 => decide (x = "str")
    | 4 => decide (x = "tuple")
    | 5 => decide (x = "list")
    | _ => false)
  | none => false
def tysE (cn : Cn) (sc : Scope) : List Nat → List Expr → Bool
  | [], [] => true
  | t :: ts, e :: es => tyE cn sc t e && notStar e && tysE cn sc ts es
  | _, _ => false
def ownP (N : List Str) (own : List Nat) : List (Str × Nat) := own.map fun i => (N.getD i Str.empty, i)
def tgIn (own : List Nat) : Tg → Bool
  | .nm i => own.contains i
  | .tp is => is.all own.contains

mutual
def chkE (cn : Cn) (top : Bool) (sc : Scope) : E → Expr → Bool
  | .var i, e => (match dName e with
    | some x => decide (cn.N[i]? = some x) && visB sc x
    | none => false)
  | .lit d, e => litOk d e
  | .cst d, e => (match dName e with
    | some x => glo sc x && isCst d (cn.Γ.lookup x)
    | none => false)
  | .tup es, e => (match dTup e with
    | some xs => chkEs cn top sc es xs
    | none => false)
  | .lst _ es, e => (match dList e with
    | some xs => chkEs cn top sc es xs
    | none => false)
  | .b1 o a, e => (match o with
    | .neg => (match dNeg e with
      | some y => chkE cn top sc a y
      | none => false)
    | .range _ => (match dCall e with
      | some (x, [y]) => decide (x = "list") && bltB cn sc x && notStar y && (match dCall y with
        | some (x', [z]) => decide (x' = "range") && bltB cn sc x' && notStar z && chkE cn top sc a z
        | _ => false)
      | _ => false)
    | .isT ts => (match dCall e with
      | some (x, [y, t]) => decide (x = "isinstance") && bltB cn sc x && notStar y && notStar t && chkE cn top sc a y && (match ts with
        | [n] => tyE cn sc n t
        | _ => (match dTup t with
          | some es => tysE cn sc ts es && decide (ts.length ≤ 100)
          | none => false))
      | _ => false)
    | .pop => (match dMeth e with
      | some (y, m, []) => decide (m = "pop") && chkE cn top sc a y
      | _ => false)
    | .clear => (match dMeth e with
      | some (y, m, []) => decide (m = "clear") && chkE cn top sc a y
      | _ => false)
    | o => (match dCall e with
      | some (x, [y]) => decide (b1Fn o = some x) && bltB cn sc x && notStar y && chkE cn top sc a y
      | _ => false))
  | .b2 o a b, e => (match o with
    | .ix => (match dSub e with
      | some (x, y) => chkE cn top sc a x && chkE cn top sc b y
      | none => false)
    | .ixd => (match dSub e with
      | some (x, y) => chkE cn top sc a x && chkE cn top sc b y
      | none => false)
    | .min => (match dCall e with
      | some (x, [y, z]) => decide (x = "min") && bltB cn sc x && notStar y && notStar z && chkE cn top sc a y && chkE cn top sc b z
      | _ => false)
    | .max => (match dCall e with
      | some (x, [y, z]) => decide (x = "max") && bltB cn sc x && notStar y && notStar z && chkE cn top sc a y && chkE cn top sc b z
      | _ => false)
    | o => (match dBin e with
      | some (op, x, y) => decide (binOf o = some op) && chkE cn top sc a x && chkE cn top sc b y
      | none => (match dCmp e with
        | some (op, x, y) => decide (cmpOf o = some op) && chkE cn top sc a x && chkE cn top sc b y
        | none => false)))
  | .m2 o a b, e => (match dMeth e with
    | some (x, m, [y]) => decide (methOf o = some m) && notStar y && chkE cn top sc a x && chkE cn top sc b y
    | _ => false)
  | .slc _ a lo hi l h, e => (match dSlc e with
    | some (x, lo', hi') => chkE cn top sc a x && (match lo, lo' with
        | none, none => true
        | some _, some y => chkE cn top sc l y
        | _, _ => false) && (match hi, hi' with
        | none, none => true
        | some _, some y => chkE cn top sc h y
        | _, _ => false)
    | none => false)
  | .chn o o' a b d, e => (match dChn e with
    | some (op, op', x, y, z) => decide (cmpOf o = some op) && decide (cmpOf o' = some op') && chkE cn top sc a x && chkE cn top sc b y && chkE cn top sc d z
    | none => false)
  | .and a b, e => (match dBool e with
    | some (.And, x, y, _) => chkE cn top sc a x && chkE cn top sc b y
    | _ => false)
  | .or a b, e => (match dBool e with
    | some (.Or, x, y, _) => chkE cn top sc a x && chkE cn top sc b y
    | _ => false)
  | .not a, e => (match dNot e with
    | some x => chkE cn top sc a x
    | none => false)
  | .ite t a b, e => (match dIf e with
    | some (x, y, z) => chkE cn top sc t x && chkE cn top sc a y && chkE cn top sc b z
    | none => false)
  | .call f es, e => (match dCall e with
    | some (x, y :: ys) => glo sc x && isFn f (cn.Γ.lookup x) && chkEs cn top sc es (y :: ys)
    | _ => false)
  | .comp _ m t src cond cd own, e => (match dComp e with
    | some (x, tg, it, ifs, s) => blkC cn.N sc s (ownP cn.N own) && notSet it && tgIn own t && chkT cn false (relS s sc) t tg && chkSrc cn top sc src it tg && chkE cn false (relS s sc) m x && (match cond, ifs with
      | none, [] => true
      | some _, [c] => chkE cn false (relS s sc) cd c
      | _, _ => false)
    | none => false)
  | .dict _, e => (match e with
    | .Dict [] [] _ => true
    | _ => false)
  | _, _ => false
def chkEs (cn : Cn) (top : Bool) (sc : Scope) : Es → List Expr → Bool
  | .nil, [] => true
  | .cons m ms, e :: es => chkE cn top sc m e && notStar e && chkEs cn top sc ms es
  | _, _ => false
def chkSrc (cn : Cn) (top : Bool) (sc : Scope) : Src → Expr → Expr → Bool
  | .it m, e, _ => chkE cn top sc m e
  | .rng1 a, e, _ => (match dCall e with
    | some (x, [y]) => decide (x = "range") && bltB cn sc x && notStar y && chkE cn top sc a y
    | _ => false)
  | .rng2 a b, e, _ => (match dCall e with
    | some (x, [y, z]) => decide (x = "range") && bltB cn sc x && notStar y && notStar z && chkE cn top sc a y && chkE cn top sc b z
    | _ => false)
  | .enum m, e, tg => isTup tg && (match dCall e with
    | some (x, [y]) => decide (x = "enumerate") && bltB cn sc x && notStar y && chkE cn top sc m y
    | _ => false)
  | .zip a b, e, tg => isTup tg && (match dCall e with
    | some (x, [y, z]) => decide (x = "zip") && bltB cn sc x && notStar y && notStar z && chkE cn top sc a y && chkE cn top sc b z
    | _ => false)
  | .rev m, e, _ => (match dCall e with
    | some (x, [y]) => decide (x = "reversed") && bltB cn sc x && notStar y && chkE cn top sc m y
    | _ => false)
  | .its _, _, _ => false
end
end Mi
/-! Single constructs. -/
namespace Mi
open PySem PySem.Spec PyProof.Rows L2

/-- what stands behind a global's name -/
def GOk (G : Gb) (c : Cfg) (P : Program) (w : World) (mg : Str → Option Value) (base : Heap) (k : Nat) (x : Str) : GV → Prop
  | .fn f => ∃ (a : Addr) (fd : FuncData) (ps : List Str), mg x = some (.ref a) ∧ PySem.W.keepIn G.K (.ref a) = true ∧ Binds G.K fd ps [] ∧ FnG P w G.K mg base k a fd ps (spM G (c.call f))
  | .cst d => ∃ (u : Value) (v : V), mg x = some u ∧ RelV v u ∧ ∀ H μ, RV G.K H μ d v
  | .blt => mg x = none
  | .cls _ => True
structure XOk (G : Gb) (cn : Cn) (c : Cfg) (k : Nat) (top : Bool) (sc : Scope) (W : WX) (X : Cx) : Prop where
  K : X.K = G.K
  N : X.N = cn.N
  nd : cn.N.Nodup
  sc : X.env.scope = sc
  calm : X.calm = true
  room : Room k X.A
  guards : X.A.guards = some []
  fn : top = true → ∀ x, X.fn x = true
  takes : Takes X W
  glob : ∀ x gv, cn.Γ.lookup x = some gv → GOk G c X.prog X.w X.mg X.base k x gv

theorem PE.imp {X : Cx} {e : Expr} {t t' : TE} (h : PE X e t) (i : ∀ σ H Q, t' σ H Q → t σ H Q) : PE X e t' := ⟨fun pins s σ H Q I q => h.run pins s σ H Q I (i σ H Q q)⟩
theorem PT.imp {X : Cx} {e : Expr} {t t' : TT} (h : PT X e t) (i : ∀ σ H Q, t' σ H Q → t σ H Q) : PT X e t' := ⟨fun pins s σ H Q I q => h.run pins s σ H Q I (i σ H Q q)⟩
theorem PW.imp {X : Cx} {e : Expr} {t t' : TT} (h : PW X e t) (i : ∀ σ H Q, t' σ H Q → t σ H Q) : PW X e t' := ⟨fun whole pins s σ H Q I q => h.run whole pins s σ H Q I (i σ H Q q)⟩
theorem PA.imp {X : Cx} {e : List Expr} {t t' : TA} (h : PA X e t) (i : ∀ σ H Q, t' σ H Q → t σ H Q) : PA X e t' := ⟨fun pos pins s σ H Q I q => h.run pos pins s σ H Q I (i σ H Q q)⟩
theorem PI.imp {X : Cx} {tg e : Expr} {t t' : TI} (h : PI X tg e t) (i : ∀ σ H Q, t' σ H Q → t σ H Q) : PI X tg e t' := ⟨fun pins s σ H Q I q => h.run pins s σ H Q I (i σ H Q q)⟩
theorem PI.or {X : Cx} {tg e : Expr} {t t' : TI} (h : PI X tg e t) (h' : PI X tg e t') : PI X tg e (fun σ H Q => t σ H Q ∨ t' σ H Q) :=
  ⟨fun pins s σ H Q I q => q.elim (fun z => h.run pins s σ H Q I z) fun z => h'.run pins s σ H Q I z⟩

section
variable {G : Gb} {cn : Cn} {c : Cfg} {k : Nat} {top : Bool} {sc : Scope} {W : WX} {X : Cx}
theorem XOk.gl (x : XOk G cn c k top sc W X) {n : Str} (h : glo sc n = true) : Gl X n ∧ (n == ("__debug__" : Str)) = false := by
  unfold glo at h
  simp only [Bool.and_eq_true, decide_eq_true_eq, Bool.not_eq_true'] at h
  refine ⟨?_, h.2⟩
  show X.env.scope.names.lookup n = _
  rw [x.sc]
  exact h.1
theorem XOk.blt (x : XOk G cn c k top sc W X) {n : Str} (h : bltB cn sc n = true) : Gl X n ∧ (n == ("__debug__" : Str)) = false ∧ X.mg n = none := by
  unfold bltB at h
  simp only [Bool.and_eq_true] at h
  have g := x.gl h.1
  refine ⟨g.1, g.2, ?_⟩
  cases e : cn.Γ.lookup n with
  | none => rw [e] at h; cases h.2
  | some gv =>
    rw [e] at h
    cases gv with
    | blt => exact x.glob n _ e
    | _ => cases h.2
theorem XOk.block (x : XOk G cn c k top sc W X) {scope : Scope} {s : Shared} {H : Hp} {cl : List (Str × Addr)} {C : Addr} {fp : List Addr} : XOk G cn c k false (relS scope sc) (fun _ _ _ _ => False) (X.blk s H scope (compEnvC scope cl C X.env) fp) :=
  ⟨x.K, x.N, x.nd, by show relS scope X.env.scope = _; rw [x.sc], x.calm, x.room, x.guards, (fun z => by cases z), takes0, x.glob⟩

/-! ### tests by values -/
theorem pt_of {e : Expr} {m : E} (h : PE X e (rdE G W c m)) (nt : notTest e = true) : PT X e (rdT G W c m) := by
  refine PT.imp (pt_val h (test_base nt)) fun σ H Q ⟨S, μ, r, rl, rs, o⟩ => ?_
  refine ⟨S, μ, r, rl, rs, OutG.split o fun d S1 x H1 μ1 _ rl1 g p hx o1 => ?_⟩
  cases d with
  | bl b => exact ⟨b, hx, OutG.ret o1 rl1 rfl⟩
  | _ => exact o1.elim
structure Sd (G : Gb) (W : WX) (c : Cfg) (X : Cx) (m : E) (e : Expr) : Prop where
  pe : PE X e (rdE G W c m)
  pt : PT X e (rdT G W c m)
  pw : ∀ op a b r p, e = .BoolOp op (a :: b :: r) p → PW X e (rdT G W c m)
theorem Sd.of {e : Expr} {m : E} (h : PE X e (rdE G W c m)) (nt : notTest e = true) : Sd G W c X m e :=
  ⟨h, pt_of h nt, fun op a b r p q => by subst q; cases nt⟩

/-! ### leaves -/
theorem s_var (x : XOk G cn c k top sc W X) {i : Nat} {n : Str} {p : Pos} (h1 : cn.N[i]? = some n) (h2 : visB sc n = true) : PE X (.Name n p) (rdE G W c (.var i)) := by
  unfold visB at h2
  simp only [Bool.and_eq_true, Bool.not_eq_true'] at h2
  have hv : Vis X.env.scope n := by
    unfold Vis
    rw [x.sc]
    have := h2.1.1
    split at this <;> first | (cases this; done) | skip
    · rename_i e; exact .inl e
    · rename_i e; exact .inr (.inl e)
    · rename_i e; exact .inr (.inr e)
  refine PE.imp (pe_var (i := i) (by rw [x.N]; exact h1) hv h2.1.2 h2.2) fun σ H Q ⟨S, μ, r, rl, rs, o⟩ => ?_
  simp only [evE] at o
  split at o
  · rename_i d e
    obtain ⟨v, e1, e2⟩ := rs.2 i d e
    exact ⟨v, e1, OutG.ret o rl e2⟩
  · exact o.elim
theorem s_lit {d : D} {e : Expr} (h : litOk d e = true) : PE X e (rdE G W c (.lit d)) := by
  unfold litOk at h
  split at h
  · rename_i i j _ _
    refine PE.imp pe_int fun σ H Q ⟨S, μ, r, rl, rs, o⟩ => ?_
    have e : i = j := by simpa using h
    exact OutG.ret o rl (by rw [e]; exact rfl)
  · rename_i b b' _ _
    refine PE.imp pe_bl fun σ H Q ⟨S, μ, r, rl, rs, o⟩ => ?_
    have e : b = b' := by simpa using h
    exact OutG.ret o rl (by rw [e]; exact rfl)
  · exact PE.imp pe_non fun σ H Q ⟨S, μ, r, rl, rs, o⟩ => OutG.ret o rl rfl
  · rename_i cs y _ _
    refine PE.imp pe_str fun σ H Q ⟨S, μ, r, rl, rs, o⟩ => ?_
    have e : y = txt cs := by simpa using h
    exact OutG.ret o rl (by rw [e]; exact rfl)
  · cases h
theorem s_cst (x : XOk G cn c k top sc W X) {d : D} {n : Str} {p : Pos} (h1 : glo sc n = true) (h2 : isCst d (cn.Γ.lookup n) = true) : PE X (.Name n p) (rdE G W c (.cst d)) := by
  have g := x.gl h1
  cases e : cn.Γ.lookup n with
  | none => rw [e] at h2; cases h2
  | some gv =>
    rw [e] at h2
    cases gv with
    | cst d' =>
      have ed : d' = d := D.beq_eq h2
      subst ed
      obtain ⟨u, v, hm, ru, hr⟩ := x.glob n _ e
      exact PE.imp (pe_glob g.1 hm ru g.2) fun σ H Q ⟨S, μ, r, rl, rs, o⟩ => OutG.ret o rl (hr _ _)
    | _ => cases h2

/-! ### argument lists -/
theorem a_nil : PA X [] (rdA G W c .nil) := PA.imp pa_nil fun σ H Q ⟨S, μ, r, rl, rs, o⟩ => OutG.ret o rl rfl
theorem a_cons {e : Expr} {es : List Expr} {m : E} {ms : Es} (h : PE X e (rdE G W c m)) (hs : PA X es (rdA G W c ms)) (ns : notStar e = true) : PA X (e :: es) (rdA G W c (.cons m ms)) := by
  refine PA.imp (pa_cons h hs (star_cons ns)) fun σ H Q ⟨S, μ, r, rl, rs, o⟩ => ?_
  simp only [evEs] at o
  refine ⟨S, μ, r, rl, rs, OutG.split o fun d S1 x H1 μ1 _ rl1 g1 p1 hx o1 => ?_⟩
  refine ⟨S1, μ1, r, rl1, rs.go rl.muts g1 p1, OutG.split o1 fun ds S2 xs H2 μ2 _ rl2 g2 p2 hxs o2 => ?_⟩
  exact OutG.ret o2 rl2 ⟨x, xs, rfl, hx.go rl1.muts g2 p2, hxs⟩
/-- one argument, two -/
theorem a_one {e : Expr} {m : E} (h : PE X e (rdE G W c m)) (ns : notStar e = true) : PA X [e] (tCons (rdE G W c m) tNil) := pa_cons h pa_nil (star_cons ns)
theorem a_two {e e' : Expr} {m m' : E} (h : PE X e (rdE G W c m)) (h' : PE X e' (rdE G W c m')) (ns : notStar e = true) (ns' : notStar e' = true) : PA X [e, e'] (tCons (rdE G W c m) (tCons (rdE G W c m') tNil)) :=
  pa_cons h (pa_cons h' pa_nil (star_cons ns')) (star_cons ns)

/-! ### displays -/
theorem s_tup {es : List Expr} {ms : Es} {kk : Nat} {p : Pos} (h : PA X es (rdA G W c ms)) : PE X (.Tuple es kk p) (rdE G W c (.tup ms)) := by
  refine PE.imp (pe_tup h) fun σ H Q ⟨S, μ, r, rl, rs, o⟩ => ?_
  simp only [evE] at o
  exact ⟨S, μ, r, rl, rs, OutG.split o fun ds S1 xs H1 μ1 _ rl1 g1 p1 hx o1 => OutE.newT o1 rl1 hx⟩
theorem s_lst {b : Bool} {es : List Expr} {ms : Es} {p : Pos} (h : PA X es (rdA G W c ms)) : PE X (.List es p) (rdE G W c (.lst b ms)) := by
  refine PE.imp (pe_lst h) fun σ H Q ⟨S, μ, r, rl, rs, o⟩ => ?_
  simp only [evE] at o
  exact ⟨S, μ, r, rl, rs, OutG.split o fun ds S1 xs H1 μ1 _ rl1 g1 p1 hx o1 => OutE.newL o1 rl1 hx⟩

/-! ### one value, two values -/
/-- one value's reading, handed to a rule -/
theorem one_of {a : E} {f : D → Store → Rs D} {σ : L2.St} {S : Store} {μ : List Addr} {H : Hp} {r : Mi.Env} {Q : VK} {K : V → Hp → Prop} (rl : Rl G S μ H) (rs : REnv G H μ r σ) (o : OutE G W σ μ H ((evE c a r S).bind f) Q)
    (h : ∀ d S1 x H1 μ1, Rl G S1 μ1 H1 → RV G.K H1 μ1 d x → OutE G W σ μ1 H1 (f d S1) Q → K x H1) : rdE G W c a σ H K :=
  ⟨S, μ, r, rl, rs, OutG.split o fun d S1 x H1 μ1 _ rl1 g p hx o1 => h d S1 x H1 μ1 rl1 hx o1⟩
theorem two_of {a b : E} {f : D → D → Store → Rs D} {σ : L2.St} {S : Store} {μ : List Addr} {H : Hp} {r : Mi.Env} {Q : VK} {K : V → V → Hp → Prop} (rl : Rl G S μ H) (rs : REnv G H μ r σ)
    (o : OutE G W σ μ H ((evE c a r S).bind fun x S => (evE c b r S).bind fun y S => f x y S) Q)
    (h : ∀ d e S1 x y H1 μ1, Rl G S1 μ1 H1 → RV G.K H1 μ1 d x → RV G.K H1 μ1 e y → OutE G W σ μ1 H1 (f d e S1) Q → K x y H1) : rdE G W c a σ H (fun x H1 => rdE G W c b σ H1 fun y H2 => K x y H2) := by
  refine ⟨S, μ, r, rl, rs, OutG.split o fun d S1 x H1 μ1 _ rl1 g p hx o1 => ?_⟩
  refine ⟨S1, μ1, r, rl1, rs.go rl.muts g p, OutG.split o1 fun e S2 y H2 μ2 _ rl2 g2 p2 hy o2 => ?_⟩
  exact h d e S2 x y H2 μ2 rl2 (hx.go rl1.muts g2 p2) hy o2
theorem s_bin {op : Operator} {o : B2} {a b : E} {x y : Expr} {p : Pos} (ho : OpR X (binaryOp op) (r2 G W o)) (ha : PE X x (rdE G W c a)) (hb : PE X y (rdE G W c b)) : PE X (.BinOp x op y p) (rdE G W c (.b2 o a b)) := by
  refine PE.imp (pe_op ho ha hb) fun σ H Q ⟨S, μ, r, rl, rs, out⟩ => ?_
  simp only [evE] at out
  exact two_of rl rs out fun d e S1 x y H1 μ1 rl1 hx hy o1 => ⟨S1, μ1, σ, d, e, rl1, hx, hy, o1⟩
theorem s_cmp {op : CmpOp} {o : B2} {a b : E} {x y : Expr} {p : Pos} (ho : OpR X (compareOp op) (r2 G W o)) (ha : PE X x (rdE G W c a)) (hb : PE X y (rdE G W c b)) (hm : behindInMarks op y = false) : Sd G W c X (.b2 o a b) (.Compare x [op] [y] p) := by
  refine ⟨PE.imp (pe_cmpR ho ha hb hm) fun σ H Q ⟨S, μ, r, rl, rs, out⟩ => ?_, PT.imp (pt_cmpR ho ha hb hm) fun σ H Q ⟨S, μ, r, rl, rs, out⟩ => ?_, fun _ _ _ _ _ q => by cases q⟩
  · simp only [evE] at out
    exact two_of rl rs out fun d e S1 x y H1 μ1 rl1 hx hy o1 => ⟨S1, μ1, σ, d, e, rl1, hx, hy, o1⟩
  · simp only [evT, evE] at out
    have e1 : ∀ z : Rs D, z = (evE c a r S).bind (fun x S => (evE c b r S).bind fun y S => ev2 o x y S) → OutG G W σ μ H (fun _ _ a b => a = b) (z.bind fun d S => match d with
        | .bl b => .ok b S
        | _ => .bad) Q → OutE G W σ μ H z (fun v H' => ∃ k, v = .bl k ∧ Q k H') := by
      intro z _ oz
      refine OutG.split oz fun d S1 v H1 μ1 _ rl1 g p hv o1 => ?_
      cases d with
      | bl k => exact ⟨k, hv, OutG.ret o1 rl1 rfl⟩
      | _ => exact o1.elim
    exact two_of rl rs (e1 _ rfl out) fun d e S1 x y H1 μ1 rl1 hx hy o1 => ⟨S1, μ1, σ, d, e, rl1, hx, hy, o1⟩
theorem s_callB {id : String} {o : B1} {n : Str} {a : E} {y : Expr} {p pos : Pos} (x : XOk G cn c k top sc W X) (hn : bltB cn sc n = true) (hc : CallR X (.builtin id) (rC1 G W o)) (hv : bootBuiltins n = some (.builtin id)) (hne : n ≠ "__name__")
    (ha : PE X y (rdE G W c a)) (ns : notStar y = true) : PE X (.Call (.Name n p) [y] [] pos) (rdE G W c (.b1 o a)) := by
  have g := x.blt hn
  refine PE.imp (pe_callB hc g.1 g.2.2 hv (a_one ha ns) hne g.2.1 (star_cons ns) (star_any (by simp))) fun σ H Q ⟨S, μ, r, rl, rs, out⟩ => ?_
  simp only [evE] at out
  exact one_of rl rs out fun d S1 x H1 μ1 rl1 hx o1 => ⟨S1, μ1, σ, d, x, rfl, rl1, hx, o1⟩
theorem s_callTy {T : String} {o : B1} {n : Str} {a : E} {y : Expr} {p pos : Pos} (x : XOk G cn c k top sc W X) (hn : bltB cn sc n = true) (hc : CallR X (.type T) (rC1 G W o)) (hv : bootBuiltins n = some (.type T)) (hne : n ≠ "__name__")
    (ha : PE X y (rdE G W c a)) (ns : notStar y = true) : PE X (.Call (.Name n p) [y] [] pos) (rdE G W c (.b1 o a)) := by
  have g := x.blt hn
  refine PE.imp (pe_callTy hc g.1 g.2.2 hv (a_one ha ns) hne g.2.1 (star_cons ns) (star_any (by simp))) fun σ H Q ⟨S, μ, r, rl, rs, out⟩ => ?_
  simp only [evE] at out
  exact one_of rl rs out fun d S1 x H1 μ1 rl1 hx o1 => ⟨S1, μ1, σ, d, x, rfl, rl1, hx, o1⟩
theorem s_callB2 {id : String} {o : B2} {n : Str} {a b : E} {y z : Expr} {p pos : Pos} (x : XOk G cn c k top sc W X) (hn : bltB cn sc n = true) (hc : CallR X (.builtin id) (rC2 G W o)) (hv : bootBuiltins n = some (.builtin id)) (hne : n ≠ "__name__")
    (ha : PE X y (rdE G W c a)) (hb : PE X z (rdE G W c b)) (ns : notStar y = true) (nz : notStar z = true) : PE X (.Call (.Name n p) [y, z] [] pos) (rdE G W c (.b2 o a b)) := by
  have g := x.blt hn
  refine PE.imp (pe_callB hc g.1 g.2.2 hv (a_two ha hb ns nz) hne g.2.1 (star_cons ns) (star_any (by simp [nz]))) fun σ H Q ⟨S, μ, r, rl, rs, out⟩ => ?_
  simp only [evE] at out
  exact two_of rl rs out fun d e S1 x y H1 μ1 rl1 hx hy o1 => ⟨S1, μ1, σ, d, e, x, y, rfl, rl1, hx, hy, o1⟩
theorem s_neg {a : E} {y : Expr} {p : Pos} (x : XOk G cn c k top sc W X) (ha : PE X y (rdE G W c a)) : PE X (.UnaryOp .USub y p) (rdE G W c (.b1 .neg a)) := by
  refine PE.imp (pe_un (ok_neg (W := W) x.K) ha) fun σ H Q ⟨S, μ, r, rl, rs, out⟩ => ?_
  simp only [evE] at out
  exact one_of rl rs out fun d S1 x H1 μ1 rl1 hx o1 => ⟨S1, μ1, σ, d, rl1, hx, o1⟩
theorem s_ix {a b : E} {y z : Expr} {p : Pos} (x : XOk G cn c k top sc W X) (ha : PE X y (rdE G W c a)) (hb : PE X z (rdE G W c b)) (hp : PlainIx z) : PE X (.Subscript y z p) (rdE G W c (.b2 .ix a b)) := by
  refine PE.imp (pe_ix (ok_ixS (W := W) x.K) ha hb hp) fun σ H Q ⟨S, μ, r, rl, rs, out⟩ => ?_
  simp only [evE] at out
  refine two_of rl rs out fun d e S1 x y H1 μ1 rl1 hx hy o1 => ?_
  cases e with
  | int i => exact ⟨S1, μ1, σ, d, i, rl1, hx, hy, o1⟩
  | _ => exact False.elim o1
/-! ### methods of lists -/
theorem list_ty {S : Store} {μ : List Addr} {H : Hp} (rl : Rl G S μ H) {d : D} {xs : List D} {v : V} (h : RV G.K H μ d v) (e : items S d = some xs) (n : ∀ ys, d ≠ .tup ys) : tyV G.K "list" v H := by
  obtain ⟨a, ys, rfl, hs, _⟩ := items_list rl h e n
  exact .inl ⟨rfl, ys, hs⟩
theorem s_m2 {id : String} {name : Str} {o : B2} {a b : E} {y z : Expr} {ap cp : Pos} (x : XOk G cn c k top sc W X) (slot : Slot "list" name id) (hty : typeOf (.builtin id) = pure (.type "method_descriptor")) (hm : MtR X id (rM2 G W o))
    (hr : ∀ S d, recvOk o S d = true → ∃ xs, items S d = some xs ∧ ∀ ys, d ≠ .tup ys)
    (ha : PE X y (rdE G W c a)) (hb : PE X z (rdE G W c b)) (nz : notStar z = true) (hl : (ap.endLine == cp.line) = true) (hs : noSup y = true) : PE X (.Call (.Attribute y name ap) [z] [] cp) (rdE G W c (.m2 o a b)) := by
  refine PE.imp (pe_bm PySem.F.plainAttrs_list slot hty hm ha (a_one hb nz) (sup_base hs) ?_ hl (star_cons nz) (star_any (by simp))) fun σ H Q ⟨S, μ, r, rl, rs, out⟩ => ?_
  · rw [star_all (by simp [nz])]; rfl
  · simp only [evE] at out
    refine ⟨S, μ, r, rl, rs, OutG.split out fun d S1 v H1 μ1 _ rl1 g1 p1 hv o1 => ?_⟩
    split at o1
    · rename_i hrec
      obtain ⟨xs, e1, e2⟩ := hr S1 d hrec
      refine ⟨by rw [x.K]; exact list_ty rl1 hv e1 e2, ?_⟩
      refine ⟨S1, μ1, r, rl1, rs.go rl.muts g1 p1, OutG.split o1 fun e S2 w H2 μ2 _ rl2 g2 p2 hw o2 => ?_⟩
      exact ⟨S2, μ2, σ, d, e, w, rfl, rl2, hv.go rl1.muts g2 p2, hw, o2⟩
    · exact False.elim o1
theorem s_m0 {id : String} {name : Str} {o : B1} {a : E} {y : Expr} {ap cp : Pos} (x : XOk G cn c k top sc W X) (slot : Slot "list" name id) (hty : typeOf (.builtin id) = pure (.type "method_descriptor")) (hm : MtR X id (rM1 G W o))
    (hr : ∀ S d, ev1 o d S ≠ .bad → ∃ xs, items S d = some xs ∧ ∀ ys, d ≠ .tup ys)
    (ha : PE X y (rdE G W c a)) (hl : (ap.endLine == cp.line) = true) (hs : noSup y = true) : PE X (.Call (.Attribute y name ap) [] [] cp) (rdE G W c (.b1 o a)) := by
  refine PE.imp (pe_bm0 PySem.F.plainAttrs_list slot hty hm ha (sup_base hs) hl) fun σ H Q ⟨S, μ, r, rl, rs, out⟩ => ?_
  simp only [evE] at out
  refine one_of rl rs out fun d S1 v H1 μ1 rl1 hv o1 => ?_
  obtain ⟨xs, e1, e2⟩ := hr S1 d fun z => by rw [z] at o1; exact False.elim o1
  exact ⟨by rw [x.K]; exact list_ty rl1 hv e1 e2, S1, μ1, σ, d, rfl, rl1, hv, o1⟩
theorem recv_list {o : B2} (h : ∀ S d, recvOk o S d = lstRecv S d) (S : Store) (d : D) (r : recvOk o S d = true) : ∃ xs, items S d = some xs ∧ ∀ ys, d ≠ .tup ys := by
  rw [h] at r
  unfold lstRecv at r
  split at r
  · cases r
  · rename_i n
    obtain ⟨xs, e⟩ := Option.isSome_iff_exists.mp r
    exact ⟨xs, e, n⟩

/-! ### and, or, not, if -/
theorem ev_bool {z : Rs D} {σ : L2.St} {μ : List Addr} {H : Hp} {Q : Bool → Hp → Prop} (o : OutG G W σ μ H (fun _ _ (a b : Bool) => a = b) (z.bind fun d S => match d with
    | .bl b => .ok b S
    | _ => .bad) Q) : OutE G W σ μ H z (fun v H' => ∃ b, v = .bl b ∧ Q b H') :=
  OutG.split o fun d S1 v H1 μ1 _ rl1 g p hv o1 => by
    cases d with
    | bl b => exact ⟨b, hv, OutG.ret o1 rl1 rfl⟩
    | _ => exact False.elim o1
theorem s_not {a : E} {y : Expr} {p : Pos} (ha : Sd G W c X a y) : Sd G W c X (.not a) (.UnaryOp .Not y p) := by
  refine ⟨PE.imp (pe_not ha.pe) fun σ H Q ⟨S, μ, r, rl, rs, out⟩ => ?_, PT.imp (pt_not ha.pt) fun σ H Q ⟨S, μ, r, rl, rs, out⟩ => ?_, fun _ _ _ _ _ q => by cases q⟩
  · simp only [evE] at out
    refine one_of rl rs out fun d S1 v H1 μ1 rl1 hv o1 => ?_
    cases d with
    | bl b => exact ⟨b, hv, OutG.ret o1 rl1 rfl⟩
    | _ => exact False.elim o1
  · refine ⟨S, μ, r, rl, rs, ?_⟩
    simp only [evT, evE] at out
    unfold evT
    cases q : evE c a r S with
    | ok d S1 =>
      rw [q] at out
      cases d with
      | bl b => exact fun b' H' μ' r1 g1 p1 e => by subst e; exact out (!b) H' μ' r1 g1 p1 rfl
      | _ => exact False.elim out
    | exc cl fs S1 => rw [q] at out; exact out
    | bad => rw [q] at out; exact out
/-- the test of the first, then as it says -/
theorem t_first {a : E} {β γ : Type} {RR : Hp → List Addr → β → γ → Prop} {f : Bool → Store → Rs β} {σ : L2.St} {S : Store} {μ : List Addr} {H : Hp} {r : Mi.Env} {Q : γ → Hp → Prop} {K : Bool → Hp → Prop} (rl : Rl G S μ H) (rs : REnv G H μ r σ)
    (o : OutG G W σ μ H RR ((evT c a r S).bind f) Q) (h : ∀ b S1 H1 μ1, Rl G S1 μ1 H1 → REnv G H1 μ1 r σ → OutG G W σ μ1 H1 RR (f b S1) Q → K b H1) : rdT G W c a σ H K :=
  ⟨S, μ, r, rl, rs, OutG.split o fun b S1 b' H1 μ1 _ rl1 g p e o1 => by subst e; exact h b S1 H1 μ1 rl1 (rs.go rl.muts g p) o1⟩
theorem evT_bind {a : E} {β : Type} {r : Mi.Env} {S : Store} {f : D → Store → Rs β} {g : Bool → Store → Rs β} (h : ∀ d S, f d S = match d with
    | .bl b => g b S
    | _ => .bad) : (evE c a r S).bind f = (evT c a r S).bind g := by
  unfold evT
  cases evE c a r S with
  | ok d S1 => show f d S1 = _; rw [h]; cases d <;> rfl
  | exc _ _ _ => rfl
  | bad => rfl
theorem ev_and {a b : E} {r : Mi.Env} {S : Store} : evE c (.and a b) r S = (evT c a r S).bind fun x S => if x = true then evE c b r S else .ok (.bl false) S := by
  rw [evE]
  refine evT_bind fun d S => ?_
  cases d with
  | bl x => cases x <;> rfl
  | _ => rfl
theorem ev_or {a b : E} {r : Mi.Env} {S : Store} : evE c (.or a b) r S = (evT c a r S).bind fun x S => if x = true then .ok (.bl true) S else evE c b r S := by
  rw [evE]
  refine evT_bind fun d S => ?_
  cases d with
  | bl x => cases x <;> rfl
  | _ => rfl
theorem ev_ite {t a b : E} {r : Mi.Env} {S : Store} : evE c (.ite t a b) r S = (evT c t r S).bind fun x S => if x = true then evE c a r S else evE c b r S := by
  rw [evE]
  refine evT_bind fun d S => ?_
  cases d with
  | bl x => cases x <;> rfl
  | _ => rfl
theorem bind_assoc {α β γ : Type} (z : Rs α) (f : α → Store → Rs β) (g : β → Store → Rs γ) : (z.bind f).bind g = z.bind fun a S => (f a S).bind g := by
  cases z <;> rfl
theorem evT_and {a b : E} {r : Mi.Env} {S : Store} : evT c (.and a b) r S = (evT c a r S).bind fun x S => if x = true then evT c b r S else .ok false S := by
  conv => lhs; unfold evT
  rw [ev_and, bind_assoc]
  congr 1
  funext x S
  cases x <;> rfl
theorem evT_or {a b : E} {r : Mi.Env} {S : Store} : evT c (.or a b) r S = (evT c a r S).bind fun x S => if x = true then .ok true S else evT c b r S := by
  conv => lhs; unfold evT
  rw [ev_or, bind_assoc]
  congr 1
  funext x S
  cases x <;> rfl
theorem evT_ite {t a b : E} {r : Mi.Env} {S : Store} : evT c (.ite t a b) r S = (evT c t r S).bind fun x S => if x = true then evT c a r S else evT c b r S := by
  conv => lhs; unfold evT
  rw [ev_ite, bind_assoc]
  congr 1
  funext x S
  cases x <;> rfl
theorem s_and {a b : E} {y z z' : Expr} {rest : List Expr} {p : Pos} (ha : Sd G W c X a y) (hz : PE X (.BoolOp .And (z' :: rest) p) (rdE G W c b)) (hw : PW X (.BoolOp .And (z' :: rest) p) (rdT G W c b)) : Sd G W c X (.and a b) (.BoolOp .And (y :: z' :: rest) p) := by
  have w : PW X (.BoolOp .And (y :: z' :: rest) p) (rdT G W c (.and a b)) := PW.imp (pw_and ha.pt hw) fun σ H Q ⟨S, μ, r, rl, rs, out⟩ => by
    rw [evT_and] at out
    refine t_first rl rs out fun b' S1 H1 μ1 rl1 rs1 o1 => ?_
    cases b' with
    | true => exact ⟨S1, μ1, r, rl1, rs1, o1⟩
    | false => exact OutG.ret o1 rl1 rfl
  refine ⟨PE.imp (pe_and ha.pe hz) fun σ H Q ⟨S, μ, r, rl, rs, out⟩ => ?_, w.pt, fun _ _ _ _ _ q => by cases q; exact w⟩
  simp only [evE] at out
  refine ⟨S, μ, r, rl, rs, OutG.split out fun d S1 v H1 μ1 _ rl1 g p hv o1 => ?_⟩
  cases d with
  | bl b' =>
    refine ⟨b', hv, ?_⟩
    cases b' with
    | true => exact ⟨S1, μ1, r, rl1, rs.go rl.muts g p, o1⟩
    | false => exact OutG.ret o1 rl1 rfl
  | _ => exact False.elim o1
theorem s_or {a b : E} {y z z' : Expr} {rest : List Expr} {p : Pos} (ha : Sd G W c X a y) (hz : PE X (.BoolOp .Or (z' :: rest) p) (rdE G W c b)) (hw : PW X (.BoolOp .Or (z' :: rest) p) (rdT G W c b)) : Sd G W c X (.or a b) (.BoolOp .Or (y :: z' :: rest) p) := by
  have w : PW X (.BoolOp .Or (y :: z' :: rest) p) (rdT G W c (.or a b)) := PW.imp (pw_or ha.pt hw) fun σ H Q ⟨S, μ, r, rl, rs, out⟩ => by
    rw [evT_or] at out
    refine t_first rl rs out fun b' S1 H1 μ1 rl1 rs1 o1 => ?_
    cases b' with
    | true => exact OutG.ret o1 rl1 rfl
    | false => exact ⟨S1, μ1, r, rl1, rs1, o1⟩
  refine ⟨PE.imp (pe_or ha.pe hz) fun σ H Q ⟨S, μ, r, rl, rs, out⟩ => ?_, w.pt, fun _ _ _ _ _ q => by cases q; exact w⟩
  simp only [evE] at out
  refine ⟨S, μ, r, rl, rs, OutG.split out fun d S1 v H1 μ1 _ rl1 g p hv o1 => ?_⟩
  cases d with
  | bl b' =>
    refine ⟨b', hv, ?_⟩
    cases b' with
    | true => exact OutG.ret o1 rl1 rfl
    | false => exact ⟨S1, μ1, r, rl1, rs.go rl.muts g p, o1⟩
  | _ => exact False.elim o1
theorem s_ite {t a b : E} {y z w : Expr} {p : Pos} (ht : Sd G W c X t y) (ha : Sd G W c X a z) (hb : Sd G W c X b w) : Sd G W c X (.ite t a b) (.IfExp y z w p) := by
  refine ⟨PE.imp (pe_ifExp ht.pt ha.pe hb.pe) fun σ H Q ⟨S, μ, r, rl, rs, out⟩ => ?_, ⟨fun pins s σ H Q I ⟨S, μ, r, rl, rs, out⟩ => ?_⟩, fun _ _ _ _ _ q => by cases q⟩
  · rw [ev_ite] at out
    refine t_first rl rs out fun b' S1 H1 μ1 rl1 rs1 o1 => ?_
    cases b' with
    | true => exact ⟨S1, μ1, r, rl1, rs1, o1⟩
    | false => exact ⟨S1, μ1, r, rl1, rs1, o1⟩
  · rw [evT_ite] at out
    have q : rdT G W c t σ H fun b' H1 => if b' = true then rdT G W c a σ H1 Q else rdT G W c b σ H1 Q := by
      refine t_first rl rs out fun b' S1 H1 μ1 rl1 rs1 o1 => ?_
      cases b' with
      | true => exact ⟨S1, μ1, r, rl1, rs1, o1⟩
      | false => exact ⟨S1, μ1, r, rl1, rs1, o1⟩
    rw [arm_isTrue_IfExp]
    refine wpAny_bind (thn (ht.pt.run pins s σ H _ I q) fun b' s1 ⟨H1, I1, q1⟩ => ?_)
    cases b' with
    | true => exact ha.pt.run pins s1 σ H1 Q I1 q1
    | false => exact hb.pt.run pins s1 σ H1 Q I1 q1
/-! ### chains -/
theorem s_chn {op op' : CmpOp} {o o' : B2} {a b d : E} {y z w : Expr} {p : Pos} (ho : OpR X (compareOp op) (r2 G W o)) (ho' : OpR X (compareOp op') (r2 G W o')) (ha : PE X y (rdE G W c a)) (hb : PE X z (rdE G W c b)) (hd : PE X w (rdE G W c d))
    (hm : lastMarks [op, op'] [z, w] = false) : Sd G W c X (.chn o o' a b d) (.Compare y [op, op'] [z, w] p) := by
  have key : ∀ (σ : L2.St) (H : Hp) (Q : VK), rdE G W c (.chn o o' a b d) σ H Q → tChain (r2 G W o) (r2 G W o') (rdE G W c a) (rdE G W c b) (rdE G W c d) σ H Q := by
    intro σ H Q ⟨S, μ, r, rl, rs, out⟩
    simp only [evE] at out
    refine ⟨S, μ, r, rl, rs, OutG.split out fun x S1 v H1 μ1 _ rl1 g1 p1 hv o1 => ?_⟩
    refine ⟨S1, μ1, r, rl1, rs.go rl.muts g1 p1, OutG.split o1 fun x2 S2 v2 H2 μ2 _ rl2 g2 p2 hv2 o2 => ?_⟩
    refine ⟨S2, μ2, σ, x, x2, rl2, hv.go rl1.muts g2 p2, hv2, OutG.split o2 fun x3 S3 v3 H3 μ3 _ rl3 g3 p3 hv3 o3 => ?_⟩
    cases x3 with
    | bl k' =>
      refine ⟨k', hv3, ?_⟩
      cases k' with
      | true =>
        refine ⟨S3, μ3, r, rl3, ((rs.go rl.muts g1 p1).go rl1.muts g2 p2).go rl2.muts g3 p3, OutG.split o3 fun x4 S4 v4 H4 μ4 _ rl4 g4 p4 hv4 o4 => ?_⟩
        exact ⟨S4, μ4, σ, x2, x4, rl4, (hv2.go rl2.muts g3 p3).go rl3.muts g4 p4, hv4, o4⟩
      | false => exact OutG.ret o3 rl3 rfl
    | _ => exact False.elim o3
  refine ⟨PE.imp (pe_chain ho ho' ha hb hd hm) key, PT.imp (pt_chain ho ho' ha hb hd hm) fun σ H Q ⟨S, μ, r, rl, rs, out⟩ => ?_, fun _ _ _ _ _ q => by cases q⟩
  exact key σ H _ ⟨S, μ, r, rl, rs, ev_bool out⟩
/-! ### calls -/
theorem s_call (x : XOk G cn c k top sc W X) {f : Nat} {n : Str} {es : Es} {y : Expr} {ys : List Expr} {p pos : Pos} (h1 : glo sc n = true) (h2 : isFn f (cn.Γ.lookup n) = true) (ha : PA X (y :: ys) (rdA G W c es)) (ns : (y :: ys).all notStar = true) :
    PE X (.Call (.Name n p) (y :: ys) [] pos) (rdE G W c (.call f es)) := by
  have g := x.gl h1
  cases e : cn.Γ.lookup n with
  | none => rw [e] at h2; cases h2
  | some gv =>
    rw [e] at h2
    cases gv with
    | fn f' =>
      have ef : f' = f := by simpa [isFn] using h2
      subst ef
      obtain ⟨a, fd, ps, hm, hk, hb, F⟩ := x.glob n _ e
      have ns' := ns
      simp only [List.all_cons, Bool.and_eq_true] at ns'
      refine PE.imp (pe_callG (W := W) (by rw [x.K]; exact F) x.room x.guards g.1 hm (by rw [x.K]; exact hk) (by rw [x.K]; exact hb) x.takes ha g.2 (star_cons ns'.1) (star_any ns'.2)) fun σ H Q ⟨S, μ, r, rl, rs, out⟩ => ?_
      simp only [evE] at out
      refine ⟨S, μ, r, rl, rs, OutG.split out fun ds S1 vs H1 μ1 _ rl1 g1 p1 hv o1 => ⟨S1, μ1, ds, rl1, hv, ?_⟩⟩
      cases q : c.call f' ds S1 with
      | ok d S2 => rw [q] at o1; exact o1
      | exc cl fs S2 => rw [q] at o1; exact o1
      | bad => rw [q] at o1; exact o1
    | _ => cases h2
end
end Mi
/-! Slices, types, walks, comprehensions. -/
namespace Mi
open PySem PySem.Spec PyProof.Rows L2
section
variable {G : Gb} {cn : Cn} {c : Cfg} {k : Nat} {top : Bool} {sc : Scope} {W : WX} {X : Cx}

/-! ### slices -/
theorem bound_sIx (n d : Nat) (o : Option Int) : bound n d o = HT.sIx n d o := by cases o <;> rfl
theorem cut_ok {K : PySem.W.Frag} {H : Hp} {μ : List Addr} {ds : List D} {xs : List V} (h : RVs K H μ ds xs) (lo hi : Option Int) : RVs K H μ (cutL ds lo hi) (cutV xs lo hi) := by
  unfold cutL cutV
  rw [bound_sIx, bound_sIx, h.length]
  exact (h.drop _).take _
theorem cut_whole {ds : List D} {lo hi : Option Int} (h : HT.sIx ds.length 0 lo = 0 ∧ HT.sIx ds.length ds.length hi = ds.length) : cutL ds lo hi = ds := by
  unfold cutL
  rw [bound_sIx, bound_sIx, h.1, h.2]
  simp
/-- what a slice wants -/
def rSl (G : Gb) (W : WX) (m : Bool) : V → Option Int → Option Int → Hp → VK → Prop := fun x lo hi H Q => ∃ (S : Store) (μ : List Addr) (σ : L2.St) (a : D), Rl G S μ H ∧ RV G.K H μ a x ∧ OutE G W σ μ H (evSlice m a lo hi S) Q
theorem ok_slice {m : Bool} (hK : X.K = G.K) : SlR X (rSl G W m) := by
  rintro pins s σ' H x v vl vu lo hi sl Q I rx hs pl pu ⟨S, μ, σ, a, rl, ha, o⟩
  unfold evSlice at o
  split at o
  · split at o
    · rename_i cs hl
      cases (show x = _ from ha)
      refine sl_str pins s σ' H _ v vl vu lo hi sl Q I rx hs pl pu ⟨_, rfl, by rw [txt_len, ← line_eq]; exact hl, ?_⟩
      have e : cutS (txt cs) lo hi = txt (cutL cs lo hi) := by
        unfold cutS cutL txt
        simp [bound_sIx, Str.length]
      rw [e]
      exact OutG.ret o rl rfl
    · exact False.elim o
  · rename_i xs
    obtain ⟨p, ys, rfl, h1, hr⟩ := ha
    refine sl_tupA pins s σ' H _ v vl vu lo hi sl Q I rx hs pl pu ⟨p, ys, rfl, by rw [hK]; exact h1, fun hw => ?_, fun _ => OutE.tup o rl (cut_ok hr lo hi)⟩
    rw [← hr.length] at hw
    rw [cut_whole hw] at o
    exact OutG.ret o rl ⟨p, ys, rfl, h1, hr⟩
  · split at o
    · rename_i xs e
      obtain ⟨p, ys, rfl, h1, hr⟩ := items_list rl ha e (fun z q => by subst q; simp_all)
      exact sl_list pins s σ' H _ v vl vu lo hi sl Q I rx hs pl pu ⟨p, ys, rfl, by rw [hK]; exact h1, (OutE.newL o rl (cut_ok hr lo hi)).2⟩
    · exact False.elim o
theorem s_slc00 {m : Bool} {a l h : E} {y : Expr} {p q : Pos} (x : XOk G cn c k top sc W X) (ha : PE X y (rdE G W c a)) : PE X (.Subscript y (.Slice none none none q) p) (rdE G W c (.slc m a none none l h)) := by
  refine PE.imp (pe_slice (ok_slice (W := W) (m := m) x.K) ha po_none po_none) fun σ H Q ⟨S, μ, r, rl, rs, out⟩ => ?_
  simp only [evE] at out
  exact one_of rl rs out fun d S1 v H1 μ1 rl1 hv o1 => ⟨S1, μ1, σ, d, rl1, hv, o1⟩
/-- a bound that is told -/
theorem po_of {l : E} {z : Expr} (hl : PE X z (rdE G W c l)) : PO X (some z) (rd G W (fun _ _ a b => a = b) fun r S => (evE c l r S).bind toI) := by
  constructor
  intro pins s σ H Q I ⟨S, μ, r, rl, rs, out⟩
  refine (po_some hl).run pins s σ H Q I ⟨S, μ, r, rl, rs, OutG.split out fun d S1 v H1 μ1 _ rl1 g1 p1 hv o1 => ?_⟩
  cases d with
  | int i => exact ⟨i, hv, OutG.ret o1 rl1 rfl⟩
  | _ => exact False.elim o1
theorem s_slc10 {m : Bool} {a l h : E} {y z : Expr} {p q : Pos} (x : XOk G cn c k top sc W X) (ha : PE X y (rdE G W c a)) (hl : PE X z (rdE G W c l)) : PE X (.Subscript y (.Slice (some z) none none q) p) (rdE G W c (.slc m a (some ()) none l h)) := by
  refine PE.imp (pe_slice (ok_slice (W := W) (m := m) x.K) ha (po_of hl) po_none) fun σ H Q ⟨S, μ, r, rl, rs, out⟩ => ?_
  simp only [evE] at out
  refine ⟨S, μ, r, rl, rs, OutG.split out fun d S1 v H1 μ1 _ rl1 g1 p1 hv o1 => ?_⟩
  refine ⟨S1, μ1, r, rl1, rs.go rl.muts g1 p1, OutG.split o1 fun u S2 u' H2 μ2 _ rl2 g2 p2 e2 o2 => ?_⟩
  subst e2
  exact ⟨S2, μ2, σ, d, rl2, hv.go rl1.muts g2 p2, o2⟩
theorem s_slc01 {m : Bool} {a l h : E} {y z : Expr} {p q : Pos} (x : XOk G cn c k top sc W X) (ha : PE X y (rdE G W c a)) (hl : PE X z (rdE G W c h)) : PE X (.Subscript y (.Slice none (some z) none q) p) (rdE G W c (.slc m a none (some ()) l h)) := by
  refine PE.imp (pe_slice (ok_slice (W := W) (m := m) x.K) ha po_none (po_of hl)) fun σ H Q ⟨S, μ, r, rl, rs, out⟩ => ?_
  simp only [evE] at out
  refine ⟨S, μ, r, rl, rs, OutG.split out fun d S1 v H1 μ1 _ rl1 g1 p1 hv o1 => ?_⟩
  refine ⟨S1, μ1, r, rl1, rs.go rl.muts g1 p1, OutG.split o1 fun u S2 u' H2 μ2 _ rl2 g2 p2 e2 o2 => ?_⟩
  subst e2
  exact ⟨S2, μ2, σ, d, rl2, hv.go rl1.muts g2 p2, o2⟩
theorem s_slc11 {m : Bool} {a l h : E} {y z w : Expr} {p q : Pos} (x : XOk G cn c k top sc W X) (ha : PE X y (rdE G W c a)) (hl : PE X z (rdE G W c l)) (hh : PE X w (rdE G W c h)) :
    PE X (.Subscript y (.Slice (some z) (some w) none q) p) (rdE G W c (.slc m a (some ()) (some ()) l h)) := by
  refine PE.imp (pe_slice (ok_slice (W := W) (m := m) x.K) ha (po_of hl) (po_of hh)) fun σ H Q ⟨S, μ, r, rl, rs, out⟩ => ?_
  simp only [evE] at out
  refine ⟨S, μ, r, rl, rs, OutG.split out fun d S1 v H1 μ1 _ rl1 g1 p1 hv o1 => ?_⟩
  refine ⟨S1, μ1, r, rl1, rs.go rl.muts g1 p1, OutG.split o1 fun u S2 u' H2 μ2 _ rl2 g2 p2 e2 o2 => ?_⟩
  refine ⟨S2, μ2, r, rl2, (rs.go rl.muts g1 p1).go rl1.muts g2 p2, OutG.split o2 fun f S3 f' H3 μ3 _ rl3 g3 p3 e3 o3 => ?_⟩
  subst e2 e3
  exact ⟨S3, μ3, σ, d, rl3, (hv.go rl1.muts g2 p2).go rl2.muts g3 p3, o3⟩

/-! ### isinstance -/
theorem ty_of {S : Store} {μ : List Addr} {H : Hp} (rl : Rl G S μ H) {d : D} {v : V} {t : Nat} (h : RV G.K H μ d v) (e : tyOf S d = some t) : t ≤ 6 ∧ TyX G.K H v (.type (tyNm t)) := by
  cases d with
  | non => cases e; rw [show v = _ from h]; exact ⟨by decide, .base .non⟩
  | bl b => cases e; rw [show v = _ from h]; exact ⟨by decide, .base (.bl b)⟩
  | int i => cases e; rw [show v = _ from h]; exact ⟨by decide, .base (.int i)⟩
  | str cs => cases e; rw [show v = _ from h]; exact ⟨by decide, .base (.str _)⟩
  | tup ds =>
    cases e
    obtain ⟨a, xs, rfl, hs, _⟩ := h
    refine ⟨by decide, ?_⟩
    rcases hs with (hs | ⟨o, hs⟩) | ⟨o, its, n, hk, hc, _⟩
    · exact .base (.tup hs)
    · exact .fTuple hs
    · exact .kTuple hk hc
  | lst ds =>
    cases e
    obtain ⟨a, xs, rfl, hs, _⟩ := h
    exact ⟨by decide, .base (.lst hs)⟩
  | scr ns =>
    cases e
    obtain ⟨a, rfl, hs⟩ := h
    refine ⟨by decide, ?_⟩
    rcases hs with ⟨o, hs⟩ | hs
    · exact .base (.frz hs)
    · rcases hs (fun _ => none) with (z | ⟨_, z⟩) | ⟨o, its, n, hk, hc, _⟩
      · cases z
      · cases z
      · exact .kList hk hc
  | dic ks vs =>
    cases e
    obtain ⟨a, kvs, rfl, hs, _⟩ := h
    exact ⟨by decide, .base (.dK hs)⟩
  | ref r =>
    obtain ⟨a, rfl, ha⟩ := h
    obtain ⟨o, ho, h1, h2, h3⟩ := rl.obj r a ha
    simp only [tyOf, h1] at e
    cases o with
    | lst _ => cases e; obtain ⟨ys, rfl, _⟩ := h3; exact ⟨by decide, .base (.lst h2)⟩
    | dic _ _ => cases e; obtain ⟨ys, rfl, _⟩ := h3; exact ⟨by decide, .base (.dK h2)⟩
    | ins _ _ => cases e
/-- the table of answers -/
theorem kit_table : ∀ t, t ≤ 6 → ∀ n, 1 ≤ n → n ≤ 5 → kitB (tyNm t) (tyNm n) = some (isTy [n] t) := by
  have h : (List.range 7).all (fun t => (List.range 6).all fun n => n == 0 || decide (kitB (tyNm t) (tyNm n) = some (isTy [n] t))) = true := by decide +kernel
  intro t ht n h1 h5
  have a := List.all_eq_true.mp h t (List.mem_range.mpr (by omega))
  have b := List.all_eq_true.mp a n (List.mem_range.mpr (by omega))
  rw [Bool.or_eq_true] at b
  rcases b with b | b
  · have : n = 0 := by simpa using b
    omega
  · exact of_decide_eq_true b
theorem kit_many {K : PySem.W.Frag} {t : Nat} (ht : t ≤ 6) : ∀ ts : List Nat, (∀ n ∈ ts, 1 ≤ n ∧ n ≤ 5) → PySem.W.kitAny K (.type (tyNm t)) (ts.map fun n => .type (tyNm n)) = some (isTy ts t)
  | [], _ => by rw [List.map_nil, kitAny_nil]; simp [isTy]
  | n :: ts, h => by
    have h1 := kit_table t ht n (h n List.mem_cons_self).1 (h n List.mem_cons_self).2
    have ih := kit_many (K := K) ht ts fun m hm => h m (List.mem_cons_of_mem _ hm)
    rw [List.map_cons]
    have e : isTy (n :: ts) t = (isTy [n] t || isTy ts t) := by
      simp only [isTy, List.contains_cons, List.contains_nil, Bool.or_false]
      cases (t == n) <;> cases (ts.contains t) <;> cases (t == 1) <;> cases ((2 : Nat) == n) <;> cases (ts.contains 2) <;> rfl
    refine kitAny_cons (kit_ty h1) (fun hb => ?_) fun hb => ?_
    · rw [e, hb, Bool.false_or]; exact ih
    · rw [e, hb, Bool.true_or]
/-- a class's name -/
theorem s_ty (x : XOk G cn c k top sc W X) {n : Nat} {e : Expr} (h : tyE cn sc n e = true) : PE X e (tC (.ty (tyNm n))) ∧ 1 ≤ n ∧ n ≤ 5 := by
  unfold tyE at h
  split at h
  · rename_i y hy
    obtain ⟨p, rfl⟩ := dName_ok hy
    simp only [Bool.and_eq_true] at h
    have g := x.blt h.1
    have h2 := h.2
    split at h2 <;> first | (cases h2; done) | skip
    all_goals
      have e := of_decide_eq_true h2
      subst e
      refine ⟨pe_bltn (v := .ty _) g.1 g.2.2 (u := .type _) (by decide +kernel) rfl (by decide) g.2.1, by decide, by decide⟩
  · cases h
theorem s_isT1 (x : XOk G cn c k top sc W X) {n : Nat} {a : E} {y t : Expr} {p pos : Pos} (hn : bltB cn sc "isinstance" = true) (ht : tyE cn sc n t = true) (ha : PE X y (rdE G W c a)) (ns : notStar y = true) (nt : notStar t = true) :
    PE X (.Call (.Name "isinstance" p) [y, t] [] pos) (rdE G W c (.b1 (.isT [n]) a)) := by
  have g := x.blt hn
  obtain ⟨hp, h1, h5⟩ := s_ty x ht
  refine PE.imp (pe_callB call_isi g.1 g.2.2 (by decide +kernel) (pa_cons ha (pa_cons hp pa_nil (star_cons nt)) (star_cons ns)) (by decide) g.2.1 (star_cons ns) (star_any (by simp [nt]))) fun σ H Q ⟨S, μ, r, rl, rs, out⟩ => ?_
  simp only [evE] at out
  refine one_of rl rs out fun d S1 v H1 μ1 rl1 hv o1 => ?_
  simp only [ev1] at o1
  split at o1
  · rename_i t' et
    obtain ⟨h6, ty⟩ := ty_of rl1 hv et
    exact ⟨v, .ty (tyNm n), .type (tyNm t'), .type (tyNm n), isTy [n] t', rfl, .ty _, by rw [x.K]; exact ty, kit_ty (kit_table t' h6 n h1 h5), OutG.ret o1 rl1 rfl⟩
  · exact False.elim o1
theorem s_tys (x : XOk G cn c k top sc W X) : ∀ {ts : List Nat} {es : List Expr}, tysE cn sc ts es = true → (∀ n ∈ ts, 1 ≤ n ∧ n ≤ 5) ∧ ∃ t : TA, PA X es t ∧ ∀ σ H Q, Q (ts.map fun n => V.ty (tyNm n)) H → t σ H Q
  | [], [], _ => ⟨by simp, tNil, pa_nil, fun _ _ _ q => q⟩
  | [], _ :: _, h => by cases h
  | _ :: _, [], h => by cases h
  | n :: ts, e :: es, h => by
    simp only [tysE, Bool.and_eq_true] at h
    obtain ⟨a, t, b, q⟩ := s_tys x h.2
    obtain ⟨p, h1, h5⟩ := s_ty x h.1.1
    refine ⟨fun m hm => ?_, _, pa_cons p b (star_cons h.1.2), fun σ H Q z => q σ H _ z⟩
    rcases List.mem_cons.mp hm with rfl | hm
    · exact ⟨h1, h5⟩
    · exact a m hm
theorem paired_ty : ∀ ts : List Nat, Paired ClsV (ts.map fun n => V.ty (tyNm n)) (ts.map fun n => Value.type (tyNm n))
  | [] => .nil
  | n :: ts => .cons (.ty _) (paired_ty ts)
theorem s_isTn (x : XOk G cn c k top sc W X) {ts : List Nat} {a : E} {y : Expr} {es : List Expr} {kk : Nat} {p pos pt : Pos} (hn : bltB cn sc "isinstance" = true) (ht : tysE cn sc ts es = true) (ha : PE X y (rdE G W c a)) (ns : notStar y = true) (hl : ts.length ≤ 100) :
    PE X (.Call (.Name "isinstance" p) [y, .Tuple es kk pt] [] pos) (rdE G W c (.b1 (.isT ts) a)) := by
  have g := x.blt hn
  obtain ⟨h1, t, hp, hq⟩ := s_tys x ht
  refine PE.imp (pe_callB call_isiT g.1 g.2.2 (by decide +kernel) (pa_cons ha (pa_cons (pe_tup hp) pa_nil (star_cons rfl)) (star_cons ns)) (by decide) g.2.1 (star_cons ns) (star_any (by rfl))) fun σ H Q ⟨S, μ, r, rl, rs, out⟩ => ?_
  simp only [evE] at out
  refine one_of rl rs out fun d S1 v H1 μ1 rl1 hv o1 => ?_
  refine hq σ H1 _ ⟨by rw [List.length_map, sizeLine_eq]; omega, fun q hq' => ?_⟩
  simp only [ev1] at o1
  split at o1
  · rename_i t' et
    have gg : Go H1 μ1 (upd H1 q (.tup (ts.map fun n => V.ty (tyNm n)))) μ1 := Go.beside hq' (rl1.notin hq')
    have o2 := OutG.later o1 gg (List.prefix_refl _)
    obtain ⟨h6, ty⟩ := ty_of (rl1.beside (o := .tup (ts.map fun n => V.ty (tyNm n))) hq') (hv.go rl1.muts gg (List.prefix_refl _)) et
    exact ⟨v, q, _, .type (tyNm t'), _, isTy ts t', rfl, upd_same, paired_ty ts, by rw [x.K]; exact ty, kit_many h6 ts h1, OutG.ret o2 (rl1.beside hq') rfl⟩
  · exact False.elim o1

/-! ### list(range(..)) -/
theorem s_range {m : Bool} (x : XOk G cn c k top sc W X) {a : E} {y : Expr} {p p2 pos pos2 : Pos} (h1 : bltB cn sc "list" = true) (h2 : bltB cn sc "range" = true) (ha : PE X y (rdE G W c a)) (ns : notStar y = true) :
    PE X (.Call (.Name "list" p) [.Call (.Name "range" p2) [y] [] pos2] [] pos) (rdE G W c (.b1 (.range m) a)) := by
  have g1 := x.blt h1
  have g2 := x.blt h2
  refine PE.imp (pe_listRg x.calm g1.1 g1.2.2 (prg_1 g2.1 g2.2.2 ha (star_cons ns)) (star_cons rfl)) fun σ H Q ⟨S, μ, r, rl, rs, out⟩ => ?_
  simp only [evE] at out
  refine one_of rl rs out fun d S1 v H1 μ1 rl1 hv o1 => ?_
  cases d with
  | int i =>
    simp only [ev1] at o1
    split at o1
    · rename_i hb
      have hr : RVs G.K H1 μ1 (rangeD 0 i) (rgV 0 i) := by
        have q := RVs.ofInts (K := G.K) (H := H1) (μ := μ1) ((List.range (i - 0).toNat).map fun (j : Nat) => (0 : Int) + (j : Nat))
        rw [List.map_map, List.map_map] at q
        exact q
      exact ⟨i, hv, ⟨by omega, by omega, by omega, by omega, by omega⟩, (OutE.newL o1 rl1 hr).2⟩
    · exact False.elim o1
  | _ => exact False.elim o1
end
end Mi
/-! Walks and comprehensions. -/
namespace Mi
open PySem PySem.Spec PyProof.Rows L2
section
variable {G : Gb} {cn : Cn} {c : Cfg} {k : Nat} {top : Bool} {sc : Scope} {W : WX} {X : Cx} {tg : Expr}
theorem itemsL_of {S : Store} {d : D} {xs : List D} (h : itemsL S d = some xs) : items S d = some xs ∧ ∀ ys, d ≠ .tup ys := by
  unfold itemsL at h
  split at h
  · cases h
  · rename_i n
    exact ⟨h, n⟩
theorem wipe_get (σ : L2.St) (j : Nat) : ∀ vs : List Nat, (L2.wipe σ vs)[j]? = if j ∈ vs then (σ[j]?).map (fun _ => none) else σ[j]?
  | [] => by simp [L2.wipe]
  | v :: vs => by
    have ih := wipe_get σ j vs
    show (List.set (L2.wipe σ vs) v none)[j]? = _
    by_cases e : v = j
    · subst e
      rw [if_pos List.mem_cons_self, List.getElem?_set]
      simp only [if_true]
      have hl : (L2.wipe σ vs).length = σ.length := L2.wipe_length σ vs
      by_cases l : v < σ.length
      · rw [if_pos (by rw [hl]; exact l), List.getElem?_eq_getElem l]; rfl
      · rw [if_neg (by rw [hl]; exact l), List.getElem?_eq_none (by omega)]; rfl
    · rw [List.getElem?_set_ne e, ih]
      by_cases m : j ∈ vs
      · rw [if_pos m, if_pos (List.mem_cons_of_mem _ m)]
      · rw [if_neg m, if_neg (by simp only [List.mem_cons, not_or]; exact ⟨fun z => e z.symm, m⟩)]
theorem wipe_set {σ : L2.St} {i : Nat} {v : Option V} (vs : List Nat) (h : i ∈ vs) : L2.wipe (σ.set i v) vs = L2.wipe σ vs := by
  apply List.ext_getElem?
  intro j
  rw [wipe_get, wipe_get]
  by_cases m : j ∈ vs
  · rw [if_pos m, if_pos m]
    by_cases e : i = j
    · subst e
      by_cases l : i < σ.length
      · rw [List.getElem?_set_self l, List.getElem?_eq_getElem l]; rfl
      · rw [List.getElem?_eq_none (by simpa using l), List.getElem?_eq_none (by omega)]
    · rw [List.getElem?_set_ne e]
  · rw [if_neg m, if_neg m, List.getElem?_set_ne (fun e : i = j => m (by rw [← e]; exact h))]
theorem wipe_wipe {σ : L2.St} (vs : List Nat) : L2.wipe (L2.wipe σ vs) vs = L2.wipe σ vs := by
  apply List.ext_getElem?
  intro j
  rw [wipe_get, wipe_get]
  by_cases m : j ∈ vs
  · rw [if_pos m, if_pos m]
    cases σ[j]? <;> rfl
  · rw [if_neg m, if_neg m]
theorem not_tup {d : D} (h : ¬ ∃ xs, d = .tup xs) : ∀ xs, d ≠ .tup xs := fun xs e => h ⟨xs, e⟩
/-- a list, a tuple, a text -/
theorem w_it (x : XOk G cn c k top sc W X) {a : E} {y : Expr} (ha : PE X y (rdE G W c a)) : PI X tg y (rdI G W c (.it a)) := by
  refine PI.imp (PI.or (pi_list ha) (PI.or (pi_tup ha) (pi_str ha))) fun σ H R ⟨S, μ, r, rl, rs, out⟩ => ?_
  simp only [evSrc] at out
  cases q : evE c a r S with
  | bad => rw [q] at out; exact False.elim out
  | exc cl fs S1 => exact .inl ⟨S, μ, r, rl, rs, by rw [q] at out ⊢; exact out⟩
  | ok d S1 =>
    rw [q] at out
    have o1 : ∀ (v : V) (H1 : Hp) (μ1 : List Addr), Rl G S1 μ1 H1 → Go H μ H1 μ1 → μ <+: μ1 → RV G.K H1 μ1 d v → OutG G W σ μ1 H1 (fun H μ (p : List D × Guard) (J : It) => Walks G J p.1 p.2 H μ) (match items S1 d with
      | some xs => .ok (xs, guardOf d xs) S1
      | none => (match strItems d with
        | some xs => .ok (xs, []) S1
        | none => .bad)) R := fun v H1 μ1 a b c' _ => OutG.later out b c'
    cases e : items S1 d with
    | some xs =>
      by_cases ht : ∃ ys, d = .tup ys
      · obtain ⟨ys, rfl⟩ := ht
        cases e
        refine .inr (.inl ⟨S, μ, r, rl, rs, ?_⟩)
        rw [q]
        intro v H1 μ1 rl1 g1 p1 hv
        obtain ⟨p, zs, rfl, hs, hr⟩ := hv
        refine ⟨p, rfl, ⟨zs, by rw [x.K]; exact hs⟩, ?_⟩
        rw [x.K]
        exact OutG.ret (o1 _ H1 μ1 rl1 g1 p1 ⟨p, zs, rfl, hs, hr⟩) rl1 (walks_tup rl1.muts hs hr)
      · refine .inl ⟨S, μ, r, rl, rs, ?_⟩
        rw [q]
        intro v H1 μ1 rl1 g1 p1 hv
        obtain ⟨p, rfl, L⟩ := lists_of rl1 hv e (not_tup ht) (guardOf d xs) (fun _ h => h)
        obtain ⟨p', zs, ez, hs, _⟩ := items_list rl1 hv e (not_tup ht)
        cases ez
        refine ⟨p, rfl, ⟨zs, by rw [x.K]; exact hs⟩, ?_⟩
        rw [x.K]
        have o2 := o1 _ H1 μ1 rl1 g1 p1 hv
        rw [e] at o2
        exact OutG.ret o2 rl1 (walks_list L)
    | none =>
      cases d with
      | str cs =>
        refine .inr (.inr ⟨S, μ, r, rl, rs, ?_⟩)
        rw [q]
        intro v H1 μ1 rl1 g1 p1 hv
        have o2 := o1 _ H1 μ1 rl1 g1 p1 hv
        exact ⟨txt cs, hv, OutG.ret o2 rl1 walks_str⟩
      | _ => exfalso; simp only [Rs.bind_ok, e, strItems] at out; exact out
theorem w_rng1 (x : XOk G cn c k top sc W X) {a : E} {y : Expr} {p pos : Pos} (h : bltB cn sc "range" = true) (ha : PE X y (rdE G W c a)) (ns : notStar y = true) : PI X tg (.Call (.Name "range" p) [y] [] pos) (rdI G W c (.rng1 a)) := by
  have g := x.blt h
  refine PI.imp (pi_range1 g.1 g.2.2 (a_one ha ns) (star_cons ns)) fun σ H R ⟨S, μ, r, rl, rs, out⟩ => ?_
  simp only [evSrc] at out
  refine ⟨S, μ, r, rl, rs, OutG.split out fun d S1 v H1 μ1 _ rl1 g1 p1 hv o1 => ?_⟩
  cases d with
  | int i =>
    simp only at o1
    split at o1
    · rename_i hw
      refine ⟨i, by rw [show v = _ from hv], by omega, by omega, OutG.ret o1 rl1 (walks_range ?_)⟩
      omega
    · exact False.elim o1
  | _ => exact False.elim o1
theorem w_rng2 (x : XOk G cn c k top sc W X) {a b : E} {y z : Expr} {p pos : Pos} (h : bltB cn sc "range" = true) (ha : PE X y (rdE G W c a)) (hb : PE X z (rdE G W c b)) (ns : notStar y = true) (nz : notStar z = true) :
    PI X tg (.Call (.Name "range" p) [y, z] [] pos) (rdI G W c (.rng2 a b)) := by
  have g := x.blt h
  refine PI.imp (pi_range2 g.1 g.2.2 (a_two ha hb ns nz) (by rw [star_cons ns, star_cons nz]; rfl) (by rw [star_cons nz]; rfl)) fun σ H R ⟨S, μ, r, rl, rs, out⟩ => ?_
  simp only [evSrc] at out
  refine ⟨S, μ, r, rl, rs, OutG.split out fun d S1 v H1 μ1 _ rl1 g1 p1 hv o1 => ?_⟩
  refine ⟨S1, μ1, r, rl1, rs.go rl.muts g1 p1, OutG.split o1 fun e S2 v2 H2 μ2 _ rl2 g2 p2 hv2 o2 => ?_⟩
  cases d with
  | int i =>
    cases e with
    | int j =>
      simp only at o2
      split at o2
      · rename_i hw
        refine ⟨i, j, by rw [show v = _ from hv, show v2 = _ from hv2], by omega, OutG.ret o2 rl2 (walks_range rfl)⟩
      · exact False.elim o2
    | _ => exact False.elim o2
  | _ => exact False.elim o2
theorem w_enum (x : XOk G cn c k top sc W X) {a : E} {y : Expr} {es : List Expr} {kk : Nat} {p pos pt : Pos} (h : bltB cn sc "enumerate" = true) (ha : PE X y (rdE G W c a)) (ns : notStar y = true) :
    PI X (.Tuple es kk pt) (.Call (.Name "enumerate" p) [y] [] pos) (rdI G W c (.enum a)) := by
  have g := x.blt h
  refine PI.imp (pi_enum g.1 g.2.2 (a_one ha ns) (star_cons ns)) fun σ H R ⟨S, μ, r, rl, rs, out⟩ => ?_
  simp only [evSrc] at out
  refine ⟨S, μ, r, rl, rs, OutG.split out fun d S1 v H1 μ1 _ rl1 g1 p1 hv o1 => ?_⟩
  split at o1
  · rename_i xs e
    obtain ⟨e, nt⟩ := itemsL_of e
    obtain ⟨q, rfl, L⟩ := lists_of rl1 hv e nt (guardOf d xs) (fun _ h => h)
    obtain ⟨q', zs, ez, hs, _⟩ := items_list rl1 hv e nt
    cases ez
    refine ⟨q, zs, rfl, by rw [x.K]; exact hs, ?_⟩
    rw [x.K]
    exact OutG.ret o1 rl1 (walks_enum L)
  · exact False.elim o1
theorem w_zip (x : XOk G cn c k top sc W X) {a b : E} {y z : Expr} {es : List Expr} {kk : Nat} {p pos pt : Pos} (h : bltB cn sc "zip" = true) (ha : PE X y (rdE G W c a)) (hb : PE X z (rdE G W c b)) (ns : notStar y = true) (nz : notStar z = true) :
    PI X (.Tuple es kk pt) (.Call (.Name "zip" p) [y, z] [] pos) (rdI G W c (.zip a b)) := by
  have g := x.blt h
  refine PI.imp (pi_zip g.1 g.2.2 (a_two ha hb ns nz) (star_cons ns) (star_any (by simp [nz]))) fun σ H R ⟨S, μ, r, rl, rs, out⟩ => ?_
  simp only [evSrc] at out
  refine ⟨S, μ, r, rl, rs, OutG.split out fun d S1 v H1 μ1 _ rl1 g1 p1 hv o1 => ?_⟩
  refine ⟨S1, μ1, r, rl1, rs.go rl.muts g1 p1, OutG.split o1 fun d2 S2 v2 H2 μ2 _ rl2 g2 p2 hv2 o2 => ?_⟩
  have hv' := hv.go rl1.muts g2 p2
  split at o2
  · rename_i xs ys e1 e2
    obtain ⟨e1, n1⟩ := itemsL_of e1
    obtain ⟨e2, n2⟩ := itemsL_of e2
    obtain ⟨q, rfl, L⟩ := lists_of rl2 hv' e1 n1 (guardOf d xs ++ guardOf d2 ys) (fun _ h => List.mem_append_left _ h)
    obtain ⟨q', zs, ez, hs, _⟩ := items_list rl2 hv' e1 n1
    cases ez
    obtain ⟨q2, rfl, L2⟩ := lists_of rl2 hv2 e2 n2 (guardOf d xs ++ guardOf d2 ys) (fun _ h => List.mem_append_right _ h)
    obtain ⟨q2', zs2, ez2, hs2, _⟩ := items_list rl2 hv2 e2 n2
    cases ez2
    refine ⟨q, q2, zs, zs2, rfl, by rw [x.K]; exact hs, by rw [x.K]; exact hs2, ?_⟩
    rw [x.K]
    exact OutG.ret o2 rl2 (walks_zip L L2)
  · exact False.elim o2
theorem w_rev (x : XOk G cn c k top sc W X) {a : E} {y : Expr} {p pos : Pos} (h : bltB cn sc "reversed" = true) (ha : PE X y (rdE G W c a)) (ns : notStar y = true) : PI X tg (.Call (.Name "reversed" p) [y] [] pos) (rdI G W c (.rev a)) := by
  have g := x.blt h
  refine PI.imp (RT.pi_revA g.1 g.2.2 ha (star_cons ns)) fun σ H R ⟨S, μ, r, rl, rs, out⟩ => ?_
  simp only [evSrc] at out
  refine ⟨S, μ, r, rl, rs, OutG.split out fun d S1 v H1 μ1 _ rl1 g1 p1 hv o1 => ?_⟩
  split at o1
  · rename_i xs e
    obtain ⟨e, nt⟩ := itemsL_of e
    obtain ⟨q, rfl, L⟩ := lists_of rl1 hv e nt (guardOf d xs) (fun _ h => h)
    obtain ⟨q', zs, ez, hs, hr⟩ := items_list rl1 hv e nt
    cases ez
    refine ⟨q, zs, rfl, .inl ⟨by rw [x.K]; exact hs, ?_⟩⟩
    rw [x.K]
    exact OutG.ret o1 rl1 (walks_rev L hr.length.symm)
  · exact False.elim o1

/-! ### targets -/
def gNames : List Nat → TGs
  | [] => gNil
  | i :: is => gCons (gName i) (gNames is)
def gT (K : PySem.W.Frag) : Tg → TG
  | .nm i => gName i
  | .tp is => gTup K is.length (gNames is)
theorem loc_of {n : Str} (x : XOk G cn c k top sc W X) (h : locB top sc n = true) : Loc X.env.scope n ∧ (X.fn n = true ∨ X.env.scope.names.lookup n = some .local) := by
  unfold locB at h
  rw [x.sc]
  simp only [Bool.or_eq_true, Bool.and_eq_true, decide_eq_true_eq] at h
  rcases h with h | ⟨h1, h2⟩
  · exact ⟨.inl h, .inr h⟩
  · exact ⟨.inr h2, .inl (x.fn h1 n)⟩
theorem t_name (x : XOk G cn c k top sc W X) {i : Nat} {n : Str} {p : Pos} (h : nameB cn top sc i n = true) : PG X (.Name n p) (gName i) := by
  unfold nameB at h
  simp only [Bool.and_eq_true, decide_eq_true_eq] at h
  obtain ⟨l, f⟩ := loc_of x h.2
  exact pg_name (by rw [x.N]; exact x.nd) (by rw [x.N]; exact h.1) l f
theorem t_names (x : XOk G cn c k top sc W X) : ∀ {is : List Nat} {es : List Expr}, namesB cn top sc is es = true → PGs X es (gNames is) ∧ (assignEach es X.env).length = is.length ∧ (assignEach es X.env).findIdx? (·.1) = none
  | [], [], _ => ⟨pgs_nil, rfl, rfl⟩
  | [], _ :: _, h => by cases h
  | _ :: _, [], h => by cases h
  | i :: is, e :: es, h => by
    simp only [namesB, Bool.and_eq_true] at h
    obtain ⟨h1, h2⟩ := h
    cases q : dName e with
    | none => rw [q] at h1; cases h1
    | some n =>
      rw [q] at h1
      obtain ⟨p, rfl⟩ := dName_ok q
      obtain ⟨a, b, d⟩ := t_names x h2
      refine ⟨pgs_cons (t_name x h1) a rfl, by show (assignEach es X.env).length + 1 = _; rw [b]; rfl, ?_⟩
      show List.findIdx? _ (_ :: assignEach es X.env) = none
      rw [List.findIdx?_cons, d]
      rfl
theorem t_tg (x : XOk G cn c k top sc W X) {t : Tg} {e : Expr} (h : chkT cn top sc t e = true) : PG X e (gT X.K t) := by
  cases t with
  | nm i =>
    simp only [chkT] at h
    split at h
    · rename_i n hn
      obtain ⟨p, rfl⟩ := dName_ok hn
      exact t_name x h
    · cases h
  | tp is =>
    simp only [chkT] at h
    split at h
    · rename_i es he
      obtain ⟨kk, p, rfl⟩ := dTup_ok he
      obtain ⟨a, b, d⟩ := t_names x h
      exact pg_tup x.calm a b d
    · cases h
/-- storing by names -/
theorem set_names {H : Hp} {μ : List Addr} : ∀ (is : List Nat) (ds : List D) (xs : List V) (r : Mi.Env) (σ : L2.St) (Q : L2.St → Hp → Prop), is.length = ds.length → RVs G.K H μ ds xs → REnv G H μ r σ →
    (∀ σ2, REnv G H μ ((is.zip ds).foldl (fun r p => r.set p.1 (some p.2)) r) σ2 → (∀ vs : List Nat, (∀ i ∈ is, i ∈ vs) → L2.wipe σ2 vs = L2.wipe σ vs) → Q σ2 H) → gNames is xs σ H Q
  | [], [], xs, r, σ, Q, _, hr, re, h => ⟨hr, h σ re fun _ _ => rfl⟩
  | [], _ :: _, _, _, _, _, l, _, _, _ => by cases l
  | _ :: _, [], _, _, _, _, l, _, _, _ => by cases l
  | i :: is, d :: ds, xs, r, σ, Q, l, ⟨y, ys, e, hy, ht⟩, re, h => by
    refine ⟨y, ys, e, ?_⟩
    refine set_names is ds ys (r.set i (some d)) (σ.set i (some y)) Q (by simpa using l) ht (re.set i hy) fun σ2 re2 hw => h σ2 re2 fun vs hvs => ?_
    rw [hw vs fun j hj => hvs j (List.mem_cons_of_mem _ hj)]
    exact wipe_set vs (hvs i List.mem_cons_self)
/-- a target takes a value -/
theorem take_tg {H : Hp} {μ : List Addr} {t : Tg} {d : D} {v : V} {r r' : Mi.Env} {σ : L2.St} {Q : L2.St → Hp → Prop} (x : XOk G cn c k top sc W X) (hv : RV G.K H μ d v) (re : REnv G H μ r σ) (e : setT t d r = some r')
    (h : ∀ σ2, REnv G H μ r' σ2 → (∀ vs : List Nat, tgIn vs t = true → L2.wipe σ2 vs = L2.wipe σ vs) → Q σ2 H) : gT X.K t v σ H Q := by
  cases t with
  | nm i =>
    simp only [setT] at e
    split at e
    · cases e
      exact h _ (re.set i hv) fun vs hin => wipe_set vs (by simpa [tgIn] using hin)
    · cases e
  | tp is =>
    cases d with
    | tup ds =>
      simp only [setT] at e
      split at e
      · rename_i hl
        cases e
        obtain ⟨a, xs, rfl, hs, hr⟩ := hv
        refine ⟨a, xs, rfl, by rw [x.K]; exact hs, by rw [← hr.length]; exact hl.1, ?_⟩
        refine set_names is ds xs r σ Q hl.1.symm hr re fun σ2 re2 hw => h σ2 re2 fun vs hin => hw vs fun i hi => ?_
        have q := List.all_eq_true.mp (show is.all vs.contains = true from hin) i hi
        simpa using q
      · cases e
    | _ => cases e

end
end Mi
/-! Comprehensions. -/
namespace Mi
open PySem PySem.Spec PyProof.Rows L2
section
variable {G : Gb} {cn : Cn} {c : Cfg} {k : Nat} {top : Bool} {sc : Scope} {W : WX} {X : Cx} {tg : Expr}
def noW : WX := fun _ _ _ _ => False
def ttOf (G : Gb) (c : Cfg) (cond : Option Unit) (cd : E) : TT := match cond with
  | none => tYes
  | some _ => rdT G noW c cd
theorem lc_out (x : XOk G cn c k top sc W X) {m : Bool} {me : E} {t : Tg} {src : Src} {cond : Option Unit} {cd : E} {own : List Nat} (hin : tgIn own t = true) {σ : L2.St} {H : Hp} {Q : VK} (h : rdE G W c (.comp m me t src cond cd own) σ H Q) :
    tLc (rdI G W c src) (gT X.K t) (ttOf G c cond cd) (rdE G noW c me) own σ H Q := by
  obtain ⟨S, μ, r, rl, rs, out⟩ := h
  simp only [evE] at out
  refine ⟨S, μ, r, rl, rs, OutG.split out fun p S1 J H1 μ1 hsrc rl1 g1 p1 wk o1 => ?_⟩
  obtain ⟨ds, g⟩ := p
  intro D hD
  dsimp only at o1 wk
  generalize hf : compBody t cond (fun r S => evE c me r S) (fun r S => evE c cd r S) (wipeE r own) = f at o1
  have fx : ∀ x S, f x S = compBody t cond (fun r S => evE c me r S) (fun r S => evE c cd r S) (wipeE r own) x S := fun x S => by rw [hf]
  have rlP : Rl G (S1 ++ [.lst []]) (μ1 ++ [D]) (upd H1 D (.lst [])) := rl1.push (o := .lst []) hD ⟨[], rfl, rfl⟩
  have gP : Go H1 μ1 (upd H1 D (.lst [])) (μ1 ++ [D]) := Go.push hD
  have prP : μ1 <+: μ1 ++ [D] := List.prefix_append _ _
  have rs1 : REnv G H1 μ1 (wipeE r own) (L2.wipe σ own) := (rs.go rl.muts g1 p1).wipe own
  refine ⟨fun i n H' => ∃ S' μ', n = ds.length - i ∧ i ≤ ds.length ∧ Rl G S' μ' H' ∧ Go (upd H1 D (.lst [])) (μ1 ++ [D]) H' μ' ∧ μ1 ++ [D] <+: μ' ∧ compLoop g S1.length f ds (S1 ++ [.lst []]) = compLoop g S1.length f (ds.drop i) S',
    ⟨ds.length, S1 ++ [.lst []], μ1 ++ [D], by simp, Nat.zero_le _, rlP, Go.refl, List.prefix_refl _, by simp⟩, ?_⟩
  rintro i n H' ⟨S', μ', rfl, hi, rl', g', p', e⟩
  have gg := gP.trans g'
  have pp : μ1 <+: μ' := prP.trans p'
  have hn : μ'[S1.length]? = some D := by
    obtain ⟨tl, rfl⟩ := p'
    rw [← rl1.len]
    simp
  rw [e] at o1
  by_cases hlt : i < ds.length
  · refine .inr ?_
    rw [List.drop_eq_getElem_cons hlt] at o1
    have st : stands g S' = true := by
      cases q : stands g S' with
      | true => rfl
      | false => rw [compLoop, q] at o1; exact False.elim o1
    have estep : compLoop g S1.length f (ds[i] :: ds.drop (i + 1)) S' = (f ds[i] S').bind fun o S'' => match o with
      | some y => (match S''[S1.length]? with
        | some (.lst acc) => if acc.length < line then compLoop g S1.length f (ds.drop (i + 1)) (S''.set S1.length (.lst (acc ++ [y]))) else .bad
        | _ => .bad)
      | none => compLoop g S1.length f (ds.drop (i + 1)) S'' := by rw [compLoop, st]; rfl
    rw [List.drop_eq_getElem_cons hlt, estep] at e
    rw [estep] at o1
    refine ⟨wk.go i S' μ' H' hlt rl' gg pp st, fun H'' => ∃ S'' μ'', Rl G S'' μ'' H'' ∧ Go (upd H1 D (.lst [])) (μ1 ++ [D]) H'' μ'' ∧ μ1 ++ [D] <+: μ'' ∧ compLoop g S1.length f ds (S1 ++ [.lst []]) = compLoop g S1.length f (ds.drop (i + 1)) S'',
      fun H'' ⟨S'', μ'', a, b, d, e'⟩ => ⟨ds.length - (i + 1), by omega, S'', μ'', rfl, hlt, a, b, d, e'⟩, fun xv H2 y => ?_⟩
    obtain ⟨rl2, g2, d, hd, hx⟩ := wk.yld i S' μ' H' xv H2 hlt rl' gg pp st y
    have hdi : ds[i] = d := by
      rw [List.getElem?_eq_getElem hlt] at hd
      cases hd; rfl
    rw [hdi] at e o1
    have rs2 : REnv G H2 μ' (wipeE r own) (L2.wipe σ own) := (rs1.go rl1.muts gg pp).go rl'.muts g2 (List.prefix_refl _)
    cases hset : setT t d (wipeE r own) with
    | none =>
      rw [fx, compBody, hset] at o1
      exact False.elim o1
    | some r' =>
      refine take_tg x hx rs2 hset fun σ2 re2 hw => ⟨by rw [hw own hin, wipe_wipe], ?_⟩
      -- the item
      have item : ∀ (S2 : Store) (μ2 : List Addr) (H3 : Hp), Rl G S2 μ2 H3 → Go H2 μ' H3 μ2 → μ' <+: μ2 → REnv G H3 μ2 r' σ2 → (f d S' = compItem (evE c me r' S2)) → rdE G noW c me σ2 H3 fun yv H4 => ∃ acc, H4 D = some (.lst acc) ∧ acc.length < sizeLine ∧ ∃ S'' μ'', Rl G S'' μ'' (upd H4 D (.lst (acc ++ [yv]))) ∧ Go (upd H1 D (.lst [])) (μ1 ++ [D]) (upd H4 D (.lst (acc ++ [yv]))) μ'' ∧ μ1 ++ [D] <+: μ'' ∧ compLoop g S1.length f ds (S1 ++ [.lst []]) = compLoop g S1.length f (ds.drop (i + 1)) S'' := by
        intro S2 μ2 H3 rl3 g3 p3 re3 ef
        refine ⟨S2, μ2, r', rl3, re3, ?_⟩
        rw [ef] at o1 e
        cases q : evE c me r' S2 with
        | bad => rw [q] at o1; exact False.elim o1
        | exc cl fs S3 => rw [q] at o1; exact False.elim o1
        | ok d2 S3 =>
          rw [q] at o1 e
          intro yv H4 μ4 rl4 g4 p4 hy
          simp only [compItem, Rs.bind_ok] at o1 e
          have hn4 : μ4[S1.length]? = some D := by
            obtain ⟨t1, rfl⟩ := p3
            obtain ⟨t2, rfl⟩ := p4
            rw [List.getElem?_append_left, List.getElem?_append_left]
            · exact hn
            · exact (List.getElem?_eq_some_iff.mp hn).1
            · have := (List.getElem?_eq_some_iff.mp hn).1
              simp only [List.length_append]; omega
          split at o1
          · rename_i acc hacc
            rw [hacc] at e
            dsimp only at e
            split at o1
            · rename_i hl
              rw [if_pos hl] at e
              obtain ⟨a, ho, h1, h2, h3⟩ := rl4.at hacc
              rw [hn4] at h1
              cases h1
              obtain ⟨xs, rfl, hr⟩ := h3
              refine ⟨xs, h2, by rw [← hr.length, sizeLine_eq]; exact hl, _, μ4, rl4.set hn4 (o := .lst (acc ++ [d2])) ⟨xs ++ [yv], rfl, hr.append (RVs.one hy)⟩, ?_, ?_, e⟩
              · exact g'.trans (g2.trans (g3.trans (g4.trans (Go.set (List.mem_of_getElem? hn4)))))
              · exact p'.trans (p3.trans p4)
            · exact False.elim o1
          · exact False.elim o1
      cases cond with
      | none =>
        simp only [ttOf, tYes, if_true]
        refine item S' μ' H2 rl2 Go.refl (List.prefix_refl _) re2 ?_
        rw [fx, compBody, hset]
      | some u =>
        show rdT G noW c cd σ2 H2 _
        refine ⟨S', μ', r', rl2, re2, ?_⟩
        have ef : f d S' = match evE c cd r' S' with
            | .ok (.bl true) S' => compItem (evE c me r' S')
            | .ok (.bl false) S' => .ok none S'
            | _ => .bad := by rw [fx, compBody, hset] <;> rfl
        unfold evT
        cases q : evE c cd r' S' with
        | bad => rw [ef, q] at o1; exact False.elim o1
        | exc cl fs S3 => rw [ef, q] at o1; exact False.elim o1
        | ok d2 S3 =>
          cases d2 with
          | bl b =>
            intro b' H3 μ3 rl3 g3 p3 eb
            subst eb
            cases b with
            | true =>
              rw [if_pos rfl]
              refine item S3 μ3 H3 rl3 g3 p3 (re2.go rl2.muts g3 p3) ?_
              rw [ef, q]
            | false =>
              rw [if_neg (by decide)]
              rw [ef, q] at e
              exact ⟨S3, μ3, rl3, g'.trans (g2.trans g3), p'.trans p3, e⟩
          | _ => rw [ef, q] at o1; exact False.elim o1
  · refine .inl ?_
    have ei : i = ds.length := by omega
    subst ei
    rw [List.drop_length] at o1
    unfold compLoop at o1
    split at o1
    · rename_i st
      refine ⟨wk.stop S' μ' H' rl' gg pp st, ?_⟩
      dsimp only [Rs.bind_ok] at o1
      split at o1
      · exact o1 _ H' μ' rl' gg pp ⟨D, rfl, hn⟩
      · unfold freezeR at o1
        split at o1
        · rename_i hc
          obtain ⟨rlT, eT⟩ := clean_take rl1 rl' pp hc
          split at o1
          · rename_i v hv
            have q := frz_ok rl' deepest (.ref S1.length) (.ref D) v ⟨D, rfl, hn⟩ hv
            rw [eT] at q
            refine o1 _ H' μ1 rlT ?_ (List.prefix_refl _) q
            have := gg.trans (Go.take (μ := μ') (n0 := S1.length))
            rw [eT] at this
            exact this
          · exact False.elim o1
        · exact False.elim o1
    · exact False.elim o1
theorem own_of (N : List Str) (own : List Nat) : (ownP N own).map (·.2) = own := by
  unfold ownP
  rw [List.map_map]
  show own.map (fun i => i) = own
  simp
theorem s_comp (x : XOk G cn c k top sc W X) {m : Bool} {me : E} {t : Tg} {src : Src} {cond : Option Unit} {cd : E} {own : List Nat} {elt iter : Expr} {ifs : List Expr} {s : Scope} {p : Pos}
    (hb : blkC cn.N sc s (ownP cn.N own) = true) (hs : notSet iter = true) (hin : tgIn own t = true) (ht : chkT cn false (relS s sc) t tg = true) (hi : PI X tg iter (rdI G W c src))
    (he : ∀ Y, XOk G cn c k false (relS s sc) noW Y → Y.K = X.K → PE Y elt (rdE G noW c me)) (hc : ∀ Y, XOk G cn c k false (relS s sc) noW Y → Y.K = X.K → PTs Y ifs (ttOf G c cond cd)) :
    PE X (.ListComp elt [⟨tg, iter, ifs, 0⟩] s p) (rdE G W c (.comp m me t src cond cd own)) := by
  have z := pe_lc (X := X) (g := gT X.K t) (elt := elt) (ifs := ifs) (pos := p) x.calm (by rw [x.N]; exact x.nd) hi (blkOk_by (scope := s) (own := ownP cn.N own) (by rw [x.N, x.sc]; exact hb)) (fun s2 H C cl fp => (t_tg (x.block (s := s2) (H := H) (cl := cl) (C := C) (fp := fp)) ht : PG _ tg (gT X.K t)))
    (fun s2 H C cl fp => hc _ (x.block (s := s2) (H := H) (cl := cl) (C := C) (fp := fp)) rfl) (fun s2 H C cl fp => he _ (x.block (s := s2) (H := H) (cl := cl) (C := C) (fp := fp)) rfl) (fun _ => set_base hs)
  rw [own_of] at z
  exact PE.imp z fun σ H Q h => lc_out x hin h
/-- name = [..] -/
theorem s_setComp (x : XOk G cn c k top sc W X) {m : Bool} {me : E} {t : Tg} {src : Src} {cond : Option Unit} {cd : E} {own : List Nat} {elt iter : Expr} {ifs : List Expr} {s : Scope} {p py sp : Pos} {i : Nat} {y : Str}
    (hb : blkC cn.N sc s (ownP cn.N own) = true) (hs : notSet iter = true) (hin : tgIn own t = true) (ht : chkT cn false (relS s sc) t tg = true) (hi : PI X tg iter (rdI G W c src))
    (he : ∀ Y, XOk G cn c k false (relS s sc) noW Y → Y.K = X.K → PE Y elt (rdE G noW c me)) (hc : ∀ Y, XOk G cn c k false (relS s sc) noW Y → Y.K = X.K → PTs Y ifs (ttOf G c cond cd))
    (hy : cn.N[i]? = some y) (hl : sc.names.lookup y = some .local) (hsw : swapsWith (.ListComp elt [⟨tg, iter, ifs, 0⟩] s p) (some (.Name y py)) sp.line X.env = pure true) :
    PS X (.Assign [.Name y py] (.ListComp elt [⟨tg, iter, ifs, 0⟩] s p) sp) (tAsg (rdE G W c (.comp m me t src cond cd own)) (gName i)) := by
  have z := ps_setLc (X := X) (g := gT X.K t) (elt := elt) (ifs := ifs) (pos := p) (i := i) (y := y) (py := py) (spos := sp) x.calm (by rw [x.N]; exact x.nd) (by rw [x.N]; exact hy) (by rw [x.sc]; exact hl) hsw hi (blkOk_by (scope := s) (own := ownP cn.N own) (by rw [x.N, x.sc]; exact hb))
    (fun s2 H C cl fp => (t_tg (x.block (s := s2) (H := H) (cl := cl) (C := C) (fp := fp)) ht : PG _ tg (gT X.K t)))
    (fun s2 H C cl fp => hc _ (x.block (s := s2) (H := H) (cl := cl) (C := C) (fp := fp)) rfl) (fun s2 H C cl fp => he _ (x.block (s := s2) (H := H) (cl := cl) (C := C) (fp := fp)) rfl) (fun _ => set_base hs)
  rw [own_of] at z
  exact ⟨fun pins s σ H D I h => z.run pins s σ H D I (lc_out x hin h)⟩
end
end Mi
/-! Dicts. -/
namespace Mi
open PySem PySem.Spec PyProof.Rows L2
section
variable {G : Gb} {cn : Cn} {c : Cfg} {k : Nat} {top : Bool} {sc : Scope} {W : WX} {X : Cx} {S : Store} {μ : List Addr} {H : Hp}
theorem dict_rv (rl : Rl G S μ H) {d : D} {v : V} {ks vs : List D} (h : RV G.K H μ d v) (e : dictOf S d = some (ks, vs)) : ∃ a kvs, v = .ref a ∧ H a = some (.dK kvs) ∧ ks.map keyOf = kvs.map (fun p => some p.1) ∧ RVs G.K H μ vs (kvs.map (·.2)) := by
  cases d with
  | dic ks' vs' =>
    cases e
    obtain ⟨a, kvs, ev, hs, _, hk, hr⟩ := h
    exact ⟨a, kvs, ev, hs, hk, hr⟩
  | ref r =>
    obtain ⟨a, rfl, ha⟩ := h
    obtain ⟨o, ho, h1, h2, h3⟩ := rl.obj r a ha
    simp only [dictOf, h1] at e
    cases o with
    | dic _ _ =>
      cases e
      obtain ⟨kvs, rfl, hk, hr⟩ := h3
      exact ⟨a, kvs, rfl, h2, hk, hr⟩
    | _ => cases e
  | _ => cases e
theorem key_rv {d : D} {v : V} (h : RV G.K H μ d v) (e : keyOk d = true) : ∃ k, v = kV k ∧ keyOf d = some k := by
  cases d with
  | int i => exact ⟨.inl i, h, rfl⟩
  | str cs => exact ⟨.inr (txt cs), h, rfl⟩
  | _ => cases e
theorem keyOf_inj {a b : D} {k : Key} (h : keyOf a = some k) (h' : keyOf b = some k) : a = b := by
  cases a <;> simp only [keyOf] at h <;> first | (cases h; done) | skip
  all_goals
    cases b <;> simp only [keyOf] at h' <;> first | (cases h'; done) | skip
    all_goals
      cases h
      first
        | (cases h'; done)
        | (cases h'; rfl)
        | (simp only [Option.some.injEq, Sum.inr.injEq] at h'; rw [txt_inj h'])
        | (simp at h')
theorem dget_rv {y : D} {k : Key} (hy : keyOf y = some k) : ∀ {ks vs : List D} {kvs : List (Key × V)}, ks.map keyOf = kvs.map (fun p => some p.1) → RVs G.K H μ vs (kvs.map (·.2)) →
    match dget y ks vs, valV kvs k with
    | some d, some v => RV G.K H μ d v
    | none, none => True
    | _, _ => False
  | [], [], [], _, _ => trivial
  | [], _ :: _, [], _, h => by obtain ⟨_, _, e, _⟩ := h; cases e
  | [], _, _ :: _, h, _ => by simp at h
  | _ :: _, _, [], h, _ => by simp at h
  | _ :: _, [], _ :: _, _, h => by cases (show _ = [] from h)
  | a :: ks, d :: vs, p :: kvs, hk, ⟨x, r, e, h1, h2⟩ => by
    simp only [List.map_cons, List.cons.injEq] at hk e
    have ih := dget_rv hy hk.2 (by rw [e.2]; exact h2)
    unfold dget at ih ⊢
    rw [List.zip_cons_cons, List.find?_cons]
    by_cases q : a = y
    · subst q
      have ep : p.1 = k := by rw [hy] at hk; exact (Option.some.inj hk.1).symm
      rw [decide_eq_true rfl, valV_pos ep]
      show RV G.K H μ d p.2
      rw [e.1]
      exact h1
    · have ep : ¬ p.1 = k := fun z => q (keyOf_inj (by rw [hk.1, z]) hy)
      rw [decide_eq_false q, valV_neg ep]
      exact ih
theorem any_keys {y : D} {k : Key} (hy : keyOf y = some k) : ∀ {ks : List D} {kvs : List (Key × V)}, ks.map keyOf = kvs.map (fun p => some p.1) → (ks.any fun a => decide (a = y)) = kvs.any fun kv => decide (kv.1 = k)
  | [], [], _ => rfl
  | [], _ :: _, h => by simp at h
  | _ :: _, [], h => by simp at h
  | a :: ks, p :: kvs, hk => by
    simp only [List.map_cons, List.cons.injEq] at hk
    rw [List.any_cons, List.any_cons, any_keys hy hk.2]
    congr 1
    by_cases q : a = y
    · subst q
      have ep : p.1 = k := by rw [hy] at hk; exact (Option.some.inj hk.1).symm
      rw [decide_eq_true rfl, decide_eq_true ep]
    · have ep : ¬ p.1 = k := fun z => q (keyOf_inj (by rw [hk.1, z]) hy)
      rw [decide_eq_false q, decide_eq_false ep]
theorem keys_put {k : Key} {x : V} : ∀ (ks : List D) (kvs : List (Key × V)), ks.map keyOf = kvs.map (fun p => some p.1) → ks.map keyOf = (kvs.map fun kv => if kv.1 = k then (kv.1, x) else kv).map (fun p => some p.1)
  | [], [], _ => rfl
  | [], _ :: _, h => by simp at h
  | _ :: _, [], h => by simp at h
  | a :: ks, p :: kvs, hk => by
    simp only [List.map_cons, List.cons.injEq] at hk ⊢
    refine ⟨?_, keys_put ks kvs hk.2⟩
    rw [hk.1]
    split <;> rfl
theorem vals_put {y d : D} {k : Key} {x : V} (hy : keyOf y = some k) (hx : RV G.K H μ d x) : ∀ (ks vs : List D) (kvs : List (Key × V)), ks.map keyOf = kvs.map (fun p => some p.1) → RVs G.K H μ vs (kvs.map (·.2)) →
    RVs G.K H μ ((ks.zip vs).map fun p => if p.1 = y then d else p.2) ((kvs.map fun kv => if kv.1 = k then (kv.1, x) else kv).map (·.2))
  | [], [], [], _, _ => rfl
  | [], _ :: _, [], _, h => by obtain ⟨_, _, e, _⟩ := h; cases e
  | [], _, _ :: _, h, _ => by simp at h
  | _ :: _, _, [], h, _ => by simp at h
  | _ :: _, [], _ :: _, _, h => by cases (show _ = [] from h)
  | a :: ks, e :: vs, p :: kvs, hk, ⟨z, r, ee, h1, h2⟩ => by
    simp only [List.map_cons, List.cons.injEq] at hk ee
    have ih := vals_put hy hx ks vs kvs hk.2 (by rw [ee.2]; exact h2)
    simp only [List.zip_cons_cons, List.map_cons]
    refine ⟨_, _, rfl, ?_, ih⟩
    by_cases q : a = y
    · subst q
      have ep : p.1 = k := by rw [hy] at hk; exact (Option.some.inj hk.1).symm
      rw [if_pos rfl, if_pos ep]
      exact hx
    · have ep : ¬ p.1 = k := fun z => q (keyOf_inj (by rw [hk.1, z]) hy)
      rw [if_neg q, if_neg ep, ee.1]
      exact h1
theorem dput_rv {y d : D} {k : Key} {x : V} {ks vs : List D} {kvs : List (Key × V)} (hy : keyOf y = some k) (hx : RV G.K H μ d x) (hk : ks.map keyOf = kvs.map (fun p => some p.1)) (hv : RVs G.K H μ vs (kvs.map (·.2))) :
    RO G H μ (.dic (dput y d ks vs).1 (dput y d ks vs).2) (.dK (putK kvs k x)) := by
  refine ⟨_, rfl, ?_⟩
  unfold dput putK
  rw [any_keys hy hk]
  by_cases q : (kvs.any fun kv => decide (kv.1 = k)) = true
  · rw [if_pos q, if_pos q]
    exact ⟨keys_put ks kvs hk, vals_put hy hx ks vs kvs hk hv⟩
  · rw [if_neg q, if_neg q]
    refine ⟨by simp [hk, hy], ?_⟩
    rw [List.map_append]
    exact hv.append (RVs.one hx)
theorem keys_len {ks : List D} {kvs : List (Key × V)} (hk : ks.map keyOf = kvs.map (fun p => some p.1)) : ks.length = kvs.length := by
  have := congrArg List.length hk
  simpa using this

theorem ok_ind (hu : X.A.units + 1 < cLine) : OpR X (compareOp .In) (r2 G W .ind) := by
  rintro pins s σ' H x y v u Q I rx ry ⟨S, μ, σ, a, b, rl, ha, hb, o⟩
  simp only [ev2, evInD] at o
  split at o
  · rename_i ks vs ed
    split at o
    · rename_i hk0
      obtain ⟨p, kvs, rfl, h2, hk, hr⟩ := dict_rv rl hb ed
      obtain ⟨k', rfl, hy⟩ := key_rv ha hk0
      obtain rfl : u = Value.ref p := ry
      refine d_in hu I (DGet.k h2) rx fun s1 I1 => ⟨.bl (valV kvs k').isSome, H, I1, rfl, ?_⟩
      have q := dget_rv hy hk hr
      rw [if_neg (by decide)] at o
      have e : (dget a ks vs).isSome = (valV kvs k').isSome := by
        split at q <;> first | (simp_all; done) | exact q.elim
      rw [e] at o
      exact o.val rl rfl
    · exact False.elim o
  · exact False.elim o
theorem ok_nid (hu : X.A.units + 1 < cLine) : OpR X (compareOp .NotIn) (r2 G W .nid) := by
  rintro pins s σ' H x y v u Q I rx ry ⟨S, μ, σ, a, b, rl, ha, hb, o⟩
  simp only [ev2, evInD] at o
  split at o
  · rename_i ks vs ed
    split at o
    · rename_i hk0
      obtain ⟨p, kvs, rfl, h2, hk, hr⟩ := dict_rv rl hb ed
      obtain ⟨k', rfl, hy⟩ := key_rv ha hk0
      obtain rfl : u = Value.ref p := ry
      refine d_notIn hu I (DGet.k h2) rx fun s1 I1 => ⟨.bl (!(valV kvs k').isSome), H, I1, rfl, ?_⟩
      have q := dget_rv hy hk hr
      rw [if_pos trivial] at o
      have e : (dget a ks vs).isSome = (valV kvs k').isSome := by
        split at q <;> first | (simp_all; done) | exact q.elim
      rw [e] at o
      exact o.val rl rfl
    · exact False.elim o
  · exact False.elim o
theorem s_ixd {a b : E} {y z : Expr} {p : Pos} (x : XOk G cn c k top sc W X) (hu : X.A.units + 1 < cLine) (ha : PE X y (rdE G W c a)) (hb : PE X z (rdE G W c b)) (hp : PlainIx z) : PE X (.Subscript y z p) (rdE G W c (.b2 .ixd a b)) := by
  refine PE.imp (pe_dget hu ha hb hp) fun σ H Q ⟨S, μ, r, rl, rs, out⟩ => ?_
  simp only [evE] at out
  refine two_of rl rs out fun d e S1 x y H1 μ1 rl1 hx hy o1 => ?_
  simp only [ev2, evIxD] at o1
  split at o1
  · rename_i ks vs ed
    split at o1
    · rename_i hk0
      obtain ⟨q, kvs, rfl, h2, hk, hr⟩ := dict_rv rl1 hx ed
      obtain ⟨k', rfl, hy'⟩ := key_rv hy hk0
      have z := dget_rv hy' hk hr
      split at o1
      · rename_i v ev
        rw [ev] at z
        cases ew : valV kvs k' with
        | none => rw [ew] at z; exact z.elim
        | some w =>
          rw [ew] at z
          exact ⟨q, w, rfl, by rw [← ew]; exact DGet.k h2, o1.val rl1 z⟩
      · exact False.elim o1
    · exact False.elim o1
  · exact False.elim o1
theorem s_dict {m : Bool} {p : Pos} (x : XOk G cn c k top sc W X) : PE X (.Dict [] [] p) (rdE G W c (.dict m)) := by
  refine PE.imp pe_dnewK fun σ H Q ⟨S, μ, r, rl, rs, out⟩ => ?_
  simp only [evE, newD] at out
  intro q hq
  cases m with
  | true =>
    have g : Go H μ (upd H q (.dK [])) (μ ++ [q]) := Go.push hq
    refine out _ _ (μ ++ [q]) (rl.push (o := .dic [] []) hq ⟨[], rfl, rfl, rfl⟩) g (List.prefix_append _ _) ⟨q, rfl, ?_⟩
    rw [← rl.len]; simp
  | false =>
    have g : Go H μ (upd H q (.dK [])) μ := Go.beside hq (rl.notin hq)
    exact out _ _ μ (rl.beside hq) g (List.prefix_refl _) ⟨q, [], rfl, upd_same, rl.notin hq, rfl, rfl⟩
end
end Mi
/-! All expressions. -/
namespace Mi
open PySem PySem.Spec PyProof.Rows L2
section
variable {G : Gb} {cn : Cn} {c : Cfg} {k : Nat} {top : Bool} {sc : Scope} {W : WX} {X : Cx}
theorem XOk.hu (x : XOk G cn c k top sc W X) : X.A.units + 64 < cLine := by
  have := x.room.un
  omega
theorem b1_fn (x : XOk G cn c k top sc W X) {o : B1} {a : E} {n : Str} (hn : b1Fn o = some n) {y : Expr} {p pos : Pos} (hb : bltB cn sc n = true) (ns : notStar y = true) (ha : PE X y (rdE G W c a)) : PE X (.Call (.Name n p) [y] [] pos) (rdE G W c (.b1 o a)) := by
  cases o <;> first | (cases hn; done) | skip
  case len => cases hn; exact s_callB x hb (ok_len x.K) (by decide +kernel) (by decide) ha ns
  case sum => cases hn; exact s_callB x hb (ok_sum x.K x.calm) (by decide +kernel) (by decide) ha ns
  case max => cases hn; exact s_callB x hb (ok_max x.K x.calm) (by decide +kernel) (by decide) ha ns
  case all => cases hn; exact s_callB x hb (ok_all x.K x.calm) (by decide +kernel) (by decide) ha ns
  case abs => cases hn; exact s_callB x hb (ok_abs x.K) (by decide +kernel) (by decide) ha ns
  case int => cases hn; exact s_callTy x hb (ok_int x.K) (by decide +kernel) (by decide) ha ns
  case rep => cases hn; exact s_callB x hb (ok_rep x.K x.guards x.hu) (by decide +kernel) (by decide) ha ns
  case list m => cases hn; exact s_callTy x hb (ok_list x.K) (by decide +kernel) (by decide) ha ns
  case tup => cases hn; exact s_callTy x hb (ok_tuple x.K) (by decide +kernel) (by decide) ha ns
  case sort => cases hn; exact s_callB x hb (ok_sort x.K) (by decide +kernel) (by decide) ha ns
theorem recv_pop (S : Store) (d : D) (h : ev1 .pop d S ≠ .bad) : ∃ xs, items S d = some xs ∧ ∀ ys, d ≠ .tup ys := by
  cases d with
  | ref r =>
    simp only [ev1] at h
    split at h
    · rename_i xs e
      exact ⟨xs, by simp only [items, e], fun _ z => by cases z⟩
    · exact absurd rfl h
  | _ => exact absurd rfl h
theorem recv_clear (S : Store) (d : D) (h : ev1 .clear d S ≠ .bad) : ∃ xs, items S d = some xs ∧ ∀ ys, d ≠ .tup ys := by
  cases d with
  | ref r =>
    simp only [ev1] at h
    split at h
    · rename_i xs e
      exact ⟨xs, by simp only [items, e], fun _ z => by cases z⟩
    · exact absurd rfl h
  | _ => exact absurd rfl h
theorem b1_ok (x : XOk G cn c k top sc W X) {o : B1} {a : E} {e : Expr} (ih : ∀ y, chkE cn top sc a y = true → Sd G W c X a y) (h : chkE cn top sc (.b1 o a) e = true) : Sd G W c X (.b1 o a) e := by
  simp only [chkE] at h
  split at h
  · split at h
    · rename_i y hd
      obtain ⟨p, rfl⟩ := dNeg_ok hd
      exact Sd.of (s_neg x (ih y h).pe) rfl
    · cases h
  · split at h
    · rename_i n y hd
      obtain ⟨p, pos, rfl⟩ := dCall_ok hd
      simp only [Bool.and_eq_true, decide_eq_true_eq] at h
      obtain ⟨⟨⟨rfl, hb⟩, _⟩, h⟩ := h
      split at h
      · rename_i n' z hd'
        obtain ⟨p', pos', rfl⟩ := dCall_ok hd'
        simp only [Bool.and_eq_true, decide_eq_true_eq] at h
        obtain ⟨⟨⟨rfl, hb'⟩, ns⟩, h⟩ := h
        exact Sd.of (s_range x hb hb' (ih z h).pe ns) rfl
      · cases h
    · cases h
  · rename_i ts
    split at h
    · rename_i n y t hd
      obtain ⟨p, pos, rfl⟩ := dCall_ok hd
      simp only [Bool.and_eq_true, decide_eq_true_eq] at h
      obtain ⟨⟨⟨⟨⟨rfl, hb⟩, ns⟩, nt⟩, hy⟩, h⟩ := h
      split at h
      · exact Sd.of (s_isT1 x hb h (ih y hy).pe ns nt) rfl
      · split at h
        · rename_i es ht
          obtain ⟨kk, pt, rfl⟩ := dTup_ok ht
          simp only [Bool.and_eq_true, decide_eq_true_eq] at h
          exact Sd.of (s_isTn x hb h.1 (ih y hy).pe ns h.2) rfl
        · cases h
    · cases h
  · split at h
    · rename_i y m hd
      obtain ⟨ap, cp, rfl, hl, hs, _⟩ := dMeth_ok hd
      simp only [Bool.and_eq_true, decide_eq_true_eq] at h
      obtain ⟨rfl, h⟩ := h
      exact Sd.of (s_m0 x PySem.F.slot_list_pop rfl (ok_pop x.K) recv_pop (ih y h).pe hl hs) rfl
    · cases h
  · split at h
    · rename_i y m hd
      obtain ⟨ap, cp, rfl, hl, hs, _⟩ := dMeth_ok hd
      simp only [Bool.and_eq_true, decide_eq_true_eq] at h
      obtain ⟨rfl, h⟩ := h
      exact Sd.of (s_m0 x PySem.F.slot_list_clear rfl (ok_clear x.K) recv_clear (ih y h).pe hl hs) rfl
    · cases h
  · split at h
    · rename_i n y hd
      obtain ⟨p, pos, rfl⟩ := dCall_ok hd
      simp only [Bool.and_eq_true, decide_eq_true_eq] at h
      obtain ⟨⟨⟨hn, hb⟩, ns⟩, h⟩ := h
      exact Sd.of (b1_fn x hn hb ns (ih y h).pe) rfl
    · cases h
theorem bin_op (x : XOk G cn c k top sc W X) {o : B2} {op : Operator} (h : binOf o = some op) : OpR X (binaryOp op) (r2 G W o) := by
  cases o <;> first | (cases h; done) | skip
  case add m => cases h; exact ok_add x.K
  case sub => cases h; exact ok_sub x.K
  case mul m => cases h; exact ok_mul x.K
  case div => cases h; exact ok_div x.K
  case mod => cases h; exact ok_mod x.K
  case pow => cases h; exact ok_pow x.K
theorem cmp_op (x : XOk G cn c k top sc W X) {o : B2} {op : CmpOp} (h : cmpOf o = some op) : OpR X (compareOp op) (r2 G W o) := by
  have hu := x.hu
  cases o <;> first | (cases h; done) | skip
  case eq => cases h; exact ok_eq x.K x.hu
  case ne => cases h; exact ok_ne x.K x.hu
  case lt => cases h; exact ok_lt x.K
  case le => cases h; exact ok_le x.K
  case gt => cases h; exact ok_gt x.K
  case ge => cases h; exact ok_ge x.K
  case is => cases h; exact ok_is x.K
  case isn => cases h; exact ok_isn x.K
  case inn => cases h; exact ok_inn x.K
  case nin => cases h; exact ok_nin x.K
  case ind => cases h; exact ok_ind (by omega)
  case nid => cases h; exact ok_nid (by omega)
theorem b2_ok (x : XOk G cn c k top sc W X) {o : B2} {a b : E} {e : Expr} (iha : ∀ y, chkE cn top sc a y = true → Sd G W c X a y) (ihb : ∀ y, chkE cn top sc b y = true → Sd G W c X b y) (h : chkE cn top sc (.b2 o a b) e = true) : Sd G W c X (.b2 o a b) e := by
  have hu := x.hu
  simp only [chkE] at h
  split at h
  · split at h
    · rename_i y z hd
      obtain ⟨p, rfl, hp⟩ := dSub_ok hd
      simp only [Bool.and_eq_true] at h
      exact Sd.of (s_ix x (iha y h.1).pe (ihb z h.2).pe hp) rfl
    · cases h
  · split at h
    · rename_i y z hd
      obtain ⟨p, rfl, hp⟩ := dSub_ok hd
      simp only [Bool.and_eq_true] at h
      exact Sd.of (s_ixd x (by omega) (iha y h.1).pe (ihb z h.2).pe hp) rfl
    · cases h
  · split at h
    · rename_i n y z hd
      obtain ⟨p, pos, rfl⟩ := dCall_ok hd
      simp only [Bool.and_eq_true, decide_eq_true_eq] at h
      obtain ⟨⟨⟨⟨⟨rfl, hb⟩, ns⟩, nz⟩, hy⟩, hz⟩ := h
      exact Sd.of (s_callB2 x hb (ok_min x.K x.calm) (by decide +kernel) (by decide) (iha y hy).pe (ihb z hz).pe ns nz) rfl
    · cases h
  · split at h
    · rename_i n y z hd
      obtain ⟨p, pos, rfl⟩ := dCall_ok hd
      simp only [Bool.and_eq_true, decide_eq_true_eq] at h
      obtain ⟨⟨⟨⟨⟨rfl, hb⟩, ns⟩, nz⟩, hy⟩, hz⟩ := h
      exact Sd.of (s_callB2 x hb (ok_max2 x.K x.calm) (by decide +kernel) (by decide) (iha y hy).pe (ihb z hz).pe ns nz) rfl
    · cases h
  · split at h
    · rename_i op y z hd
      obtain ⟨p, rfl⟩ := dBin_ok hd
      simp only [Bool.and_eq_true, decide_eq_true_eq] at h
      exact Sd.of (s_bin (bin_op x h.1.1) (iha y h.1.2).pe (ihb z h.2).pe) rfl
    · split at h
      · rename_i op y z hd
        obtain ⟨p, rfl, hm⟩ := dCmp_ok hd
        simp only [Bool.and_eq_true, decide_eq_true_eq] at h
        exact s_cmp (cmp_op x h.1.1) (iha y h.1.2).pe (ihb z h.2).pe hm
      · cases h
theorem m2_ok (x : XOk G cn c k top sc W X) {o : B2} {a b : E} {e : Expr} (iha : ∀ y, chkE cn top sc a y = true → Sd G W c X a y) (ihb : ∀ y, chkE cn top sc b y = true → Sd G W c X b y) (h : chkE cn top sc (.m2 o a b) e = true) : Sd G W c X (.m2 o a b) e := by
  simp only [chkE] at h
  split at h
  · rename_i y m z hd
    obtain ⟨ap, cp, rfl, hl, hs, _⟩ := dMeth_ok hd
    simp only [Bool.and_eq_true, decide_eq_true_eq] at h
    obtain ⟨⟨⟨hm, nz⟩, hy⟩, hz⟩ := h
    cases o <;> first | (cases hm; done) | skip
    case app => cases hm; exact Sd.of (s_m2 x PySem.F.slot_list_append rfl (ok_app x.K) (recv_list fun _ _ => rfl) (iha y hy).pe (ihb z hz).pe nz hl hs) rfl
    case popa => cases hm; exact Sd.of (s_m2 x PySem.F.slot_list_pop rfl (ok_popa x.K) (recv_list fun _ _ => rfl) (iha y hy).pe (ihb z hz).pe nz hl hs) rfl
  · cases h
theorem slc_ok (x : XOk G cn c k top sc W X) {m : Bool} {a l u : E} {lo hi : Option Unit} {e : Expr} (iha : ∀ y, chkE cn top sc a y = true → Sd G W c X a y) (ihl : ∀ y, chkE cn top sc l y = true → Sd G W c X l y) (ihu : ∀ y, chkE cn top sc u y = true → Sd G W c X u y)
    (h : chkE cn top sc (.slc m a lo hi l u) e = true) : Sd G W c X (.slc m a lo hi l u) e := by
  simp only [chkE] at h
  split at h
  · rename_i y lo' hi' hd
    obtain ⟨p, q, rfl⟩ := dSlc_ok hd
    simp only [Bool.and_eq_true] at h
    obtain ⟨⟨hy, hl⟩, hh⟩ := h
    cases lo <;> cases lo' <;> first | (cases hl; done) | skip
    all_goals cases hi <;> cases hi' <;> first | (cases hh; done) | skip
    · exact Sd.of (s_slc00 x (iha y hy).pe) rfl
    · exact Sd.of (s_slc01 x (iha y hy).pe (ihu _ hh).pe) rfl
    · exact Sd.of (s_slc10 x (iha y hy).pe (ihl _ hl).pe) rfl
    · exact Sd.of (s_slc11 x (iha y hy).pe (ihl _ hl).pe (ihu _ hh).pe) rfl
  · cases h
end
end Mi
/-! All expressions, joined. -/
namespace Mi
open PySem PySem.Spec PyProof.Rows L2
section
variable {G : Gb} {cn : Cn} {c : Cfg} {k : Nat}
mutual
theorem main_E : ∀ (m : E) {top : Bool} {sc : Scope} {W : WX} {X : Cx} {e : Expr}, XOk G cn c k top sc W X → chkE cn top sc m e = true → Sd G W c X m e
  | .var i, top, sc, W, X, e, x, h => by
    simp only [chkE] at h
    split at h
    · rename_i n hn
      obtain ⟨p, rfl⟩ := dName_ok hn
      simp only [Bool.and_eq_true, decide_eq_true_eq] at h
      exact Sd.of (s_var x h.1 h.2) rfl
    · cases h
  | .lit d, top, sc, W, X, e, x, h => by
    simp only [chkE] at h
    refine Sd.of (s_lit h) ?_
    cases e <;> first | rfl | (cases d <;> cases h)
  | .cst d, top, sc, W, X, e, x, h => by
    simp only [chkE] at h
    split at h
    · rename_i n hn
      obtain ⟨p, rfl⟩ := dName_ok hn
      simp only [Bool.and_eq_true] at h
      exact Sd.of (s_cst x h.1 h.2) rfl
    · cases h
  | .tup es, top, sc, W, X, e, x, h => by
    simp only [chkE] at h
    split at h
    · rename_i xs hn
      obtain ⟨kk, p, rfl⟩ := dTup_ok hn
      exact Sd.of (s_tup (main_Es es x h).1) rfl
    · cases h
  | .lst m es, top, sc, W, X, e, x, h => by
    simp only [chkE] at h
    split at h
    · rename_i xs hn
      obtain ⟨p, rfl⟩ := dList_ok hn
      exact Sd.of (s_lst (main_Es es x h).1) rfl
    · cases h
  | .b1 o a, top, sc, W, X, e, x, h => b1_ok x (fun y hy => main_E a x hy) h
  | .b2 o a b, top, sc, W, X, e, x, h => b2_ok x (fun y hy => main_E a x hy) (fun y hy => main_E b x hy) h
  | .m2 o a b, top, sc, W, X, e, x, h => m2_ok x (fun y hy => main_E a x hy) (fun y hy => main_E b x hy) h
  | .slc m a lo hi l u, top, sc, W, X, e, x, h => slc_ok x (fun y hy => main_E a x hy) (fun y hy => main_E l x hy) (fun y hy => main_E u x hy) h
  | .chn o o' a b d, top, sc, W, X, e, x, h => by
    simp only [chkE] at h
    split at h
    · rename_i op op' y z w hd
      obtain ⟨p, rfl, hm⟩ := dChn_ok hd
      simp only [Bool.and_eq_true, decide_eq_true_eq] at h
      obtain ⟨⟨⟨⟨h1, h2⟩, hy⟩, hz⟩, hw⟩ := h
      exact s_chn (cmp_op x h1) (cmp_op x h2) (main_E a x hy).pe (main_E b x hz).pe (main_E d x hw).pe hm
    · cases h
  | .and a b, top, sc, W, X, e, x, h => by
    simp only [chkE] at h
    split at h
    · rename_i y z l hd
      simp only [Bool.and_eq_true] at h
      have ha := main_E a x h.1
      have hb := main_E b x h.2
      rcases dBool_ok hd with ⟨_, p, rfl⟩ | ⟨_, p, z1, z2, r, rfl, rfl⟩
      · exact s_and (z := y) ha (pe_one hb.pe) (pw_and1 hb.pt)
      · exact s_and (z := y) ha hb.pe (hb.pw _ _ _ _ _ rfl)
    · cases h
  | .or a b, top, sc, W, X, e, x, h => by
    simp only [chkE] at h
    split at h
    · rename_i y z l hd
      simp only [Bool.and_eq_true] at h
      have ha := main_E a x h.1
      have hb := main_E b x h.2
      rcases dBool_ok hd with ⟨_, p, rfl⟩ | ⟨_, p, z1, z2, r, rfl, rfl⟩
      · exact s_or (z := y) ha (pe_one hb.pe) (pw_or1 hb.pt)
      · exact s_or (z := y) ha hb.pe (hb.pw _ _ _ _ _ rfl)
    · cases h
  | .not a, top, sc, W, X, e, x, h => by
    simp only [chkE] at h
    split at h
    · rename_i y hd
      obtain ⟨p, rfl⟩ := dNot_ok hd
      exact s_not (main_E a x h)
    · cases h
  | .ite t a b, top, sc, W, X, e, x, h => by
    simp only [chkE] at h
    split at h
    · rename_i y z w hd
      obtain ⟨p, rfl⟩ := dIf_ok hd
      simp only [Bool.and_eq_true] at h
      exact s_ite (main_E t x h.1.1) (main_E a x h.1.2) (main_E b x h.2)
    · cases h
  | .call f es, top, sc, W, X, e, x, h => by
    simp only [chkE] at h
    split at h
    · rename_i n y ys hd
      obtain ⟨p, pos, rfl⟩ := dCall_ok hd
      simp only [Bool.and_eq_true] at h
      have q := main_Es es x h.2
      exact Sd.of (s_call x h.1.1 h.1.2 q.1 q.2) rfl
    · cases h
  | .comp b m t src cond cd own, top, sc, W, X, e, x, h => by
    simp only [chkE] at h
    split at h
    · rename_i y tg it ifs s hd
      obtain ⟨p, rfl⟩ := dComp_ok hd
      simp only [Bool.and_eq_true] at h
      obtain ⟨⟨⟨⟨⟨⟨h1, h2⟩, h3⟩, h4⟩, h5⟩, h6⟩, h7⟩ := h
      refine Sd.of (s_comp x h1 h2 h3 h4 (main_Src src x h5) (fun Y xY _ => (main_E m xY h6).pe) fun Y xY _ => ?_) rfl
      cases cond with
      | none =>
        cases ifs with
        | nil => exact pts_nil
        | cons _ _ => cases h7
      | some u =>
        cases ifs with
        | nil => cases h7
        | cons c0 r =>
          cases r with
          | nil => exact pts_one (main_E cd xY h7).pt
          | cons _ _ => cases h7
    · cases h
  | .dict m, top, sc, W, X, e, x, h => by
    simp only [chkE] at h
    split at h
    · exact Sd.of (s_dict x) rfl
    · cases h
  | .mk _ _, top, sc, W, X, e, x, h => by cases h
  | .meth _ _ _, top, sc, W, X, e, x, h => by cases h
theorem main_Es : ∀ (ms : Es) {top : Bool} {sc : Scope} {W : WX} {X : Cx} {es : List Expr}, XOk G cn c k top sc W X → chkEs cn top sc ms es = true → PA X es (rdA G W c ms) ∧ es.all notStar = true
  | .nil, top, sc, W, X, es, x, h => by
    cases es with
    | nil => exact ⟨a_nil, rfl⟩
    | cons _ _ => cases h
  | .cons m ms, top, sc, W, X, es, x, h => by
    cases es with
    | nil => cases h
    | cons e es =>
      simp only [chkEs, Bool.and_eq_true] at h
      have q := main_Es ms x h.2
      refine ⟨a_cons (main_E m x h.1.1).pe q.1 h.1.2, ?_⟩
      rw [List.all_cons, h.1.2, q.2]; rfl
theorem main_Src : ∀ (m : Src) {top : Bool} {sc : Scope} {W : WX} {X : Cx} {e tg : Expr}, XOk G cn c k top sc W X → chkSrc cn top sc m e tg = true → PI X tg e (rdI G W c m)
  | .it a, top, sc, W, X, e, tg, x, h => by
    simp only [chkSrc] at h
    exact w_it x (main_E a x h).pe
  | .rng1 a, top, sc, W, X, e, tg, x, h => by
    simp only [chkSrc] at h
    split at h
    · rename_i n y hd
      obtain ⟨p, pos, rfl⟩ := dCall_ok hd
      simp only [Bool.and_eq_true, decide_eq_true_eq] at h
      obtain ⟨⟨⟨rfl, hb⟩, ns⟩, h⟩ := h
      exact w_rng1 x hb (main_E a x h).pe ns
    · cases h
  | .rng2 a b, top, sc, W, X, e, tg, x, h => by
    simp only [chkSrc] at h
    split at h
    · rename_i n y z hd
      obtain ⟨p, pos, rfl⟩ := dCall_ok hd
      simp only [Bool.and_eq_true, decide_eq_true_eq] at h
      obtain ⟨⟨⟨⟨⟨rfl, hb⟩, ns⟩, nz⟩, hy⟩, hz⟩ := h
      exact w_rng2 x hb (main_E a x hy).pe (main_E b x hz).pe ns nz
    · cases h
  | .enum a, top, sc, W, X, e, tg, x, h => by
    simp only [chkSrc, Bool.and_eq_true] at h
    obtain ⟨ht, h⟩ := h
    obtain ⟨es, he⟩ := Option.isSome_iff_exists.mp ht
    obtain ⟨kk, pt, rfl⟩ := dTup_ok he
    split at h
    · rename_i n y hd
      obtain ⟨p, pos, rfl⟩ := dCall_ok hd
      simp only [Bool.and_eq_true, decide_eq_true_eq] at h
      obtain ⟨⟨⟨rfl, hb⟩, ns⟩, h⟩ := h
      exact w_enum x hb (main_E a x h).pe ns
    · cases h
  | .zip a b, top, sc, W, X, e, tg, x, h => by
    simp only [chkSrc, Bool.and_eq_true] at h
    obtain ⟨ht, h⟩ := h
    obtain ⟨es, he⟩ := Option.isSome_iff_exists.mp ht
    obtain ⟨kk, pt, rfl⟩ := dTup_ok he
    split at h
    · rename_i n y z hd
      obtain ⟨p, pos, rfl⟩ := dCall_ok hd
      simp only [Bool.and_eq_true, decide_eq_true_eq] at h
      obtain ⟨⟨⟨⟨⟨rfl, hb⟩, ns⟩, nz⟩, hy⟩, hz⟩ := h
      exact w_zip x hb (main_E a x hy).pe (main_E b x hz).pe ns nz
    · cases h
  | .rev a, top, sc, W, X, e, tg, x, h => by
    simp only [chkSrc] at h
    split at h
    · rename_i n y hd
      obtain ⟨p, pos, rfl⟩ := dCall_ok hd
      simp only [Bool.and_eq_true, decide_eq_true_eq] at h
      obtain ⟨⟨⟨rfl, hb⟩, ns⟩, h⟩ := h
      exact w_rev x hb (main_E a x h).pe ns
    · cases h
  | .its _, top, sc, W, X, e, tg, x, h => by cases h
end
end
end Mi
/-! Statements. -/
namespace Mi
open PySem PySem.Spec PyProof.Rows L2
/-- what is wanted of a statement's outcome; what stood where the block began -/
def OutS (G : Gb) (W : WX) (Z : Ends) (H0 : Hp) (μ0 : List Addr) : RsS → Prop
  | .nx r S => ∀ σ H μ, Rl G S μ H → Go H0 μ0 H μ → μ0 <+: μ → REnv G H μ r σ → Z.nx σ H
  | .bk r S => ∀ σ H μ, Rl G S μ H → Go H0 μ0 H μ → μ0 <+: μ → REnv G H μ r σ → Z.bk σ H
  | .ct r S => ∀ σ H μ, Rl G S μ H → Go H0 μ0 H μ → μ0 <+: μ → REnv G H μ r σ → Z.ct σ H
  | .rt d _ S => ∀ v H μ, Rl G S μ H → Go H0 μ0 H μ → μ0 <+: μ → RV G.K H μ d v → Z.rt v H
  | .exc c fs r S => ∀ cv od σ H μ, Rl G S μ H → Go H0 μ0 H μ → μ0 <+: μ → REnv G H μ r σ → RX G H μ c fs cv od → W cv od σ H
  | .bad => False
/-- a statement's reading -/
def rdS (G : Gb) (W : WX) (f : Nat → Mi.Env → Store → RsS) : TS := fun Z σ H => ∃ (S : Store) (μ : List Addr) (r : Mi.Env) (H0 : Hp) (μ0 : List Addr), Rl G S μ H ∧ REnv G H μ r σ ∧ Go H0 μ0 H μ ∧ μ0 <+: μ ∧ OutS G W Z H0 μ0 (f μ0.length r S)
structure YOk (G : Gb) (cn : Cn) (c : Cfg) (k : Nat) (sc : Scope) (W : WX) (X : Cx) : Prop extends XOk G cn c k true sc W X where
  own : PassesOwn (model X.prog X.w) X.A X.env X.xe
  kind : X.env.scope.kind = .function
section
variable {G : Gb} {cn : Cn} {c : Cfg} {k : Nat} {sc : Scope} {W : WX} {X : Cx} {Z : Ends} {H0 : Hp} {μ0 : List Addr}
theorem OutS.split {z : Rs D} {f : D → Store → RsS} {r : Mi.Env} {σ : L2.St} {μ : List Addr} {H : Hp} {S : Store} {Q : VK} (rl : Rl G S μ H) (rs : REnv G H μ r σ) (g : Go H0 μ0 H μ) (p : μ0 <+: μ) (o : OutS G W Z H0 μ0 (z.thenS r f))
    (h : ∀ d S1 v H1 μ1, Rl G S1 μ1 H1 → REnv G H1 μ1 r σ → Go H0 μ0 H1 μ1 → μ0 <+: μ1 → Go H μ H1 μ1 → μ <+: μ1 → RV G.K H1 μ1 d v → OutS G W Z H0 μ0 (f d S1) → Q v H1) : OutE G W σ μ H z Q := by
  cases z with
  | ok d S1 => exact fun v H1 μ1 a b d e => h _ S1 v H1 μ1 a (rs.go rl.muts b d) (g.trans b) (p.trans d) b d e o
  | exc cl fs S1 => exact fun cv od H1 μ1 a b d e => o cv od σ H1 μ1 a (g.trans b) (p.trans d) (rs.go rl.muts b d) e
  | bad => exact False.elim o
theorem OutS.splitB {z : Rs Bool} {f : Bool → Store → RsS} {r : Mi.Env} {σ : L2.St} {μ : List Addr} {H : Hp} {S : Store} {Q : Bool → Hp → Prop} (rl : Rl G S μ H) (rs : REnv G H μ r σ) (g : Go H0 μ0 H μ) (p : μ0 <+: μ) (o : OutS G W Z H0 μ0 (z.thenB r f))
    (h : ∀ b S1 H1 μ1, Rl G S1 μ1 H1 → REnv G H1 μ1 r σ → Go H0 μ0 H1 μ1 → μ0 <+: μ1 → Go H μ H1 μ1 → μ <+: μ1 → OutS G W Z H0 μ0 (f b S1) → Q b H1) : OutG G W σ μ H (fun _ _ a b => a = b) z Q := by
  cases z with
  | ok d S1 => exact fun v H1 μ1 a b d' e => by subst e; exact h _ S1 H1 μ1 a (rs.go rl.muts b d') (g.trans b) (p.trans d') b d' o
  | exc cl fs S1 => exact fun cv od H1 μ1 a b d e => o cv od σ H1 μ1 a (g.trans b) (p.trans d) (rs.go rl.muts b d) e
  | bad => exact False.elim o
theorem PS.imp {st : Stmt} {t t' : TS} (h : PS X st t) (i : ∀ Z σ H, t' Z σ H → t Z σ H) : PS X st t' := ⟨fun pins s σ H Z I q => h.run pins s σ H Z I (i Z σ H q)⟩
theorem PSs.imp {st : List Stmt} {t t' : TS} (h : PSs X st t) (i : ∀ Z σ H, t' Z σ H → t Z σ H) : PSs X st t' := ⟨fun pins s σ H Z I q => h.run pins s σ H Z I (i Z σ H q)⟩

/-! ### blocks -/
theorem q_nil : PSs X [] (rdS G W (evSs c .nil)) := PSs.imp pss_nil fun Z σ H ⟨S, μ, r, H0, μ0, rl, rs, g, p, o⟩ => by
  simp only [evSs] at o
  exact o σ H μ rl g p rs
theorem q_seq {Z' : Ends} {z : RsS} {ss : Sts} {n0 : Nat} (hn : n0 = μ0.length) (o : OutS G W Z H0 μ0 (z.seq fun r S => evSs c ss n0 r S)) (he : Z' = { Z with nx := rdS G W (evSs c ss) Z }) : OutS G W Z' H0 μ0 z := by
  subst he
  cases z with
  | nx r' S' => exact fun σ' H' μ' a b d e => ⟨S', μ', r', H0, μ0, a, e, b, d, by rw [← hn]; exact o⟩
  | bk _ _ => exact o
  | ct _ _ => exact o
  | rt _ _ _ => exact o
  | exc _ _ _ _ => exact o
  | bad => exact o
theorem q_cons {st : Stmt} {rest : List Stmt} {m : Mi.St} {ms : Sts} (h : PS X st (rdS G W (evS c m))) (hs : PSs X rest (rdS G W (evSs c ms))) : PSs X (st :: rest) (rdS G W (evSs c (.cons m ms))) :=
  PSs.imp (pss_cons h hs) fun Z σ H ⟨S, μ, r, H0, μ0, rl, rs, g, p, o⟩ => by
    simp only [evSs] at o
    exact ⟨S, μ, r, H0, μ0, rl, rs, g, p, q_seq rfl o rfl⟩

/-! ### small statements -/
theorem q_pass {p : Pos} : PS X (.Pass p) (rdS G W (evS c .pass)) := PS.imp ps_pass fun Z σ H ⟨S, μ, r, H0, μ0, rl, rs, g, p, o⟩ => by
  simp only [evS] at o
  exact o σ H μ rl g p rs
theorem q_doc {x j p p'} : PS X (.Expr (.Constant (.str x) j p) p') (rdS G W (evS c .pass)) := PS.imp ps_doc fun Z σ H ⟨S, μ, r, H0, μ0, rl, rs, g, p, o⟩ => by
  simp only [evS] at o
  exact o σ H μ rl g p rs
theorem q_brk {p : Pos} : PS X (.Break p) (rdS G W (evS c .brk)) := PS.imp ps_break fun Z σ H ⟨S, μ, r, H0, μ0, rl, rs, g, p, o⟩ => by
  simp only [evS] at o
  exact o σ H μ rl g p rs
theorem q_cont {p : Pos} : PS X (.Continue p) (rdS G W (evS c .cont)) := PS.imp ps_continue fun Z σ H ⟨S, μ, r, H0, μ0, rl, rs, g, p, o⟩ => by
  simp only [evS] at o
  exact o σ H μ rl g p rs
theorem q_retN {p : Pos} : PS X (.Return none p) (rdS G W (evS c .retN)) := PS.imp ps_retN fun Z σ H ⟨S, μ, r, H0, μ0, rl, rs, g, p, o⟩ => by
  simp only [evS] at o
  exact o _ H μ rl g p rfl
theorem q_ret {e : Expr} {m : E} {p : Pos} (h : PE X e (rdE G W c m)) : PS X (.Return (some e) p) (rdS G W (evS c (.ret m))) := PS.imp (ps_ret h) fun Z σ H ⟨S, μ, r, H0, μ0, rl, rs, g, p, o⟩ => by
  simp only [evS] at o
  exact ⟨S, μ, r, rl, rs, OutS.split rl rs g p o fun d S1 v H1 μ1 rl1 _ g1 p1 _ _ hv o1 => o1 v H1 μ1 rl1 g1 p1 hv⟩
theorem q_ex {e : Expr} {m : E} {p : Pos} (h : PE X e (rdE G W c m)) (hs : swapsWith e none p.line X.env = pure false) : PS X (.Expr e p) (rdS G W (evS c (.ex m))) := PS.imp (ps_expr h hs) fun Z σ H ⟨S, μ, r, H0, μ0, rl, rs, g, p, o⟩ => by
  simp only [evS] at o
  exact ⟨S, μ, r, rl, rs, OutS.split rl rs g p o fun d S1 v H1 μ1 rl1 rs1 g1 p1 _ _ hv o1 => o1 σ H1 μ1 rl1 g1 p1 rs1⟩
theorem asg_out {m : E} {i : Nat} {σ : L2.St} {H : Hp} (h : rdS G W (evS c (.asg i m)) Z σ H) : tAsg (rdE G W c m) (gName i) Z σ H := by
  obtain ⟨S, μ, r, H0, μ0, rl, rs, g, p, o⟩ := h
  simp only [evS] at o
  refine ⟨S, μ, r, rl, rs, OutS.split rl rs g p o fun d S1 v H1 μ1 rl1 rs1 g1 p1 _ _ hv o1 => ?_⟩
  split at o1
  · exact o1 _ H1 μ1 rl1 g1 p1 (rs1.set i hv)
  · exact False.elim o1
theorem q_asgT (x : YOk G cn c k sc W X) {m : E} {is : List Nat} {e tg : Expr} {p : Pos} (h : PE X e (rdE G W c m)) (ht : chkT cn true sc (.tp is) tg = true) (hs : swapsWithSole [tg] e p.line X.env = pure false) (hw : swappedStores [tg] e X.env = pure none) (h1 : (assignEach [tg] X.env).map (·.2) = [assign tg X.env]) :
    PS X (.Assign [tg] e p) (rdS G W (evS c (.asgT is m))) := PS.imp (ps_asg h (t_tg x.toXOk ht) hs hw h1) fun Z σ H ⟨S, μ, r, H0, μ0, rl, rs, g, p, o⟩ => by
  simp only [evS] at o
  refine ⟨S, μ, r, rl, rs, OutS.split rl rs g p o fun d S1 v H1 μ1 rl1 rs1 g1 p1 _ _ hv o1 => ?_⟩
  split at o1
  · rename_i r' e'
    exact take_tg x.toXOk hv rs1 e' fun σ2 re2 _ => o1 σ2 H1 μ1 rl1 g1 p1 re2
  · exact False.elim o1
/-- x[i] = .. -/
theorem sub_eq {o i : Expr} {env : PySem.Env} {p : Pos} (h : notSlice i = true) : ∀ v, assign (.Subscript o i p) env v = (do
      let ov ← holding [v] (eval o env)
      let iv ← holding [v, ov] (eval i env)
      standAt p
      holding [v, ov, iv] (setItem ov iv v)
      release [v, ov, iv] []) := by
  intro v
  cases i <;> first | rfl | cases h
theorem sw_sub {a b e : Expr} {l : Nat} {env : PySem.Env} {p : Pos} : swapsWithSole [.Subscript a b p] e l env = pure false := by
  cases e <;> rfl
theorem q_asgI (x : YOk G cn c k sc W X) {a b m : E} {y z e : Expr} {p q : Pos} (ha : PE X y (rdE G W c a)) (hb : PE X z (rdE G W c b)) (h : PE X e (rdE G W c m)) (ns : notSlice z = true) :
    PS X (.Assign [.Subscript y z q] e p) (rdS G W (evS c (.asgI a b m))) := PS.imp (ps_asg h (pg_sub ha hb set_list (sub_eq ns)) sw_sub rfl rfl) fun Z σ H ⟨S, μ, r, H0, μ0, rl, rs, g, p, o⟩ => by
  simp only [evS] at o
  refine ⟨S, μ, r, rl, rs, OutS.split rl rs g p o fun d S1 v H1 μ1 rl1 rs1 g1 p1 _ _ hv o1 => ?_⟩
  refine ⟨S1, μ1, r, rl1, rs1, OutS.split rl1 rs1 g1 p1 o1 fun xd S2 xv H2 μ2 rl2 rs2 g2 p2 g12 p12 hx o2 => ?_⟩
  refine ⟨S2, μ2, r, rl2, rs2, OutS.split rl2 rs2 g2 p2 o2 fun yd S3 yv H3 μ3 rl3 rs3 g3 p3 g23 p23 hy o3 => ?_⟩
  have hv3 := (hv.go rl1.muts g12 p12).go rl2.muts g23 p23
  have hx3 := hx.go rl2.muts g23 p23
  unfold setIx at o3
  split at o3
  · split at o3
    · rename_i k' _ xs ek
      split at o3
      · rename_i j
        split at o3
        · rename_i i' ei
          obtain ⟨q, ho, rfl, hq, hH, ro⟩ := ref_obj rl3 hx3 ek
          obtain ⟨vs, rfl, hr⟩ := ro
          refine ⟨q, vs, j, i', rfl, hy, hH, by rw [← hr.length]; exact ei, ?_⟩
          have gs : Go H3 μ3 (upd H3 q (.lst (vs.set i' v))) μ3 := Go.set (List.mem_of_getElem? hq)
          exact o3 σ _ μ3 (rl3.set hq (o := .lst (xs.set i' d)) ⟨_, rfl, hr.set i' hv3⟩) (g3.trans gs) p3 (rs3.go rl3.muts gs (List.prefix_refl _))
        · exact False.elim o3
      · exact False.elim o3
    · exact False.elim o3
  · exact False.elim o3
theorem q_asgD (x : YOk G cn c k sc W X) {a b m : E} {y z e : Expr} {p q : Pos} (ha : PE X y (rdE G W c a)) (hb : PE X z (rdE G W c b)) (h : PE X e (rdE G W c m)) (ns : notSlice z = true) :
    PS X (.Assign [.Subscript y z q] e p) (rdS G W (evS c (.asgD a b m))) := PS.imp (ps_asg h (pg_sub ha hb (set_dict (by have := x.hu; omega)) (sub_eq ns)) sw_sub rfl rfl) fun Z σ H ⟨S, μ, r, H0, μ0, rl, rs, g, p, o⟩ => by
  simp only [evS] at o
  refine ⟨S, μ, r, rl, rs, OutS.split rl rs g p o fun d S1 v H1 μ1 rl1 rs1 g1 p1 _ _ hv o1 => ?_⟩
  refine ⟨S1, μ1, r, rl1, rs1, OutS.split rl1 rs1 g1 p1 o1 fun xd S2 xv H2 μ2 rl2 rs2 g2 p2 g12 p12 hx o2 => ?_⟩
  refine ⟨S2, μ2, r, rl2, rs2, OutS.split rl2 rs2 g2 p2 o2 fun yd S3 yv H3 μ3 rl3 rs3 g3 p3 g23 p23 hy o3 => ?_⟩
  have hv3 := (hv.go rl1.muts g12 p12).go rl2.muts g23 p23
  have hx3 := hx.go rl2.muts g23 p23
  unfold setKy at o3
  split at o3
  · split at o3
    · rename_i k' _ ks vs ek
      split at o3
      · rename_i hk
        obtain ⟨q, ho, rfl, hq, hH, ro⟩ := ref_obj rl3 hx3 ek
        obtain ⟨kvs, rfl, h1, h2⟩ := ro
        obtain ⟨kk, rfl, hkk⟩ := key_rv hy hk.1
        refine ⟨q, _, rfl, DPut.k hH (by rw [← keys_len h1, sizeLine_eq]; exact hk.2), ?_⟩
        have gs : Go H3 μ3 (upd H3 q (.dK (putK kvs kk v))) μ3 := Go.set (List.mem_of_getElem? hq)
        exact o3 σ _ μ3 (rl3.set hq (o := .dic _ _) (dput_rv hkk hv3 h1 h2)) (g3.trans gs) p3 (rs3.go rl3.muts gs (List.prefix_refl _))
      · exact False.elim o3
    · exact False.elim o3
  · exact False.elim o3

/-! ### if -/
theorem q_ite {t : E} {a b : Sts} {e : Expr} {xs ys : List Stmt} {p : Pos} (ht : PT X e (rdT G W c t)) (ha : PSs X xs (rdS G W (evSs c a))) (hb : PSs X ys (rdS G W (evSs c b))) : PS X (.If e xs ys p) (rdS G W (evS c (.ite t a b))) :=
  PS.imp (ps_if ht ha hb) fun Z σ H ⟨S, μ, r, H0, μ0, rl, rs, g, p, o⟩ => by
    simp only [evS] at o
    refine ⟨S, μ, r, rl, rs, OutS.splitB rl rs g p o fun b S1 H1 μ1 rl1 rs1 g1 p1 _ _ o1 => ?_⟩
    cases b with
    | true => rw [if_pos rfl]; exact ⟨S1, μ1, r, H0, μ0, rl1, rs1, g1, p1, o1⟩
    | false => rw [if_neg (by decide)]; exact ⟨S1, μ1, r, H0, μ0, rl1, rs1, g1, p1, o1⟩

/-! ### loops -/
/-- behind a turn's block -/
theorem turn_out {z : RsS} {f : Mi.Env → Store → RsS} {Z' : Ends} {H1 : Hp} {μ1 : List Addr} {N : L2.St → Hp → Prop} (g0 : Go H0 μ0 H1 μ1) (p0 : μ0 <+: μ1) (o : OutS G W Z H0 μ0 (match z with
      | .nx r' S' => f r' S'
      | .ct r' S' => f r' S'
      | .bk r' S' => .nx r' S'
      | .rt d r' S' => .rt d r' S'
      | .exc c fs r' S' => .exc c fs r' S'
      | .bad => .bad))
    (he : Z' = { Z with nx := N, ct := N, bk := Z.nx }) (hN : ∀ σ' H' S' μ' r', Rl G S' μ' H' → REnv G H' μ' r' σ' → Go H1 μ1 H' μ' → μ1 <+: μ' → OutS G W Z H0 μ0 (f r' S') → N σ' H') : OutS G W Z' H1 μ1 z := by
  subst he
  cases z with
  | nx r' S' => exact fun σ' H' μ' a b d e => hN σ' H' S' μ' r' a e b d o
  | ct r' S' => exact fun σ' H' μ' a b d e => hN σ' H' S' μ' r' a e b d o
  | bk r' S' => exact fun σ' H' μ' a b d e => o σ' H' μ' a (g0.trans b) (p0.trans d) e
  | rt d r' S' => exact fun v H' μ' a b d e => o v H' μ' a (g0.trans b) (p0.trans d) e
  | exc cl fs r' S' => exact fun cv od σ' H' μ' a b d e x => o cv od σ' H' μ' a (g0.trans b) (p0.trans d) e x
  | bad => exact False.elim o
theorem q_for (x : YOk G cn c k sc W X) {t : Tg} {src : Src} {b : Sts} {tg iter : Expr} {body : List Stmt} {p : Pos} (hi : PI X tg iter (rdI G W c src)) (ht : chkT cn true sc t tg = true) (hb : PSs X body (rdS G W (evSs c b))) (hs : notSet iter = true) :
    PS X (.For tg iter body [] p) (rdS G W (evS c (.for t src b))) :=
  PS.imp (ps_for x.own x.calm hi (t_tg x.toXOk ht) hb (fun _ => set_base hs)) fun Z σ H ⟨S, μ, r, H0, μ0, rl, rs, g, p, o⟩ => by
    simp only [evS] at o
    refine ⟨S, μ, r, rl, rs, ?_⟩
    cases q : evSrc c src r S with
    | bad => rw [q] at o; exact False.elim o
    | exc cl fs S1 =>
      rw [q] at o
      exact fun cv od H1 μ1 a b d e => o cv od σ H1 μ1 a (g.trans b) (p.trans d) (rs.go rl.muts b d) e
    | ok pr S1 =>
      rw [q] at o
      obtain ⟨ds, gd⟩ := pr
      intro J H1 μ1 rl1 g1 p1 wk
      dsimp only at o wk
      have g01 := g.trans g1
      have p01 := p.trans p1
      have rs1 := rs.go rl.muts g1 p1
      generalize hf : (fun (x : D) (r : Mi.Env) (S : Store) => match setT t x r with
        | some r' => evSs c b S1.length r' S
        | none => RsS.bad) = f at o
      refine ⟨fun i n σ' H' => ∃ S' μ' r', n = ds.length - i ∧ i ≤ ds.length ∧ Rl G S' μ' H' ∧ REnv G H' μ' r' σ' ∧ Go H1 μ1 H' μ' ∧ μ1 <+: μ' ∧ OutS G W Z H0 μ0 (forLoop gd f (ds.drop i) r' S'),
        ⟨ds.length, S1, μ1, r, by simp, Nat.zero_le _, rl1, rs1, Go.refl, List.prefix_refl _, by simpa using o⟩, ?_⟩
      rintro i n σ' H' ⟨S', μ', r', rfl, hi', rl', rs', g', p', o'⟩
      by_cases hlt : i < ds.length
      · refine .inr ?_
        rw [List.drop_eq_getElem_cons hlt, forLoop] at o'
        have st : stands gd S' = true := by
          cases q : stands gd S' with
          | true => rfl
          | false => rw [q] at o'; exact False.elim o'
        rw [st, if_pos rfl] at o'
        refine ⟨wk.go i S' μ' H' hlt rl' g' p' st, fun σ'' H'' => ∃ S'' μ'' r'', Rl G S'' μ'' H'' ∧ REnv G H'' μ'' r'' σ'' ∧ Go H1 μ1 H'' μ'' ∧ μ1 <+: μ'' ∧ OutS G W Z H0 μ0 (forLoop gd f (ds.drop (i + 1)) r'' S''),
          fun σ'' H'' ⟨S'', μ'', r'', a, b, d, e', z⟩ => ⟨ds.length - (i + 1), by omega, S'', μ'', r'', rfl, hlt, a, b, d, e', z⟩, fun xv H2 y => ?_⟩
        obtain ⟨rl2, g2, d, hd, hx⟩ := wk.yld i S' μ' H' xv H2 hlt rl' g' p' st y
        have hdi : ds[i] = d := by
          rw [List.getElem?_eq_getElem hlt] at hd
          cases hd; rfl
        rw [hdi] at o'
        have rs2 := rs'.go rl'.muts g2 (List.prefix_refl _)
        have fx : f d r' S' = match setT t d r' with
          | some r' => evSs c b S1.length r' S'
          | none => RsS.bad := by rw [← hf]
        rw [fx] at o'
        cases hset : setT t d r' with
        | none => rw [hset] at o'; exact False.elim o'
        | some r2 =>
          rw [hset] at o'
          refine take_tg x.toXOk hx rs2 hset fun σ2 re2 _ => ?_
          refine ⟨S', μ', r2, H1, μ1, rl2, re2, g'.trans g2, p', ?_⟩
          rw [rl1.len]
          exact turn_out g01 p01 o' rfl fun σ3 H3 S3 μ3 r3 a b d' e z => ⟨S3, μ3, r3, a, b, d', e, z⟩
      · refine .inl ?_
        have ei : i = ds.length := by omega
        subst ei
        rw [List.drop_length, forLoop] at o'
        split at o'
        · rename_i st
          exact ⟨wk.stop S' μ' H' rl' g' p' st, o' σ' H' μ' rl' (g01.trans g') (p01.trans p') rs'⟩
        · exact False.elim o'
theorem q_while (x : YOk G cn c k sc W X) {t : E} {b : Sts} {e : Expr} {body : List Stmt} {p : Pos} (ht : PT X e (rdT G W c t)) (hb : PSs X body (rdS G W (evSs c b))) : PS X (.While e body [] p) (rdS G W (evS c (.while t b))) :=
  PS.imp (ps_while x.own ht hb) fun Z σ H ⟨S, μ, r, H0, μ0, rl, rs, g, p, o⟩ => by
    simp only [evS] at o
    refine ⟨fun n σ' H' => ∃ S' μ' r', Rl G S' μ' H' ∧ REnv G H' μ' r' σ' ∧ Go H μ H' μ' ∧ μ <+: μ' ∧ OutS G W Z H0 μ0 (whileLoop (fun r' S' => evT c t r' S') (fun r' S' => evSs c b S.length r' S') n r' S'), ⟨c.w, S, μ, r, rl, rs, Go.refl, List.prefix_refl _, o⟩, ?_⟩
    rintro n σ' H' ⟨S', μ', r', rl', rs', g', p', o'⟩
    cases n with
    | zero => exact False.elim o'
    | succ n =>
      rw [whileLoop] at o'
      refine ⟨S', μ', r', rl', rs', OutS.splitB rl' rs' (g.trans g') (p.trans p') o' fun z S1 H1 μ1 rl1 rs1 g1 p1 g12 p12 o1 => ?_⟩
      cases z with
      | false => rw [if_neg (by decide)]; rw [if_neg (by decide)] at o1; exact o1 σ' H1 μ1 rl1 g1 p1 rs1
      | true =>
        rw [if_pos rfl]
        rw [if_pos rfl] at o1
        refine ⟨fun σ'' H'' => ∃ S'' μ'' r'', Rl G S'' μ'' H'' ∧ REnv G H'' μ'' r'' σ'' ∧ Go H μ H'' μ'' ∧ μ <+: μ'' ∧ OutS G W Z H0 μ0 (whileLoop (fun r' S' => evT c t r' S') (fun r' S' => evSs c b S.length r' S') n r'' S''),
          fun σ'' H'' q => ⟨n, Nat.lt_succ_self n, q⟩, S1, μ1, r', H, μ, rl1, rs1, g'.trans g12, p'.trans p12, ?_⟩
        rw [rl.len]
        exact turn_out g p o1 rfl fun σ3 H3 S3 μ3 r3 a b d' e z => ⟨S3, μ3, r3, a, b, d', e, z⟩
end
end Mi
/-! All statements; defs. -/
namespace Mi
open PySem PySem.Spec PyProof.Rows L2
def isComp : E → Bool
  | .comp .. => true
  | _ => false
def isTupD : Expr → Bool
  | .Tuple .. => true
  | _ => false
/-- name = .. -/
def dAsg : Stmt → Option (Str × Expr)
  | .Assign [.Name y _] e _ => some (y, e)
  | _ => none
theorem dAsg_ok {st : Stmt} {y : Str} {e : Expr} (h : dAsg st = some (y, e)) : ∃ p q, st = .Assign [.Name y p] e q := by
  unfold dAsg at h; split at h
  · cases h; exact ⟨_, _, rfl⟩
  · cases h
def dAsgT : Stmt → Option (Expr × Expr)
  | .Assign [.Tuple es kk p] e _ => if isTupD e then none else some (.Tuple es kk p, e)
  | _ => none
theorem dAsgT_ok {st : Stmt} {t : Expr} {e : Expr} (h : dAsgT st = some (t, e)) : ∃ es kk p q, t = .Tuple es kk p ∧ isTupD e = false ∧ st = .Assign [t] e q := by
  unfold dAsgT at h; split at h
  · split at h
    · cases h
    · rename_i q; cases h; exact ⟨_, _, _, _, rfl, by simpa using q, rfl⟩
  · cases h
def dAsgI : Stmt → Option (Expr × Expr × Expr)
  | .Assign [.Subscript a b _] e _ => if notSlice b then some (a, b, e) else none
  | _ => none
theorem dAsgI_ok {st : Stmt} {a b e : Expr} (h : dAsgI st = some (a, b, e)) : ∃ p q, st = .Assign [.Subscript a b q] e p ∧ notSlice b = true := by
  unfold dAsgI at h; split at h
  · split at h
    · rename_i q; cases h; exact ⟨_, _, rfl, q⟩
    · cases h
  · cases h
def dEx : Stmt → Option Expr
  | .Expr e _ => if notComp e then some e else none
  | _ => none
theorem dEx_ok {st : Stmt} {e : Expr} (h : dEx st = some e) : ∃ p, st = .Expr e p ∧ notComp e = true := by
  unfold dEx at h; split at h
  · split at h
    · rename_i q; cases h; exact ⟨_, rfl, q⟩
    · cases h
  · cases h
def dRet : Stmt → Option Expr
  | .Return (some e) _ => some e
  | _ => none
theorem dRet_ok {st : Stmt} {e : Expr} (h : dRet st = some e) : ∃ p, st = .Return (some e) p := by
  unfold dRet at h; split at h
  · cases h; exact ⟨_, rfl⟩
  · cases h
def isRetN : Stmt → Bool
  | .Return none _ => true
  | _ => false
def dIfS : Stmt → Option (Expr × List Stmt × List Stmt)
  | .If e a b _ => some (e, a, b)
  | _ => none
theorem dIfS_ok {st : Stmt} {e : Expr} {a b : List Stmt} (h : dIfS st = some (e, a, b)) : ∃ p, st = .If e a b p := by
  unfold dIfS at h; split at h
  · cases h; exact ⟨_, rfl⟩
  · cases h
def dFor : Stmt → Option (Expr × Expr × List Stmt)
  | .For t e b [] _ => if notSet e then some (t, e, b) else none
  | _ => none
theorem dFor_ok {st : Stmt} {t e : Expr} {b : List Stmt} (h : dFor st = some (t, e, b)) : ∃ p, st = .For t e b [] p ∧ notSet e = true := by
  unfold dFor at h; split at h
  · split at h
    · rename_i q; cases h; exact ⟨_, rfl, q⟩
    · cases h
  · cases h
def dWhile : Stmt → Option (Expr × List Stmt)
  | .While e b [] _ => some (e, b)
  | _ => none
theorem dWhile_ok {st : Stmt} {e : Expr} {b : List Stmt} (h : dWhile st = some (e, b)) : ∃ p, st = .While e b [] p := by
  unfold dWhile at h; split at h
  · cases h; exact ⟨_, rfl⟩
  · cases h
def isPass : Stmt → Bool
  | .Pass _ => true
  | .Expr (.Constant (.str _) _ _) _ => true
  | _ => false
def isBrk : Stmt → Bool
  | .Break _ => true
  | _ => false
def isCont : Stmt → Bool
  | .Continue _ => true
  | _ => false
mutual
def chkS (cn : Cn) (sc : Scope) : Mi.St → Stmt → Bool
  | .asg i m, st => (match dAsg st with
    | some (y, e) => nameB cn true sc i y && chkE cn true sc m e && (notComp e || isComp m)
    | none => false)
  | .asgT is m, st => (match dAsgT st with
    | some (t, e) => chkT cn true sc (.tp is) t && chkE cn true sc m e
    | none => false)
  | .asgI a b m, st => (match dAsgI st with
    | some (y, z, e) => chkE cn true sc a y && chkE cn true sc b z && chkE cn true sc m e
    | none => false)
  | .asgD a b m, st => (match dAsgI st with
    | some (y, z, e) => chkE cn true sc a y && chkE cn true sc b z && chkE cn true sc m e
    | none => false)
  | .ex m, st => (match dEx st with
    | some e => chkE cn true sc m e
    | none => false)
  | .ret m, st => (match dRet st with
    | some e => chkE cn true sc m e
    | none => false)
  | .retN, st => isRetN st
  | .ite t a b, st => (match dIfS st with
    | some (e, xs, ys) => chkE cn true sc t e && chkSs cn sc a xs && chkSs cn sc b ys
    | none => false)
  | .for t src b, st => (match dFor st with
    | some (tg, e, xs) => chkT cn true sc t tg && chkSrc cn true sc src e tg && chkSs cn sc b xs
    | none => false)
  | .while t b, st => (match dWhile st with
    | some (e, xs) => chkE cn true sc t e && chkSs cn sc b xs
    | none => false)
  | .pass, st => isPass st
  | .brk, st => isBrk st
  | .cont, st => isCont st
  | _, _ => false
def chkSs (cn : Cn) (sc : Scope) : Sts → List Stmt → Bool
  | .nil, sts => sts.isEmpty
  | .cons m ms, sts => (match m with
    | .frv _ => chkSs cn sc ms sts
    | _ => (match sts with
      | [] => false
      | st :: r => chkS cn sc m st && chkSs cn sc ms r))
end
section
variable {G : Gb} {cn : Cn} {c : Cfg} {k : Nat}
theorem sole_tup {es : List Expr} {kk : Nat} {p : Pos} {e : Expr} {l : Nat} {env : PySem.Env} : swapsWithSole [.Tuple es kk p] e l env = pure false := by cases e <;> rfl
theorem stores_tup {es : List Expr} {kk : Nat} {p : Pos} {e : Expr} {env : PySem.Env} (h : isTupD e = false) : swappedStores [.Tuple es kk p] e env = pure none := by cases e <;> first | rfl | cases h
theorem sw_comp {elt : Expr} {gs : List Comprehension} {s : Scope} {p py : Pos} {y : Str} {l : Nat} {env : PySem.Env} (hk : env.scope.kind = .function) : ∃ b : Bool, swapsWith (.ListComp elt gs s p) (some (.Name y py)) l env = pure b ∧ (b = true → env.scope.names.lookup y = some .local) := by
  have hb : env.blockKind = .function := by unfold PySem.Env.blockKind; rw [hk]; rfl
  refine ⟨env.blockKind == .function && env.kindOf y == some .local && py.line == p.line && !(s.names.any fun (n, k) => n == y && (k == .local || k == .cell)), rfl, fun h => ?_⟩
  simp only [Bool.and_eq_true] at h
  have q := h.1.1.2
  have e : env.kindOf y = some .local := by simpa using q
  exact e
/-- the freezing of a name's list: the text says nothing -/
theorem frv_out {W : WX} {Z : Ends} {H0 : Hp} {μ0 : List Addr} {i : Nat} {r : Mi.Env} {S : Store} {μ : List Addr} {H : Hp} {σ : L2.St} {f : Mi.Env → Store → RsS} (rl : Rl G S μ H) (rs : REnv G H μ r σ) (g : Go H0 μ0 H μ) (p : μ0 <+: μ)
    (o : OutS G W Z H0 μ0 ((freezeV μ0.length i r S).seq f)) : ∃ S' μ' r', Rl G S' μ' H ∧ REnv G H μ' r' σ ∧ Go H0 μ0 H μ' ∧ μ0 <+: μ' ∧ OutS G W Z H0 μ0 (f r' S') := by
  unfold freezeV at o
  split at o
  · rename_i kk ek
    split at o
    · rename_i hc
      obtain ⟨h1, h2, h3⟩ := hc
      split at o
      · rename_i d hd
        obtain ⟨v, e1, e2⟩ := rs.2 i _ ek
        have q := frz_ok rl deepest _ v d e2 hd
        refine ⟨S.take kk, μ.take kk, r.set i (some d), rl.take h2, ?_, g.trans Go.take, ?_, o⟩
        · refine ⟨by simp [rs.1], fun j d' e => ?_⟩
          by_cases ij : i = j
          · subst ij
            rw [List.getElem?_set_self (List.getElem?_eq_some_iff.mp ek).1] at e
            cases e
            exact ⟨v, e1, q⟩
          · rw [List.getElem?_set_ne ij] at e
            obtain ⟨w, f1, f2⟩ := rs.2 j d' e
            refine ⟨w, f1, f2.take rl.muts ?_⟩
            have m : some d' ∈ r.set i none := List.mem_of_getElem? (i := j) (by rw [List.getElem?_set_ne ij]; exact e)
            exact List.all_eq_true.mp h3 _ m
        · obtain ⟨t, rfl⟩ := p
          rw [List.take_append]
          have : μ0.take kk = μ0 := List.take_of_length_le h1
          rw [this]
          exact List.prefix_append _ _
      · exact False.elim o
    · exact False.elim o
  · exact False.elim o
theorem q_frv {W : WX} {X : Cx} {i : Nat} {ms : Sts} {sts : List Stmt} (h : PSs X sts (rdS G W (evSs c ms))) : PSs X sts (rdS G W (evSs c (.cons (.frv i) ms))) := PSs.imp h fun Z σ H ⟨S, μ, r, H0, μ0, rl, rs, g, p, o⟩ => by
  simp only [evSs, evS] at o
  obtain ⟨S', μ', r', a, b, d, e, f⟩ := frv_out rl rs g p o
  exact ⟨S', μ', r', H0, μ0, a, b, d, e, f⟩
theorem asg_ok {W : WX} {X : Cx} {sc : Scope} {m : E} {i : Nat} {st : Stmt} (x : YOk G cn c k sc W X) (h : chkS cn sc (.asg i m) st = true) : PS X st (rdS G W (evS c (.asg i m))) := by
  simp only [chkS] at h
  split at h
  · rename_i y e hd
    obtain ⟨p, q, rfl⟩ := dAsg_ok hd
    simp only [Bool.and_eq_true, Bool.or_eq_true] at h
    obtain ⟨⟨h1, h2⟩, h3⟩ := h
    have h1' := h1
    unfold nameB at h1'
    simp only [Bool.and_eq_true, decide_eq_true_eq] at h1'
    obtain ⟨hl, hf⟩ := loc_of x.toXOk h1'.2
    have set (hs : swapsWith e (some (.Name y p)) q.line X.env = pure false) : PS X (.Assign [.Name y p] e q) (rdS G W (evS c (.asg i m))) :=
      PS.imp (ps_set (by rw [x.N]; exact x.nd) (by rw [x.N]; exact h1'.1) hl (main_E m x.toXOk h2).pe hs hf) fun Z σ H z => asg_out z
    by_cases nc : notComp e = true
    · exact set (swap_base nc)
    · rcases h3 with h3 | h3
      · exact absurd h3 nc
      · cases m <;> first | (cases h3; done) | skip
        rename_i b me t src cond cd own
        have h2' := h2
        simp only [chkE] at h2'
        split at h2'
        · rename_i elt tg it ifs s hdc
          obtain ⟨pc, rfl⟩ := dComp_ok hdc
          simp only [Bool.and_eq_true] at h2'
          obtain ⟨⟨⟨⟨⟨⟨a1, a2⟩, a3⟩, a4⟩, a5⟩, a6⟩, a7⟩ := h2'
          obtain ⟨sb, hsb, hloc⟩ := sw_comp (elt := elt) (gs := [⟨tg, it, ifs, 0⟩]) (s := s) (p := pc) (py := p) (y := y) (l := q.line) x.kind
          cases sb with
          | false => exact set hsb
          | true =>
            refine PS.imp (s_setComp x.toXOk (m := b) a1 a2 a3 a4 (main_Src src x.toXOk a5) (fun Y xY _ => (main_E me xY a6).pe) (fun Y xY _ => ?_) h1'.1 (by rw [← x.sc]; exact hloc rfl) hsb) fun Z σ H z => asg_out z
            cases cond with
            | none =>
              cases ifs with
              | nil => exact pts_nil
              | cons _ _ => cases a7
            | some u =>
              cases ifs with
              | nil => cases a7
              | cons c0 r =>
                cases r with
                | nil => exact pts_one (main_E cd xY a7).pt
                | cons _ _ => cases a7
        · cases h2'
  · cases h
mutual
theorem main_S : ∀ (m : Mi.St) {sc : Scope} {W : WX} {X : Cx} {st : Stmt}, YOk G cn c k sc W X → chkS cn sc m st = true → PS X st (rdS G W (evS c m))
  | .asg i m, sc, W, X, st, x, h => asg_ok x h
  | .asgT is m, sc, W, X, st, x, h => by
    simp only [chkS] at h
    split at h
    · rename_i t e hd
      obtain ⟨es, kk, p, q, rfl, nt, rfl⟩ := dAsgT_ok hd
      simp only [Bool.and_eq_true] at h
      exact q_asgT x (main_E m x.toXOk h.2).pe h.1 sole_tup (stores_tup nt) rfl
    · cases h
  | .asgI a b m, sc, W, X, st, x, h => by
    simp only [chkS] at h
    split at h
    · rename_i y z e hd
      obtain ⟨p, q, rfl, ns⟩ := dAsgI_ok hd
      simp only [Bool.and_eq_true] at h
      exact q_asgI x (main_E a x.toXOk h.1.1).pe (main_E b x.toXOk h.1.2).pe (main_E m x.toXOk h.2).pe ns
    · cases h
  | .asgD a b m, sc, W, X, st, x, h => by
    simp only [chkS] at h
    split at h
    · rename_i y z e hd
      obtain ⟨p, q, rfl, ns⟩ := dAsgI_ok hd
      simp only [Bool.and_eq_true] at h
      exact q_asgD x (main_E a x.toXOk h.1.1).pe (main_E b x.toXOk h.1.2).pe (main_E m x.toXOk h.2).pe ns
    · cases h
  | .ex m, sc, W, X, st, x, h => by
    simp only [chkS] at h
    split at h
    · rename_i e hd
      obtain ⟨p, rfl, nc⟩ := dEx_ok hd
      exact q_ex (main_E m x.toXOk h).pe (swap_base nc)
    · cases h
  | .ret m, sc, W, X, st, x, h => by
    simp only [chkS] at h
    split at h
    · rename_i e hd
      obtain ⟨p, rfl⟩ := dRet_ok hd
      exact q_ret (main_E m x.toXOk h).pe
    · cases h
  | .retN, sc, W, X, st, x, h => by
    simp only [chkS] at h
    unfold isRetN at h
    split at h
    · exact q_retN
    · cases h
  | .ite t a b, sc, W, X, st, x, h => by
    simp only [chkS] at h
    split at h
    · rename_i e xs ys hd
      obtain ⟨p, rfl⟩ := dIfS_ok hd
      simp only [Bool.and_eq_true] at h
      exact q_ite (main_E t x.toXOk h.1.1).pt (main_Ss a x h.1.2) (main_Ss b x h.2)
    · cases h
  | .for t src b, sc, W, X, st, x, h => by
    simp only [chkS] at h
    split at h
    · rename_i tg e xs hd
      obtain ⟨p, rfl, ns⟩ := dFor_ok hd
      simp only [Bool.and_eq_true] at h
      exact q_for x (main_Src src x.toXOk h.1.2) h.1.1 (main_Ss b x h.2) ns
    · cases h
  | .while t b, sc, W, X, st, x, h => by
    simp only [chkS] at h
    split at h
    · rename_i e xs hd
      obtain ⟨p, rfl⟩ := dWhile_ok hd
      simp only [Bool.and_eq_true] at h
      exact q_while x (main_E t x.toXOk h.1).pt (main_Ss b x h.2)
    · cases h
  | .pass, sc, W, X, st, x, h => by
    simp only [chkS] at h
    unfold isPass at h
    split at h
    · exact q_pass
    · exact q_doc
    · cases h
  | .brk, sc, W, X, st, x, h => by
    simp only [chkS] at h
    unfold isBrk at h
    split at h
    · exact q_brk
    · cases h
  | .cont, sc, W, X, st, x, h => by
    simp only [chkS] at h
    unfold isCont at h
    split at h
    · exact q_cont
    · cases h
  | .asgF _ _ _, sc, W, X, st, x, h => by cases h
  | .raise _ _, sc, W, X, st, x, h => by cases h
  | .tryS _ _ _ _, sc, W, X, st, x, h => by cases h
  | .frv _, sc, W, X, st, x, h => by cases h
theorem main_Ss : ∀ (ms : Sts) {sc : Scope} {W : WX} {X : Cx} {sts : List Stmt}, YOk G cn c k sc W X → chkSs cn sc ms sts = true → PSs X sts (rdS G W (evSs c ms))
  | .nil, sc, W, X, sts, x, h => by
    cases sts with
    | nil => exact q_nil
    | cons _ _ => cases h
  | .cons m ms, sc, W, X, sts, x, h => by
    simp only [chkSs] at h
    split at h
    · exact q_frv (main_Ss ms x h)
    · split at h
      · cases h
      · simp only [Bool.and_eq_true] at h
        exact q_cons (main_S m x h.1) (main_Ss ms x h.2)
end
end
end Mi
/-! Defs by their bodies. -/
namespace Mi
open PySem PySem.Spec PyProof.Rows L2
section
variable {G : Gb}
theorem all_lows {n : Nat} : ∀ fs : List (Nat × D), fs.all (fun p => p.2.low n) = true → D.lows n (fs.map (·.2)) = true
  | [], _ => rfl
  | p :: fs, l => by
    simp only [List.all_cons, Bool.and_eq_true] at l
    simp only [List.map_cons, D.lows, Bool.and_eq_true]
    exact ⟨l.1, all_lows fs l.2⟩
theorem RX.take {H : Hp} {μ : List Addr} {n : Nat} (m : Muts H μ) {c : Nat} {fs : List (Nat × D)} {cv : Value} {od : Option Addr} (h : RX G H μ c fs cv od) (l : fs.all (fun p => p.2.low n) = true) : RX G H (μ.take n) c fs cv od := by
  refine ⟨h.1, h.2.imp id fun ⟨d, fv, e1, e2, e3, e4⟩ => ⟨d, fv, e1, e2, e3, ?_⟩⟩
  refine RVs.goL m Go.take n (fun i hi => by rw [List.getElem?_take, if_pos hi]) _ _ ?_ e4
  exact all_lows fs l
theorem freeze_out {W : WX} {σ : L2.St} {S0 S : Store} {μ0 μ : List Addr} {H0 H : Hp} {d : D} {v : V} {Q : VK} (rl0 : Rl G S0 μ0 H0) (o : OutE G W σ μ0 H0 (freezeR S0 d S) Q) (rl : Rl G S μ H) (g : Go H0 μ0 H μ) (p : μ0 <+: μ) (hv : RV G.K H μ d v) : Q v H := by
  unfold freezeR at o
  split at o
  · rename_i hc
    obtain ⟨rlT, eT⟩ := clean_take rl0 rl p hc
    split at o
    · rename_i w hw
      have q := frz_ok rl deepest _ _ w hv hw
      rw [eT] at q
      refine o _ H μ0 rlT ?_ (List.prefix_refl _) q
      have := g.trans (Go.take (μ := μ) (n0 := S0.length))
      rw [eT] at this
      exact this
    · exact False.elim o
  · exact False.elim o
theorem leave_out {W : WX} {σ : L2.St} {frz : Bool} {S : Store} {μ : List Addr} {H : Hp} {z : RsS} {Q : VK} (hW : ∀ c d σ' H', W c d σ H' → W c d σ' H') (rl : Rl G S μ H) (o : OutE G W σ μ H (leave frz S z) Q) : OutS G W { nx := fun _ H' => Q .non H', rt := Q } H μ z := by
  cases z with
  | nx r S' =>
    intro σ' H' μ' a b d e
    simp only [leave] at o
    cases frz with
    | true => rw [if_pos rfl] at o; exact freeze_out (d := .non) rl o a b d rfl
    | false => exact o _ H' μ' a b d rfl
  | rt d r S' =>
    intro v H' μ' a b e hv
    simp only [leave] at o
    cases frz with
    | true => rw [if_pos rfl] at o; exact freeze_out rl o a b e hv
    | false => exact o _ H' μ' a b e hv
  | exc c fs r S' =>
    intro cv od σ' H' μ' a b d e x
    simp only [leave] at o
    split at o
    · rename_i hc
      rw [Bool.and_eq_true] at hc
      obtain ⟨rlT, eT⟩ := clean_take rl a d hc.1
      have q := x.take a.muts (n := S.length) hc.2
      rw [eT] at q
      have gg := b.trans (Go.take (μ := μ') (n0 := S.length))
      rw [eT] at gg
      exact hW _ _ _ _ (o cv od H' μ rlT gg (List.prefix_refl _) q)
    · exact False.elim o
  | bk _ _ => exact False.elim o
  | ct _ _ => exact False.elim o
  | bad => exact False.elim o
end
section
variable {G : Gb} {P : Program} {w : World} {mg : Str → Option Value} {base : Heap} {k : Nat} {x qual : Str} {params : Arguments} {body : List Stmt} {scope : Scope} {f : Addr} {fd : FuncData} {ps : List Str}
/-- a def keeps what its small form computes -/
theorem fn_mini {cn : Cn} {Pm : Prog} {call make : Nat → List D → Store → Rs D} {i : Nat} {fn : Fn} (F : FunD G.K x qual params body scope [] [] f fd) (S : FnScope cn.N ps scope) (hf : Pm.fns i = some fn) (hp : ps.length = fn.ps) (hn : cn.N.length = fn.ns)
    (hb : chkSs cn scope fn.body body = true) (hg : ∀ y gv, cn.Γ.lookup y = some gv → GOk G (cfgOf Pm call make) P w mg base k y gv) : FnG P w G.K mg base (k + 1) f fd ps (spM G (runF Pm call make i)) := by
  have run : ∀ vs H Q E, spM G (runF Pm call make i) vs H Q E → ∃ (S : Store) (μ : List Addr) (ds : List D), Rl G S μ H ∧ RVs G.K H μ ds vs ∧ ds.length = fn.ps ∧ fn.ps ≤ fn.ns ∧ OutE G (fun c d _ H' => E c d H') [] μ H (leave fn.frz S (evSs (cfgOf Pm call make) fn.body S.length (startE fn.ns ds) S)) Q := by
    rintro vs H Q E ⟨S, μ, ds, rl, rv, o⟩
    unfold runF at o
    rw [hf] at o
    dsimp only at o
    split at o
    · rename_i hc
      exact ⟨S, μ, ds, rl, rv, hc.1, hc.2, o⟩
    · exact False.elim o
  refine fn_g F S (fun vs H Q E h => ?_) fun cdv A outer s H vs Q E hr hgd h => ?_
  · obtain ⟨_, _, ds, _, rv, h1, _, _⟩ := run vs H Q E h
    rw [← rv.length, h1, hp]
  · obtain ⟨S0, μ, ds, rl, rv, h1, h2, o⟩ := run vs H Q E h
    refine ⟨rdS G (fun c d _ H' => E c d H') (evSs (cfgOf Pm call make) fn.body), ?_, S0, μ, startE fn.ns ds, H, μ, rl, rv.start cn.N fn.ns hn, Go.refl, List.prefix_refl _, ?_⟩
    · have xo : XOk G cn (cfgOf Pm call make) k true scope (fun c d _ H' => E c d H') (cxOf (L2.CX P w) P w G.K mg base cn.N qual scope f cdv A outer s H E) :=
        ⟨rfl, rfl, S.nd, rfl, rfl, hr, hgd, fun _ _ => rfl, takes_of rfl rfl rfl rfl, hg⟩
      exact main_Ss fn.body ⟨xo, passes_of rfl, S.kind⟩ hb
    · rw [rl.len]
      exact leave_out (fun _ _ _ _ h => h) rl o
end
end Mi
/-! The head: all defs of a text, the law's call. -/
namespace Mi
open PySem PySem.Spec PyProof.Rows L2
/-! ### the law's call, where nothing is being shown -/
section
variable {P : Program} {w : World} {K : PySem.W.Frag} {mg mb : Str → Option Value} {k : Nat} {fa a : Addr} {fd : FuncData} {x : Str} {sp : Sp} {s : Shared} {vs : List Value} {ns : List Int} {H : Hp}
/-- only the script is told of -/
abbrev Lone (H : Hp) (a : Addr) : Prop := ∀ b, H b ≠ none → b = a
theorem lone_none (hl : Lone H a) {b : Addr} (h : b ≠ a) : H b = none := Classical.byContradiction fun z => h (hl b z)
theorem lone_env
    (inK : K.In s.heap) (nsM : s.heap.Ns mainGlobals mg) (nsB : s.heap.Ns builtinsNs mb)
    (std : ∀ x : Str, x ≠ "__name__" → mb x = bootBuiltins x)
    (nl : s.heap.NoLimit) (gn : s.gens = #[])
    (obj : s.heap.get? a = some { cls := .type "list", data := .seq vs.toArray })
    (hl : Lone H a) (hk : H a ≠ none → K.lookup a = none) (ok : HOk P w H s.heap) :
    K.In (hidT s.heap H) ∧ (hidT s.heap H).Ns mainGlobals mg ∧ Env0 P w K mg (hidT s.heap H) callerA [] s H := by
  have dictNone {b : Addr} {o : PySem.Obj} {es : Array DictEntry} {ep : Nat} (e : s.heap.get? b = some o) (d : o.data = .dict es ep) : H b = none := by
    refine lone_none hl fun q => ?_
    subst q
    rw [obj] at e
    injection e with e
    rw [← e] at d
    cases d
  have ns {b : Addr} {m : Str → Option Value} (q : s.heap.Ns b m) : (hidT s.heap H).Ns b m := by
    obtain ⟨o, es, ep, e, d, r⟩ := q
    exact ⟨o, es, ep, hidT_get e (dictNone e d), d, r⟩
  have kin : K.In (hidT s.heap H) := by
    intro b o e
    refine hidT_get (inK b o e) ?_
    by_cases q : H b = none
    · exact q
    · have eb := hl b q
      subst eb
      rw [hk q] at e
      cases e
  obtain ⟨mc, n1, n2⟩ := nl
  refine ⟨kin, ns nsM, rfl, ⟨kin, ns nsM, ⟨mb, ns nsB, std⟩, ⟨mc, ns n1, n2⟩⟩, ?_, Nat.le_of_eq (hidT_size _ _), trivial, ?_, ok, .of_eq gn⟩
  · exact fun b o e => of_hidT e
  · exact fun b hb => absurd hb List.not_mem_nil
/-- what the law's own call is to end in -/
abbrev Ended (s : Shared) (r : Result) (s' : Shared) : Prop := r = .ok (.ret (.bool true)) ∧ OldK s.heap s'.heap ∧ s'.os = s.os ∧ AllBare s'.gens
theorem lone_end (ok : HOk P w H s.heap) (hO : Only H) {r : Result} {s' : Shared}
    (h : CR (L2.CX P w) [] P w H s (fun v _ => v = .bl true) (fun _ _ _ => False) r s') : Ended s r s' := by
  rcases r with e | fl
  · obtain ⟨_, _, _, _, _, _, _, _, _, _, _, _, z⟩ := h
    exact z.elim
  · cases fl <;> first | exact False.elim h | skip
    obtain ⟨v, H2, os, bare, un, ok2, rv, rfl⟩ := h
    cases rv
    refine ⟨rfl, OldK.of_keep ?_, os, bare⟩
    intro b o e
    rcases hO b with q | ⟨ob, xs, q⟩
    · exact un.keep b o e q (fun z => absurd z List.not_mem_nil) List.not_mem_nil
    · have t1 := (ok b _ q).1
      have t2 := (ok2 b _ (un.frzs b ob _ q)).1
      rw [e] at t1
      injection t1 with t1
      rw [t1]
      exact t2
theorem lone_call
    (inK : K.In s.heap) (nsM : s.heap.Ns mainGlobals mg) (nsB : s.heap.Ns builtinsNs mb)
    (std : ∀ x : Str, x ≠ "__name__" → mb x = bootBuiltins x)
    (nl : s.heap.NoLimit) (gn : s.gens = #[])
    (obj : s.heap.get? a = some { cls := .type "list", data := .seq vs.toArray })
    (numb : IntsAre vs ns) (size : ns.length ≤ sizeLine) (room : Room k callerA)
    (F : ∀ base : Heap, K.In base → base.Ns mainGlobals mg → FnG P w K mg base k fa fd [x] sp)
    (bind : ∀ (s : Shared) (u : Value), BindsTo s fd ⟨[u], []⟩ [(x, u)])
    (told : ∀ H : Hp, Only H → SqL K H a (ns.map V.int) → sp [.ref a] H (fun v _ => v = .bl true) fun _ _ _ => False) :
    codeAny (model P w) callerA (.call (.ref fa) ⟨[.ref a], []⟩) (Ended s) s := by
  have rv := vals_ints numb
  have go (H : Hp) (hO : Only H) (hS : SqL K H a (ns.map V.int)) (ok : HOk P w H s.heap) (hl : Lone H a) (hk : H a ≠ none → K.lookup a = none) : codeAny (model P w) callerA (.call (.ref fa) ⟨[.ref a], []⟩) (Ended s) s := by
    obtain ⟨h1, h2, h3⟩ := lone_env inK nsM nsB std nl gn obj hl hk ok
    have z := (F _ h1 h2).run callerA [] s H ⟨[.ref a], []⟩ [.ref a] [.ref a] _ _ room rfl h3 (bind s (.ref a)) (.cons rfl .nil) (told H hO hS)
    exact codeAny_mono z fun r s' q => lone_end ok hO q
  rcases hk : K.lookup a with _ | o
  · let T : HO := .frz { cls := .type "list", data := .seq vs.toArray } (.lst (ns.map V.int))
    let H1 : Hp := fun b => if b = a then some T else none
    have at_ : H1 a = some T := if_pos rfl
    have off {b : Addr} (h : b ≠ a) : H1 b = none := if_neg h
    refine go H1 (fun b => ?_) (.inl (.inr ⟨_, at_⟩)) (fun b u e => ?_) (fun b e => ?_) fun _ => hk
    · by_cases q : b = a
      · subst q; exact .inr ⟨_, _, at_⟩
      · exact .inl (off q)
    · by_cases q : b = a
      · subst q
        rw [at_] at e
        injection e with e
        subst e
        exact ⟨obj, by rw [List.length_map]; exact size, vs, _, rv, obj⟩
      · rw [off q] at e; cases e
    · exact Classical.byContradiction fun q => e (off q)
  · have e := inK a o hk
    rw [obj] at e
    injection e with e
    subst e
    have sz : vs.toArray.size ≤ sizeLine := by rw [List.size_toArray, numb.length]; exact size
    refine go (fun _ => none) (fun _ => .inl rfl) (.inr ⟨_, vs.toArray, _, hk, rfl, rfl, rfl, sz, by simpa using rv⟩) (fun b u z => ?_) (fun b z => absurd rfl z) fun z => absurd rfl z
    cases (show (none : Option HO) = some u from z)
end

/-! ### all defs of a text -/
structure DefM where
  name : Str
  st : Stmt
  ps : List Str
  N : List Str
  fn : Fn
def scopeOk (N P : List Str) (sc : Scope) : Bool := (match sc.kind with
    | .function => true
    | _ => false) && !sc.isCoroutine && !sc.isGenerator && decide N.Nodup && decide (N.take P.length = P) &&
  (P.all fun x => decide (sc.names.lookup x = some .local) || decide (sc.names.lookup x = some .cell)) && sc.names.all fun y => decide (y.2 ≠ .free)
theorem scopeOk_of {N P : List Str} {sc : Scope} (h : scopeOk N P sc = true) : FnScope N P sc := by
  unfold scopeOk at h
  simp only [Bool.and_eq_true, List.all_eq_true, decide_eq_true_eq, Bool.or_eq_true, Bool.not_eq_true'] at h
  obtain ⟨⟨⟨⟨⟨⟨h1, h2⟩, h3⟩, h4⟩, h5⟩, h6⟩, h7⟩ := h
  refine ⟨?_, h2, h3, h4, h5, h6, h7⟩
  split at h1
  · assumption
  · cases h1
def defOk (Γ : List (Str × GV)) (m : DefM) : Bool := scopeOk m.N m.ps (defScope m.st) && decide (m.ps.length = m.fn.ps) && decide (m.N.length = m.fn.ns) &&
  chkSs ⟨Γ, m.N⟩ (defScope m.st) m.fn.body (defBody m.st)
/-- its parameters take what is handed in, in order -/
def BndOk (m : DefM) : Prop := ∀ (kV doc pm : Value) (an : Option Addr) (cdv ct : Value) (us : List Value), us.length = m.ps.length →
    bindArgs (PySem.W.fnOf m.name m.name (defArgs m.st) (defBody m.st) (defScope m.st) .none kV doc pm an cdv ct) ⟨us, []⟩ = pure (m.ps.zip us)
def DefM.d (m : DefM) : He.DefD := ⟨(m.name, none), m.name, m.name, defArgs m.st, defBody m.st, defScope m.st, [], []⟩
def gamma (ds : List DefM) (bs : List Str) : List (Str × GV) := (ds.zipIdx.map fun p => (p.1.name, GV.fn p.2)) ++ bs.map fun x => (x, GV.blt)
def facts (ds : List DefM) (bs : List Str) : List He.Fa := (ds.map fun m => .glo m.name) ++ bs.map .free
theorem lookup_mem {α : Type} : ∀ {l : List (Str × α)} {x : Str} {v : α}, l.lookup x = some v → (x, v) ∈ l
  | [], _, _, h => by cases h
  | (y, u) :: r, x, v, h => by
    rw [List.lookup_cons] at h
    split at h
    · rename_i e
      cases h
      rw [beq_iff_eq.mp e]
      exact List.mem_cons_self
    · exact List.mem_cons_of_mem _ (lookup_mem h)
section
variable {G : Gb} {P : Program} {w : World} {mg : Str → Option Value} {ds : List DefM} {bs : List Str} {Pm : Prog}
theorem fn_none {base : Heap} {k : Nat} {f : Addr} {fd : FuncData} {ps : List Str} (run : List D → Store → Rs D) (h : ∀ ds S, run ds S = .bad) : FnG P w G.K mg base k f fd ps (spM G run) :=
  ⟨fun vs H Q E ⟨S, μ, ds, _, _, o⟩ => by rw [h] at o; exact False.elim o, fun A outer s H args us vs Q E _ _ _ _ _ ⟨S, μ, ds, _, _, o⟩ => by rw [h] at o; exact False.elim o⟩
/-- the function objects -/
theorem fds_of (c : He.SaysD (facts ds bs) (ds.map DefM.d) G.K) : ∃ fds : Nat → FuncData, ∀ (i : Nat) (m : DefM), ds[i]? = some m → FunD G.K m.name m.name (defArgs m.st) (defBody m.st) (defScope m.st) [] [] (He.ga G.K m.name) (fds i) := by
  refine Classical.axiomOfChoice (r := fun (i : Nat) (fd : FuncData) => ∀ m : DefM, ds[i]? = some m → FunD G.K m.name m.name (defArgs m.st) (defBody m.st) (defScope m.st) [] [] (He.ga G.K m.name) fd) fun i => ?_
  cases e : ds[i]? with
  | none => exact ⟨default, fun m z => by cases z⟩
  | some m =>
    obtain ⟨fd, F⟩ := c.def_ i (d := m.d) (by rw [List.getElem?_map, e]; rfl)
    exact ⟨fd, fun m' z => by cases z; exact F⟩
theorem glo_at {h : Heap} (X : G.K.In h) (nsM : h.Ns mainGlobals mg) (c : He.SaysD (facts ds bs) (ds.map DefM.d) G.K) (i : Nat) (m : DefM) (e : ds[i]? = some m) : mg m.name = some (.ref (He.ga G.K m.name)) := by
  refine He.glo_ok X nsM (c.fact i (f := .glo m.name) ?_)
  unfold facts
  rw [List.getElem?_append_left (by rw [List.length_map]; exact (List.getElem?_eq_some_iff.mp e).1), List.getElem?_map, e]
  rfl
theorem blt_at {h : Heap} (X : G.K.In h) (nsM : h.Ns mainGlobals mg) (c : He.SaysD (facts ds bs) (ds.map DefM.d) G.K) {x : Str} (hx : x ∈ bs) : mg x = none := by
  obtain ⟨i, hi⟩ := List.mem_iff_getElem?.mp hx
  refine He.free_ok X nsM (c.fact (ds.length + i) (f := .free x) ?_)
  unfold facts
  rw [List.getElem?_append_right (by simp), List.getElem?_map]
  simp [hi]
theorem table_ok {h base : Heap} {fds : Nat → FuncData} (X : G.K.In h) (nsM : h.Ns mainGlobals mg) (c : He.SaysD (facts ds bs) (ds.map DefM.d) G.K) (hF : ∀ (i : Nat) (m : DefM), ds[i]? = some m → FunD G.K m.name m.name (defArgs m.st) (defBody m.st) (defScope m.st) [] [] (He.ga G.K m.name) (fds i))
    (ok : ds.all (defOk (gamma ds bs)) = true) (hB : ∀ m ∈ ds, BndOk m) (hP : ∀ i, Pm.fns i = (ds[i]?).map (·.fn)) : ∀ (k i : Nat) (m : DefM), ds[i]? = some m → FnG P w G.K mg base k (He.ga G.K m.name) (fds i) m.ps (spM G (callF Pm k i)) := by
  intro k
  induction k with
  | zero => exact fun i m e => fn_none _ fun _ _ => rfl
  | succ k ih =>
    intro i m e
    have q := List.all_eq_true.mp ok m (List.mem_of_getElem? e)
    unfold defOk at q
    simp only [Bool.and_eq_true, decide_eq_true_eq] at q
    obtain ⟨⟨⟨h1, h4⟩, h5⟩, h6⟩ := q
    rw [callF_succ]
    refine fn_mini (cn := ⟨gamma ds bs, m.N⟩) (hF i m e) (scopeOk_of h1) (by rw [hP, e]; rfl) h4 h5 h6 fun y gv hy => ?_
    have mem := lookup_mem hy
    unfold gamma at mem
    rcases List.mem_append.mp mem with mem | mem
    · obtain ⟨p, hp, ep⟩ := List.mem_map.mp mem
      obtain ⟨m2, j⟩ := p
      have hj : ds[j]? = some m2 := List.mk_mem_zipIdx_iff_getElem?.mp hp
      cases ep
      exact ⟨_, fds j, m2.ps, glo_at X nsM c j m2 hj, (hF j m2 hj).kp, (hF j m2 hj).bindsN (hB m2 (List.mem_of_getElem? hj)), ih j m2 hj⟩
    · obtain ⟨x, hx, ep⟩ := List.mem_map.mp mem
      cases ep
      exact blt_at X nsM c hx
end
/-! ### the law -/
def Gb0 (K : PySem.W.Frag) : Gb := ⟨K, fun n => txt [n], fun _ => 0, fun f g h => by simpa using txt_inj h⟩
theorem walk_mini {l : PySem.W.OpenLaw} {n k : Nat} {q : Program} {loose : List Str} {XP : (Str → Option Value) → Heap → Prop} {YP : World → Heap → Prop} {d : DefRec} {x : Str} {ds : List DefM} {bs : List Str} {Pm : Prog} {i : Nat} {m : DefM}
    (hn : l.most = some n) (hn2 : n ≤ sizeLine) (hdf : d.params.defaults = []) (hr : Room k callerA) (hY : ∀ w h, YP w h → ∃ K : PySem.W.Frag, K.In h ∧ He.SaysD (facts ds bs) (ds.map DefM.d) K)
    (ok : ds.all (defOk (gamma ds bs)) = true) (hB : ∀ m ∈ ds, BndOk m) (hP : ∀ i, Pm.fns i = (ds[i]?).map (·.fn)) (hi : ds[i]? = some m) (hx : m.ps = [x]) (hd : m.name = d.name)
    (law : ∀ ns : List Int, ns.length ≤ n → ∃ S, callF Pm k i [.scr ns] [] = .ok (.bl true) S) : PySem.W.WalkO q loose XP YP l.row.toRowW d [] (fun f vs => PySem.call f vs) := by
  refine Att.attach_call hn hdf fun w s₀ s mg mb fa o pm cd doc a vs ns G Y ho hod hcd hmg obj numb len gn => ?_
  obtain ⟨K, inK, c⟩ := hY w _ Y
  obtain ⟨fds, hF⟩ := fds_of (G := Gb0 K) c
  have ef : fa = He.ga K m.name := by
    have := glo_at (G := Gb0 K) inK G.T.g c i m hi
    rw [← hd, this] at hmg
    cases hmg; rfl
  subst ef
  refine lone_call (K := K) (fd := fds i) (x := x) (sp := spM (Gb0 K) (callF Pm k i)) inK G.T.g G.T.b G.T.builtins G.T.nolimit gn obj numb (Nat.le_trans len hn2) hr (fun base _ _ => ?_) (fun s u => ?_) fun H hO hS => ?_
  · rw [← hx]
    exact table_ok (G := Gb0 K) inK G.T.g c hF ok hB hP k i m hi
  · have := (hF i m hi).bindsA (hB m (List.mem_of_getElem? hi)) s [u] (by rw [hx]; rfl)
    rw [hx] at this
    exact this
  · obtain ⟨S, e⟩ := law ns len
    refine ⟨[], [], [.scr ns], ⟨rfl, List.nodup_nil, fun n a h => by simp at h⟩, RVs.one ⟨a, rfl, ?_⟩, ?_⟩
    · rcases hS with (z | z) | z
      · rcases hO a with q | ⟨o, xs, q⟩ <;> (rw [z] at q; cases q)
      · exact .inl z
      · exact .inr fun H' => .inr z
    · rw [e]
      intro b H' μ' _ _ _ hb
      exact hb
end Mi
/-! Running the small language: what parts come to. -/
namespace Mi
section
variable {c : Cfg} {r : Env} {S : Store}
theorem call_eq {P : Prog} {k i : Nat} {ds : List D} {S : Store} {fn : Fn} (h : P.fns i = some fn) (hl : ds.length = fn.ps ∧ fn.ps ≤ fn.ns) :
    callF P (k + 1) i ds S = leave fn.frz S (evSs (cfgOf P (callF P k) (callP P k).2) fn.body S.length (startE fn.ns ds) S) := by
  rw [callF_succ]
  unfold runF
  rw [h]
  exact if_pos hl
@[simp] theorem cfg_call (P : Prog) (f g : Nat → List D → Store → Rs D) : (cfgOf P f g).call = f := rfl
@[simp] theorem cfg_w (P : Prog) (f g : Nat → List D → Store → Rs D) : (cfgOf P f g).w = P.w := rfl
@[simp] theorem stands_nil (S : Store) : stands [] S = true := rfl
@[simp] theorem stands_one (n : Nat) (xs : List D) (S : Store) : stands [(n, xs)] S = decide (S[n]? = some (.lst xs)) := by simp [stands]

/-! ### one step at a time: continuations by names, so that nothing is reckoned ahead of its values -/
def kVar (o : Option (Option D)) (S : Store) : Rs D := match o with
  | some (some d) => .ok d S
  | _ => .bad
@[simp] theorem kVar_some (d : D) (S : Store) : kVar (some (some d)) S = .ok d S := rfl
@[simp] theorem r_var {i : Nat} {x : Option D} {t : Env} : evE c (.var i) (x :: t) S = kVar ((x :: t)[i]?) S := by
  rw [evE]; unfold kVar; rfl
@[simp] theorem r_lit {d : D} {r : Env} : evE c (.lit d) r S = .ok d S := by rw [evE]
@[simp] theorem r_cst {d : D} {r : Env} : evE c (.cst d) r S = .ok d S := by rw [evE]
@[simp] theorem r_tup {es : Es} {x : Option D} {t : Env} : evE c (.tup es) (x :: t) S = (evEs c es (x :: t) S).bind newT := by rw [evE]
@[simp] theorem r_lst {m : Bool} {es : Es} {x : Option D} {t : Env} : evE c (.lst m es) (x :: t) S = (evEs c es (x :: t) S).bind (newL m) := by rw [evE]
def kCons2 (d : D) (ds : List D) (S : Store) : Rs (List D) := .ok (d :: ds) S
def kCons (c : Cfg) (es : Es) (r : Env) (d : D) (S : Store) : Rs (List D) := (evEs c es r S).bind (kCons2 d)
@[simp] theorem kCons2_eq (d : D) (ds : List D) (S : Store) : kCons2 d ds S = .ok (d :: ds) S := rfl
@[simp] theorem kCons_eq {es : Es} {x : Option D} {t : Env} {d : D} : kCons c es (x :: t) d S = (evEs c es (x :: t) S).bind (kCons2 d) := rfl
@[simp] theorem r_nil {x : Option D} {t : Env} : evEs c .nil (x :: t) S = .ok [] S := by rw [evEs]
@[simp] theorem r_cons {e : E} {es : Es} {x : Option D} {t : Env} : evEs c (.cons e es) (x :: t) S = (evE c e (x :: t) S).bind (kCons c es (x :: t)) := by rw [evEs]; rfl
@[simp] theorem r_b1 {o : B1} {a : E} {x : Option D} {t : Env} : evE c (.b1 o a) (x :: t) S = (evE c a (x :: t) S).bind (ev1 o) := by rw [evE]
def kB2 (c : Cfg) (o : B2) (b : E) (r : Env) (x : D) (S : Store) : Rs D := (evE c b r S).bind (ev2 o x)
@[simp] theorem kB2_eq {o : B2} {b : E} {x : Option D} {t : Env} {d : D} : kB2 c o b (x :: t) d S = (evE c b (x :: t) S).bind (ev2 o d) := rfl
@[simp] theorem r_b2 {o : B2} {a b : E} {x : Option D} {t : Env} : evE c (.b2 o a b) (x :: t) S = (evE c a (x :: t) S).bind (kB2 c o b (x :: t)) := by rw [evE]; rfl
def kM2 (c : Cfg) (o : B2) (b : E) (r : Env) (x : D) (S : Store) : Rs D := if recvOk o S x then (evE c b r S).bind (ev2 o x) else .bad
@[simp] theorem r_m2 {o : B2} {a b : E} {x : Option D} {t : Env} : evE c (.m2 o a b) (x :: t) S = (evE c a (x :: t) S).bind (kM2 c o b (x :: t)) := by rw [evE]; rfl
def kRecv (b : Bool) (z : Rs D) : Rs D := if b then z else .bad
@[simp] theorem kRecv_true (z : Rs D) : kRecv true z = z := rfl
@[simp] theorem kM2_eq {o : B2} {b : E} {x : Option D} {t : Env} {d : D} : kM2 c o b (x :: t) d S = kRecv (recvOk o S d) ((evE c b (x :: t) S).bind (ev2 o d)) := rfl
def kAnd (c : Cfg) (b : E) (r : Env) (d : D) (S : Store) : Rs D := match d with
  | .bl true => evE c b r S
  | .bl false => .ok (.bl false) S
  | _ => .bad
def kOr (c : Cfg) (b : E) (r : Env) (d : D) (S : Store) : Rs D := match d with
  | .bl true => .ok (.bl true) S
  | .bl false => evE c b r S
  | _ => .bad
def kNot (d : D) (S : Store) : Rs D := match d with
  | .bl b => .ok (.bl (!b)) S
  | _ => .bad
def kIte (c : Cfg) (a b : E) (r : Env) (d : D) (S : Store) : Rs D := match d with
  | .bl true => evE c a r S
  | .bl false => evE c b r S
  | _ => .bad
@[simp] theorem kAnd_t {b : E} {r : Env} : kAnd c b r (.bl true) S = evE c b r S := rfl
@[simp] theorem kAnd_f {b : E} {r : Env} : kAnd c b r (.bl false) S = .ok (.bl false) S := rfl
@[simp] theorem kOr_t {b : E} {r : Env} : kOr c b r (.bl true) S = .ok (.bl true) S := rfl
@[simp] theorem kOr_f {b : E} {r : Env} : kOr c b r (.bl false) S = evE c b r S := rfl
@[simp] theorem kNot_b {b : Bool} : kNot (.bl b) S = .ok (.bl (!b)) S := rfl
@[simp] theorem kIte_t {a b : E} {r : Env} : kIte c a b r (.bl true) S = evE c a r S := rfl
@[simp] theorem kIte_f {a b : E} {r : Env} : kIte c a b r (.bl false) S = evE c b r S := rfl
@[simp] theorem r_and {a b : E} {x : Option D} {t : Env} : evE c (.and a b) (x :: t) S = (evE c a (x :: t) S).bind (kAnd c b (x :: t)) := by rw [evE]; rfl
@[simp] theorem r_or {a b : E} {x : Option D} {t : Env} : evE c (.or a b) (x :: t) S = (evE c a (x :: t) S).bind (kOr c b (x :: t)) := by rw [evE]; rfl
@[simp] theorem r_not {a : E} {x : Option D} {t : Env} : evE c (.not a) (x :: t) S = (evE c a (x :: t) S).bind kNot := by rw [evE]; rfl
@[simp] theorem r_ite {z a b : E} {x : Option D} {t : Env} : evE c (.ite z a b) (x :: t) S = (evE c z (x :: t) S).bind (kIte c a b (x :: t)) := by rw [evE]; rfl
@[simp] theorem r_call {f : Nat} {es : Es} {x : Option D} {t : Env} : evE c (.call f es) (x :: t) S = (evEs c es (x :: t) S).bind (c.call f) := by rw [evE]
@[simp] theorem r_dict {m : Bool} {r : Env} : evE c (.dict m) r S = newD m [] [] S := by rw [evE]
def kBnd (c : Cfg) (o : Option Unit) (e : E) (r : Env) (S : Store) : Rs (Option Int) := match o with
  | none => .ok none S
  | some _ => (evE c e r S).bind toI
@[simp] theorem kBnd_n {e : E} {r : Env} : kBnd c none e r S = .ok none S := rfl
@[simp] theorem kBnd_s {e : E} {x : Option D} {t : Env} : kBnd c (some ()) e (x :: t) S = (evE c e (x :: t) S).bind toI := rfl
@[simp] theorem toI_int {i : Int} : toI (.int i) S = .ok (some i) S := rfl
def kSl2 (m : Bool) (x : D) (u v : Option Int) (S : Store) : Rs D := evSlice m x u v S
def kSl1 (c : Cfg) (m : Bool) (hi : Option Unit) (h : E) (r : Env) (x : D) (u : Option Int) (S : Store) : Rs D := (kBnd c hi h r S).bind (kSl2 m x u)
def kSl0 (c : Cfg) (m : Bool) (lo hi : Option Unit) (l h : E) (r : Env) (x : D) (S : Store) : Rs D := (kBnd c lo l r S).bind (kSl1 c m hi h r x)
@[simp] theorem kSl2_eq {m : Bool} {x : D} {u v : Option Int} : kSl2 m x u v S = evSlice m x u v S := rfl
@[simp] theorem kSl1_eq {m : Bool} {hi : Option Unit} {h : E} {x : D} {u : Option Int} {y : Option D} {t : Env} : kSl1 c m hi h (y :: t) x u S = (kBnd c hi h (y :: t) S).bind (kSl2 m x u) := rfl
@[simp] theorem kSl0_eq {m : Bool} {lo hi : Option Unit} {l h : E} {x : D} {y : Option D} {t : Env} : kSl0 c m lo hi l h (y :: t) x S = (kBnd c lo l (y :: t) S).bind (kSl1 c m hi h (y :: t) x) := rfl
@[simp] theorem r_slc {m : Bool} {a l h : E} {lo hi : Option Unit} {x : Option D} {t : Env} : evE c (.slc m a lo hi l h) (x :: t) S = (evE c a (x :: t) S).bind (kSl0 c m lo hi l h (x :: t)) := by
  rw [evE]; rfl
/-- a comprehension -/
def kComp (c : Cfg) (m : Bool) (e : E) (t : Tg) (cond : Option Unit) (cd : E) (own : List Nat) (r : Env) (p : List D × Guard) (S : Store) : Rs D :=
  (compLoop p.2 S.length (compBody t cond (fun r S => evE c e r S) (fun r S => evE c cd r S) (wipeE r own)) p.1 (S ++ [.lst []])).bind fun _ S' => if m then .ok (.ref S.length) S' else freezeR S (.ref S.length) S'
@[simp] theorem r_comp {m : Bool} {e : E} {tg : Tg} {src : Src} {cond : Option Unit} {cd : E} {own : List Nat} {x : Option D} {t : Env} : evE c (.comp m e tg src cond cd own) (x :: t) S = (evSrc c src (x :: t) S).bind (kComp c m e tg cond cd own (x :: t)) := by
  rw [evE]; rfl
/-! walks -/
def kIt (d : D) (S : Store) : Rs (List D × Guard) := match items S d with
  | some xs => .ok (xs, guardOf d xs) S
  | none => (match strItems d with
    | some xs => .ok (xs, []) S
    | none => .bad)
def kR1 (d : D) (S : Store) : Rs (List D × Guard) := match d with
  | .int i => if i.natAbs < 1000000000000 then .ok (rangeD 0 i, []) S else .bad
  | _ => .bad
def kEn (d : D) (S : Store) : Rs (List D × Guard) := match itemsL S d with
  | some xs => .ok (xs.zipIdx.map fun p => .tup [natI p.2, p.1], guardOf d xs) S
  | none => .bad
@[simp] theorem r_it {e : E} {x : Option D} {t : Env} : evSrc c (.it e) (x :: t) S = (evE c e (x :: t) S).bind kIt := by rw [evSrc]; rfl
@[simp] theorem r_r1 {e : E} {x : Option D} {t : Env} : evSrc c (.rng1 e) (x :: t) S = (evE c e (x :: t) S).bind kR1 := by rw [evSrc]; rfl
@[simp] theorem r_en {e : E} {x : Option D} {t : Env} : evSrc c (.enum e) (x :: t) S = (evE c e (x :: t) S).bind kEn := by rw [evSrc]; rfl
@[simp] theorem kIt_lst {xs : List D} : kIt (.lst xs) S = .ok (xs, []) S := rfl
@[simp] theorem kIt_tup {xs : List D} : kIt (.tup xs) S = .ok (xs, []) S := rfl
def kItR (o : Option Obj) (n : Nat) (S : Store) : Rs (List D × Guard) := match o with
  | some (.lst xs) => .ok (xs, [(n, xs)]) S
  | _ => .bad
@[simp] theorem kItR_l {xs : List D} {n : Nat} : kItR (some (.lst xs)) n S = .ok (xs, [(n, xs)]) S := rfl
@[simp] theorem kIt_ref {n : Nat} : kIt (.ref n) S = kItR S[n]? n S := by
  simp only [kIt, items, strItems]
  unfold kItR
  cases S[n]? with
  | none => rfl
  | some o => cases o <;> rfl
@[simp] theorem kR1_int {i : Int} : kR1 (.int i) S = if i.natAbs < 1000000000000 then .ok (rangeD 0 i, []) S else .bad := rfl
@[simp] theorem kEn_lst {xs : List D} : kEn (.lst xs) S = .ok (xs.zipIdx.map fun p => .tup [natI p.2, p.1], []) S := rfl
/-! statements -/
def kTru (d : D) (S : Store) : Rs Bool := match d with
  | .bl b => .ok b S
  | _ => .bad
@[simp] theorem kTru_bl {b : Bool} : kTru (.bl b) S = .ok b S := rfl
@[simp] theorem r_T {e : E} {x : Option D} {t : Env} : evT c e (x :: t) S = (evE c e (x :: t) S).bind kTru := rfl
def kSeq (c : Cfg) (ss : Sts) (n0 : Nat) (r : Env) (S : Store) : RsS := evSs c ss n0 r S
@[simp] theorem kSeq_eq {ss : Sts} {n0 : Nat} {x : Option D} {t : Env} : kSeq c ss n0 (x :: t) S = evSs c ss n0 (x :: t) S := rfl
@[simp] theorem r_snil {n0 : Nat} {x : Option D} {t : Env} : evSs c .nil n0 (x :: t) S = .nx (x :: t) S := by rw [evSs]
@[simp] theorem r_scons {s : St} {ss : Sts} {n0 : Nat} {x : Option D} {t : Env} : evSs c (.cons s ss) n0 (x :: t) S = (evS c s n0 (x :: t) S).seq (kSeq c ss n0) := by rw [evSs]; rfl
def kAsg (i : Nat) (r : Env) (d : D) (S : Store) : RsS := if i < r.length then .nx (r.set i (some d)) S else .bad
@[simp] theorem kAsg_eq {i : Nat} {x : Option D} {t : Env} {d : D} : kAsg i (x :: t) d S = if i < (x :: t).length then .nx ((x :: t).set i (some d)) S else .bad := rfl
@[simp] theorem r_asg {i n0 : Nat} {e : E} {x : Option D} {t : Env} : evS c (.asg i e) n0 (x :: t) S = (evE c e (x :: t) S).thenS (x :: t) (kAsg i (x :: t)) := by rw [evS]; rfl
def kAsgT (is : List Nat) (r : Env) (d : D) (S : Store) : RsS := match setT (.tp is) d r with
  | some r' => .nx r' S
  | none => .bad
@[simp] theorem r_asgT {is : List Nat} {n0 : Nat} {e : E} {x : Option D} {t : Env} : evS c (.asgT is e) n0 (x :: t) S = (evE c e (x :: t) S).thenS (x :: t) (kAsgT is (x :: t)) := by rw [evS]; rfl
def kI3 (x d : D) (r : Env) (y : D) (S : Store) : RsS := setIx x y d r S
def kI2 (c : Cfg) (i : E) (d : D) (r : Env) (x : D) (S : Store) : RsS := (evE c i r S).thenS r (kI3 x d r)
def kI1 (c : Cfg) (o i : E) (r : Env) (d : D) (S : Store) : RsS := (evE c o r S).thenS r (kI2 c i d r)
@[simp] theorem kI3_eq {x d y : D} {r : Env} : kI3 x d r y S = setIx x y d r S := rfl
@[simp] theorem kI2_eq {i : E} {d y : D} {x : Option D} {t : Env} : kI2 c i d (x :: t) y S = (evE c i (x :: t) S).thenS (x :: t) (kI3 y d (x :: t)) := rfl
@[simp] theorem kI1_eq {o i : E} {d : D} {x : Option D} {t : Env} : kI1 c o i (x :: t) d S = (evE c o (x :: t) S).thenS (x :: t) (kI2 c i d (x :: t)) := rfl
@[simp] theorem r_asgI {o i e : E} {n0 : Nat} {x : Option D} {t : Env} : evS c (.asgI o i e) n0 (x :: t) S = (evE c e (x :: t) S).thenS (x :: t) (kI1 c o i (x :: t)) := by rw [evS]; rfl
def kD3 (x d : D) (r : Env) (y : D) (S : Store) : RsS := setKy x y d r S
def kD2 (c : Cfg) (i : E) (d : D) (r : Env) (x : D) (S : Store) : RsS := (evE c i r S).thenS r (kD3 x d r)
def kD1 (c : Cfg) (o i : E) (r : Env) (d : D) (S : Store) : RsS := (evE c o r S).thenS r (kD2 c i d r)
@[simp] theorem kD3_eq {x d y : D} {r : Env} : kD3 x d r y S = setKy x y d r S := rfl
@[simp] theorem kD2_eq {i : E} {d y : D} {x : Option D} {t : Env} : kD2 c i d (x :: t) y S = (evE c i (x :: t) S).thenS (x :: t) (kD3 y d (x :: t)) := rfl
@[simp] theorem kD1_eq {o i : E} {d : D} {x : Option D} {t : Env} : kD1 c o i (x :: t) d S = (evE c o (x :: t) S).thenS (x :: t) (kD2 c i d (x :: t)) := rfl
@[simp] theorem r_asgD {o i e : E} {n0 : Nat} {x : Option D} {t : Env} : evS c (.asgD o i e) n0 (x :: t) S = (evE c e (x :: t) S).thenS (x :: t) (kD1 c o i (x :: t)) := by rw [evS]; rfl
def kEx (r : Env) (_ : D) (S : Store) : RsS := .nx r S
@[simp] theorem kEx_eq {r : Env} {d : D} : kEx r d S = .nx r S := rfl
@[simp] theorem r_ex {e : E} {n0 : Nat} {x : Option D} {t : Env} : evS c (.ex e) n0 (x :: t) S = (evE c e (x :: t) S).thenS (x :: t) (kEx (x :: t)) := by rw [evS]; rfl
def kRet (r : Env) (d : D) (S : Store) : RsS := .rt d r S
@[simp] theorem kRet_eq {r : Env} {d : D} : kRet r d S = .rt d r S := rfl
@[simp] theorem r_ret {e : E} {n0 : Nat} {x : Option D} {t : Env} : evS c (.ret e) n0 (x :: t) S = (evE c e (x :: t) S).thenS (x :: t) (kRet (x :: t)) := by rw [evS]; rfl
@[simp] theorem r_retN {n0 : Nat} {r : Env} : evS c .retN n0 r S = .rt .non r S := by rw [evS]
def kIf (c : Cfg) (a b : Sts) (n0 : Nat) (r : Env) (z : Bool) (S : Store) : RsS := match z with
  | true => evSs c a n0 r S
  | false => evSs c b n0 r S
@[simp] theorem kIf_t {a b : Sts} {n0 : Nat} {r : Env} : kIf c a b n0 r true S = evSs c a n0 r S := rfl
@[simp] theorem kIf_f {a b : Sts} {n0 : Nat} {r : Env} : kIf c a b n0 r false S = evSs c b n0 r S := rfl
@[simp] theorem r_if {z : E} {a b : Sts} {n0 : Nat} {x : Option D} {t : Env} : evS c (.ite z a b) n0 (x :: t) S = (evT c z (x :: t) S).thenB (x :: t) (kIf c a b n0 (x :: t)) := by rw [evS]; rfl
@[simp] theorem r_pass {n0 : Nat} {r : Env} : evS c .pass n0 r S = .nx r S := by rw [evS]
@[simp] theorem r_brk {n0 : Nat} {r : Env} : evS c .brk n0 r S = .bk r S := by rw [evS]
@[simp] theorem r_cont {n0 : Nat} {r : Env} : evS c .cont n0 r S = .ct r S := by rw [evS]
def forBody (c : Cfg) (t : Tg) (b : Sts) (n0 : Nat) (x : D) (r : Env) (S : Store) : RsS := match setT t x r with
  | some r' => evSs c b n0 r' S
  | none => .bad
theorem r_for {t : Tg} {src : Src} {b : Sts} {n0 : Nat} {r : Env} {ds : List D} {g : Guard} {S1 : Store} (h : evSrc c src r S = .ok (ds, g) S1) : evS c (.for t src b) n0 r S = forLoop g (forBody c t b S1.length) ds r S1 := by
  rw [evS, h]; rfl
theorem r_while {z : E} {b : Sts} {n0 : Nat} {r : Env} : evS c (.while z b) n0 r S = whileLoop (fun r' S' => evT c z r' S') (fun r' S' => evSs c b S.length r' S') c.w r S := by rw [evS]
/-! what a def hands back -/
@[simp] theorem leave_rt {S0 : Store} {d : D} {r : Env} : leave false S0 (.rt d r S) = .ok d S := rfl
@[simp] theorem leave_rtf {S0 : Store} {d : D} {r : Env} : leave true S0 (.rt d r S) = freezeR S0 d S := rfl
@[simp] theorem leave_nx {S0 : Store} {r : Env} : leave false S0 (.nx r S) = .ok .non S := rfl
@[simp] theorem leave_nxf {S0 : Store} {r : Env} : leave true S0 (.nx r S) = freezeR S0 .non S := rfl
/-! operations by their values -/
def kOpt (o : Option D) (S : Store) : Rs D := match o with
  | some v => .ok v S
  | none => .bad
@[simp] theorem kOpt_s {v : D} : kOpt (some v) S = .ok v S := rfl
def kAt (xs : List D) (i : Int) (S : Store) : Rs D := match place xs.length i with
  | some k => kOpt xs[k]? S
  | none => .bad
theorem kAt_nn {xs : List D} {i : Int} (h : 0 ≤ i) : kAt xs i S = kOpt xs[i.toNat]? S := by
  unfold kAt place
  rw [if_pos h]
  by_cases q : i < (xs.length : Int)
  · rw [if_pos q]
  · rw [if_neg q, List.getElem?_eq_none (by omega)]; rfl
@[simp] theorem kAt_nat {xs : List D} {k : Nat} : kAt xs (k : Int) S = kOpt xs[k]? S := by rw [kAt_nn (by omega)]; simp
@[simp] theorem kAt_0 {xs : List D} : kAt xs 0 S = kOpt xs[0]? S := kAt_nat (k := 0)
@[simp] theorem kAt_1 {xs : List D} : kAt xs 1 S = kOpt xs[1]? S := kAt_nat (k := 1)
@[simp] theorem kAt_2 {xs : List D} : kAt xs 2 S = kOpt xs[2]? S := kAt_nat (k := 2)
@[simp] theorem kAt_3 {xs : List D} : kAt xs 3 S = kOpt xs[3]? S := kAt_nat (k := 3)
@[simp] theorem kAt_4 {xs : List D} : kAt xs 4 S = kOpt xs[4]? S := kAt_nat (k := 4)
@[simp] theorem ix_lst {xs : List D} {i : Int} : ev2 .ix (.lst xs) (.int i) S = kAt xs i S := rfl
@[simp] theorem ix_tup {xs : List D} {i : Int} : ev2 .ix (.tup xs) (.int i) S = kAt xs i S := rfl
def kIxO (o : Option Obj) (i : Int) (S : Store) : Rs D := match o with
  | some (.lst xs) => kAt xs i S
  | _ => .bad
@[simp] theorem kIxO_l {xs : List D} {i : Int} : kIxO (some (.lst xs)) i S = kAt xs i S := rfl
@[simp] theorem ix_ref {n : Nat} {i : Int} : ev2 .ix (.ref n) (.int i) S = kIxO S[n]? i S := by
  simp only [ev2, evIx, items]
  unfold kIxO kAt kOpt
  cases S[n]? with
  | none => rfl
  | some o => cases o <;> rfl
@[simp] theorem add_int {m : Bool} {i j : Int} : ev2 (.add m) (.int i) (.int j) S = .ok (.int (i + j)) S := rfl
@[simp] theorem sub_int {i j : Int} : ev2 .sub (.int i) (.int j) S = .ok (.int (i - j)) S := rfl
@[simp] theorem mul_int {m : Bool} {i j : Int} : ev2 (.mul m) (.int i) (.int j) S = if wide i || wide j then .ok (.int (i * j)) S else .bad := rfl
@[simp] theorem div_int {i j : Int} : ev2 .div (.int i) (.int j) S = if 0 < j ∧ j < 1000000000000000000000000 then .ok (.int (i / j)) S else .bad := rfl
@[simp] theorem mod_int {i j : Int} : ev2 .mod (.int i) (.int j) S = if 0 < j then .ok (.int (i % j)) S else .bad := rfl
@[simp] theorem pow_int {i j : Int} : ev2 .pow (.int i) (.int j) S = if 0 ≤ j ∧ j ≤ 1000 ∧ wide i then .ok (.int (i ^ j.toNat)) S else .bad := rfl
@[simp] theorem lt_int {i j : Int} : ev2 .lt (.int i) (.int j) S = .ok (.bl (decide (i < j))) S := rfl
@[simp] theorem le_int {i j : Int} : ev2 .le (.int i) (.int j) S = .ok (.bl (decide (i ≤ j))) S := rfl
@[simp] theorem gt_int {i j : Int} : ev2 .gt (.int i) (.int j) S = .ok (.bl (decide (j < i))) S := rfl
@[simp] theorem ge_int {i j : Int} : ev2 .ge (.int i) (.int j) S = .ok (.bl (decide (j ≤ i))) S := rfl
@[simp] theorem min_int {i j : Int} : ev2 .min (.int i) (.int j) S = .ok (.int (if j < i then j else i)) S := rfl
@[simp] theorem max_int {i j : Int} : ev2 .max (.int i) (.int j) S = .ok (.int (if j > i then j else i)) S := rfl
theorem flat_int {i : Int} : flatD S (.int i) = some (.int i) := rfl
@[simp] theorem eq_int {i j : Int} : ev2 .eq (.int i) (.int j) S = .ok (.bl (i == j)) S := rfl
@[simp] theorem ne_int {i j : Int} : ev2 .ne (.int i) (.int j) S = .ok (.bl (!(i == j))) S := rfl
@[simp] theorem len_lst {xs : List D} : ev1 .len (.lst xs) S = .ok (.int (xs.length : Nat)) S := rfl
@[simp] theorem len_tup {xs : List D} : ev1 .len (.tup xs) S = .ok (.int (xs.length : Nat)) S := rfl
def kLen (o : Option Obj) (S : Store) : Rs D := match o with
  | some (.lst xs) => .ok (.int (xs.length : Nat)) S
  | some (.dic ks _) => .ok (.int (ks.length : Nat)) S
  | _ => .bad
@[simp] theorem kLen_l {xs : List D} : kLen (some (.lst xs)) S = .ok (.int (xs.length : Nat)) S := rfl
@[simp] theorem len_ref {n : Nat} : ev1 .len (.ref n) S = kLen S[n]? S := by
  simp only [ev1, lenD, items, dictOf]
  unfold kLen
  cases S[n]? with
  | none => rfl
  | some o => cases o <;> rfl
def kSet (o : Option Obj) (n : Nat) (i : Int) (d : D) (r : Env) (S : Store) : RsS := match o with
  | some (.lst xs) => (match place xs.length i with
    | some p => .nx r (S.set n (.lst (xs.set p d)))
    | none => .bad)
  | _ => .bad
@[simp] theorem set_ref {n : Nat} {i : Int} {d : D} {r : Env} : setIx (.ref n) (.int i) d r S = kSet S[n]? n i d r S := by
  simp only [setIx]
  unfold kSet
  cases S[n]? with
  | none => rfl
  | some o => cases o <;> rfl
theorem kSet_nn {xs : List D} {n : Nat} {i : Int} {d : D} {r : Env} (h : 0 ≤ i) (h2 : i < xs.length) : kSet (some (.lst xs)) n i d r S = .nx r (S.set n (.lst (xs.set i.toNat d))) := by
  simp [kSet, place, h, h2]
@[simp] theorem kSet_nat {xs : List D} {n k : Nat} {d : D} {r : Env} : kSet (some (.lst xs)) n (k : Int) d r S = if k < xs.length then .nx r (S.set n (.lst (xs.set k d))) else .bad := by
  by_cases h : k < xs.length
  · rw [if_pos h, kSet_nn (by omega) (by omega)]; simp
  · rw [if_neg h]; simp [kSet, place, h]
@[simp] theorem kSet_0 {xs : List D} {n : Nat} {d : D} {r : Env} : kSet (some (.lst xs)) n 0 d r S = if 0 < xs.length then .nx r (S.set n (.lst (xs.set 0 d))) else .bad := kSet_nat (k := 0)
@[simp] theorem kSet_1 {xs : List D} {n : Nat} {d : D} {r : Env} : kSet (some (.lst xs)) n 1 d r S = if 1 < xs.length then .nx r (S.set n (.lst (xs.set 1 d))) else .bad := kSet_nat (k := 1)
@[simp] theorem kSet_2 {xs : List D} {n : Nat} {d : D} {r : Env} : kSet (some (.lst xs)) n 2 d r S = if 2 < xs.length then .nx r (S.set n (.lst (xs.set 2 d))) else .bad := kSet_nat (k := 2)
def kApp (o : Option Obj) (n : Nat) (d : D) (S : Store) : Rs D := match o with
  | some (.lst xs) => if xs.length < line then .ok .non (S.set n (.lst (xs ++ [d]))) else .bad
  | _ => .bad
@[simp] theorem app_ref {n : Nat} {d : D} : ev2 .app (.ref n) d S = kApp S[n]? n d S := by
  simp only [ev2]
  unfold kApp
  cases S[n]? with
  | none => rfl
  | some o => cases o <;> rfl
@[simp] theorem kApp_l {xs : List D} {n : Nat} {d : D} : kApp (some (.lst xs)) n d S = if xs.length < line then .ok .non (S.set n (.lst (xs ++ [d]))) else .bad := rfl
@[simp] theorem recv_ref {o : B2} {n : Nat} : recvOk .app S (.ref n) = (items S (.ref n)).isSome := rfl
@[simp] theorem recv_popa {n : Nat} : recvOk .popa S (.ref n) = (items S (.ref n)).isSome := rfl
def kItems (o : Option Obj) : Option (List D) := match o with
  | some (.lst xs) => some xs
  | _ => none
@[simp] theorem kItems_l {xs : List D} : kItems (some (.lst xs)) = some xs := rfl
@[simp] theorem items_ref {n : Nat} : items S (.ref n) = kItems S[n]? := by
  simp only [items]
  unfold kItems
  cases S[n]? with
  | none => rfl
  | some o => cases o <;> rfl
@[simp] theorem items_lst {xs : List D} : items S (.lst xs) = some xs := rfl

/-! ### values that stand alone -/
mutual
theorem low_of0 : ∀ (n : Nat) (d : D), d.low 0 = true → d.low n = true
  | n, .non, _ => rfl
  | n, .bl _, _ => rfl
  | n, .int _, _ => rfl
  | n, .str _, _ => rfl
  | n, .scr _, _ => rfl
  | n, .tup xs, q => by simp only [D.low] at q ⊢; exact lows_of0 n xs q
  | n, .lst xs, q => by simp only [D.low] at q ⊢; exact lows_of0 n xs q
  | n, .dic ks vs, q => by simp only [D.low, Bool.and_eq_true] at q ⊢; exact ⟨lows_of0 n ks q.1, lows_of0 n vs q.2⟩
  | n, .ref k, q => by simp [D.low] at q
theorem lows_of0 : ∀ (n : Nat) (ds : List D), D.lows 0 ds = true → D.lows n ds = true
  | n, [], _ => rfl
  | n, d :: ds, q => by simp only [D.lows, Bool.and_eq_true] at q ⊢; exact ⟨low_of0 n d q.1, lows_of0 n ds q.2⟩
end
theorem lows_all {n : Nat} : ∀ {ds : List D}, D.lows n ds = true ↔ ∀ d ∈ ds, d.low n = true
  | [] => by simp [D.lows]
  | d :: ds => by simp [D.lows, lows_all (ds := ds)]
/-! numbers that count -/
def dN (n : Nat) : D := .int n
@[simp] theorem dN_eq {a b : Nat} : dN a = dN b ↔ a = b := by
  unfold dN
  rw [D.int.injEq]
  omega
@[simp] theorem l_add {m : Bool} {n : Nat} {y : D} : ev2 (.add m) (dN n) y S = ev2 (.add m) (.int n) y S := rfl
@[simp] theorem g_add {m : Bool} {n : Nat} {x : D} : ev2 (.add m) x (dN n) S = ev2 (.add m) x (.int n) S := rfl
@[simp] theorem l_sub {n : Nat} {y : D} : ev2 .sub (dN n) y S = ev2 .sub (.int n) y S := rfl
@[simp] theorem g_sub {n : Nat} {x : D} : ev2 .sub x (dN n) S = ev2 .sub x (.int n) S := rfl
@[simp] theorem l_mul {m : Bool} {n : Nat} {y : D} : ev2 (.mul m) (dN n) y S = ev2 (.mul m) (.int n) y S := rfl
@[simp] theorem g_mul {m : Bool} {n : Nat} {x : D} : ev2 (.mul m) x (dN n) S = ev2 (.mul m) x (.int n) S := rfl
@[simp] theorem l_div {n : Nat} {y : D} : ev2 .div (dN n) y S = ev2 .div (.int n) y S := rfl
@[simp] theorem g_div {n : Nat} {x : D} : ev2 .div x (dN n) S = ev2 .div x (.int n) S := rfl
@[simp] theorem l_mod {n : Nat} {y : D} : ev2 .mod (dN n) y S = ev2 .mod (.int n) y S := rfl
@[simp] theorem g_mod {n : Nat} {x : D} : ev2 .mod x (dN n) S = ev2 .mod x (.int n) S := rfl
@[simp] theorem l_lt {n : Nat} {y : D} : ev2 .lt (dN n) y S = ev2 .lt (.int n) y S := rfl
@[simp] theorem g_lt {n : Nat} {x : D} : ev2 .lt x (dN n) S = ev2 .lt x (.int n) S := rfl
@[simp] theorem l_le {n : Nat} {y : D} : ev2 .le (dN n) y S = ev2 .le (.int n) y S := rfl
@[simp] theorem g_le {n : Nat} {x : D} : ev2 .le x (dN n) S = ev2 .le x (.int n) S := rfl
@[simp] theorem l_gt {n : Nat} {y : D} : ev2 .gt (dN n) y S = ev2 .gt (.int n) y S := rfl
@[simp] theorem g_gt {n : Nat} {x : D} : ev2 .gt x (dN n) S = ev2 .gt x (.int n) S := rfl
@[simp] theorem l_ge {n : Nat} {y : D} : ev2 .ge (dN n) y S = ev2 .ge (.int n) y S := rfl
@[simp] theorem g_ge {n : Nat} {x : D} : ev2 .ge x (dN n) S = ev2 .ge x (.int n) S := rfl
@[simp] theorem l_eq {n : Nat} {y : D} : ev2 .eq (dN n) y S = ev2 .eq (.int n) y S := rfl
@[simp] theorem g_eq {n : Nat} {x : D} : ev2 .eq x (dN n) S = ev2 .eq x (.int n) S := rfl
@[simp] theorem l_ne {n : Nat} {y : D} : ev2 .ne (dN n) y S = ev2 .ne (.int n) y S := rfl
@[simp] theorem g_ne {n : Nat} {x : D} : ev2 .ne x (dN n) S = ev2 .ne x (.int n) S := rfl
@[simp] theorem l_min {n : Nat} {y : D} : ev2 .min (dN n) y S = ev2 .min (.int n) y S := rfl
@[simp] theorem g_min {n : Nat} {x : D} : ev2 .min x (dN n) S = ev2 .min x (.int n) S := rfl
@[simp] theorem l_max {n : Nat} {y : D} : ev2 .max (dN n) y S = ev2 .max (.int n) y S := rfl
@[simp] theorem g_max {n : Nat} {x : D} : ev2 .max x (dN n) S = ev2 .max x (.int n) S := rfl
@[simp] theorem g_ix {n : Nat} {x : D} : ev2 .ix x (dN n) S = ev2 .ix x (.int n) S := rfl
@[simp] theorem g_popa {n : Nat} {x : D} : ev2 .popa x (dN n) S = ev2 .popa x (.int n) S := rfl
@[simp] theorem g_set {n : Nat} {x d : D} {r : Env} : setIx x (dN n) d r S = setIx x (.int n) d r S := rfl
theorem dN_low {n k : Nat} : (dN k).low n = true := rfl
theorem ints_dN : ∀ xs : List Nat, intsOf (xs.map dN) = some (xs.map fun n : Nat => (n : Int))
  | [] => rfl
  | x :: xs => by simp [dN, intsOf, ints_dN xs]
theorem ints_int : ∀ xs : List Int, intsOf (xs.map .int) = some xs
  | [] => rfl
  | x :: xs => by simp [intsOf, ints_int xs]
theorem bools_bl : ∀ xs : List Bool, boolsOf (xs.map .bl) = some xs
  | [] => rfl
  | x :: xs => by simp [boolsOf, bools_bl xs]
theorem lows_dN {n : Nat} (xs : List Nat) : D.lows n (xs.map dN) = true := lows_all.mpr fun d hd => by
  obtain ⟨k, _, rfl⟩ := List.mem_map.mp hd
  rfl
theorem lows_int {n : Nat} (xs : List Int) : D.lows n (xs.map .int) = true := lows_all.mpr fun d hd => by
  obtain ⟨k, _, rfl⟩ := List.mem_map.mp hd
  rfl
theorem insI_mem {x : Int} : ∀ {l : List Int} {y : Int}, y ∈ insI x l ↔ y = x ∨ y ∈ l
  | [], y => by simp [insI]
  | z :: l, y => by
    unfold insI
    split
    · simp
    · simp only [List.mem_cons, insI_mem (l := l)]
      constructor <;> (rintro (h | h | h) <;> simp [h])
theorem sortI_mem : ∀ {l : List Int} {y : Int}, y ∈ sortI l ↔ y ∈ l
  | [], y => by simp [sortI]
  | z :: l, y => by rw [sortI, insI_mem, sortI_mem (l := l), List.mem_cons]
theorem insI_len {x : Int} : ∀ {l : List Int}, (insI x l).length = l.length + 1
  | [] => rfl
  | z :: l => by
    unfold insI
    split
    · rfl
    · simp [insI_len (l := l)]
theorem sortI_len : ∀ {l : List Int}, (sortI l).length = l.length
  | [] => rfl
  | z :: l => by rw [sortI, insI_len, sortI_len (l := l)]; rfl
/-- what is sorted of counting numbers is such a list -/
theorem sort_dN (xs : List Nat) : ∃ ys : List Nat, ev1 .sort (.lst (xs.map dN)) S = .ok (.lst (ys.map dN)) S ∧ ys.length = xs.length ∧ ∀ y, y ∈ ys ↔ y ∈ xs := by
  have hs : ∀ i ∈ sortI (xs.map fun n : Nat => (n : Int)), ((i.toNat : Nat) : Int) = i := fun i hi => by
    obtain ⟨n, _, rfl⟩ := List.mem_map.mp (sortI_mem.mp hi)
    simp
  refine ⟨(sortI (xs.map fun n : Nat => (n : Int))).map Int.toNat, ?_, by simp [sortI_len], fun y => ?_⟩
  · simp only [ev1, items_lst, ints_dN]
    congr 2
    rw [List.map_map]
    refine (List.map_congr_left fun i hi => ?_)
    simp only [Function.comp, dN]
    rw [hs i hi]
  · rw [List.mem_map]
    constructor
    · rintro ⟨i, hi, rfl⟩
      obtain ⟨n, hn, rfl⟩ := List.mem_map.mp (sortI_mem.mp hi)
      simpa using hn
    · intro hy
      exact ⟨y, sortI_mem.mpr (List.mem_map.mpr ⟨y, hy, rfl⟩), by simp⟩
def kPopa (o : Option Obj) (n : Nat) (i : Int) (S : Store) : Rs D := match o with
  | some (.lst xs) => if 0 ≤ i ∧ i < xs.length then (match xs[i.toNat]? with
    | some y => .ok y (S.set n (.lst (xs.eraseIdx i.toNat)))
    | none => .bad) else .bad
  | _ => .bad
@[simp] theorem popa_ref {n : Nat} {i : Int} : ev2 .popa (.ref n) (.int i) S = kPopa S[n]? n i S := by
  simp only [ev2]
  unfold kPopa
  cases S[n]? with
  | none => rfl
  | some o => cases o <;> rfl
theorem kPopa_at {xs : List D} {n : Nat} {i : Int} {y : D} (h : 0 ≤ i) (h2 : i < xs.length) (e : xs[i.toNat]? = some y) : kPopa (some (.lst xs)) n i S = .ok y (S.set n (.lst (xs.eraseIdx i.toNat))) := by
  simp only [kPopa, h, h2, and_self, if_true, e]
def kKey (o : Option Obj) (n : Nat) (y d : D) (r : Env) (S : Store) : RsS := match o with
  | some (.dic ks vs) => if keyOk y = true ∧ ks.length < line then .nx r (S.set n (.dic (dput y d ks vs).1 (dput y d ks vs).2)) else .bad
  | _ => .bad
@[simp] theorem key_ref {n : Nat} {y d : D} {r : Env} : setKy (.ref n) y d r S = kKey S[n]? n y d r S := by
  simp only [setKy]
  unfold kKey
  cases S[n]? with
  | none => rfl
  | some o => cases o <;> rfl
theorem kKey_new {ks vs : List D} {n : Nat} {y d : D} {r : Env} (h : keyOk y = true) (h2 : ks.length < line) (h3 : y ∉ ks) : kKey (some (.dic ks vs)) n y d r S = .nx r (S.set n (.dic (ks ++ [y]) (vs ++ [d]))) := by
  have : ks.any (fun a => decide (a = y)) = false := by
    rw [List.any_eq_false]
    intro a ha
    simp only [decide_eq_true_eq]
    rintro rfl
    exact h3 ha
  simp [kKey, h, h2, dput, this]
def kDict (o : Option Obj) : Option (List D × List D) := match o with
  | some (.dic ks vs) => some (ks, vs)
  | _ => none
@[simp] theorem kDict_d {ks vs : List D} : kDict (some (.dic ks vs)) = some (ks, vs) := rfl
@[simp] theorem dict_ref {n : Nat} : dictOf S (.ref n) = kDict S[n]? := by
  simp only [dictOf]
  unfold kDict
  cases S[n]? with
  | none => rfl
  | some o => cases o <;> rfl
def kIxd (o : Option Obj) (y : D) (S : Store) : Rs D := match o with
  | some (.dic ks vs) => if keyOk y then kOpt (dget y ks vs) S else .bad
  | _ => .bad
@[simp] theorem ixd_ref {n : Nat} {y : D} : ev2 .ixd (.ref n) y S = kIxd S[n]? y S := by
  simp only [ev2, evIxD, dict_ref]
  unfold kIxd kDict kOpt
  cases S[n]? with
  | none => rfl
  | some o => cases o <;> rfl
theorem kIxd_d {ks vs : List D} {y v : D} (h : keyOk y = true) (e : dget y ks vs = some v) : kIxd (some (.dic ks vs)) y S = .ok v S := by
  simp [kIxd, h, e]
theorem range_len {n : Nat} : (rangeD 0 (n : Int)).length = n := by simp [rangeD]
theorem range_get {n i : Nat} {x : D} (h : (rangeD 0 (n : Int))[i]? = some x) : x = dN i ∧ i < n := by
  have hi : i < n := by
    have := (List.getElem?_eq_some_iff.mp h).1
    rwa [range_len] at this
  refine ⟨?_, hi⟩
  unfold rangeD at h
  rw [List.getElem?_map] at h
  obtain ⟨j, hj, rfl⟩ := Option.map_eq_some_iff.mp h
  obtain ⟨_, ej⟩ := List.getElem?_eq_some_iff.mp hj
  rw [List.getElem_range] at ej
  subst ej
  simp [dN]
theorem dget_dN {A : List (Nat × List Nat)} {k : Nat} {v : List Nat} (hn : (A.map (·.1)).Nodup) (h : (k, v) ∈ A) : dget (dN k) (A.map fun p => dN p.1) (A.map fun p => D.lst (p.2.map dN)) = some (.lst (v.map dN)) := by
  induction A with
  | nil => cases h
  | cons p A ih =>
    simp only [List.map_cons, List.nodup_cons] at hn
    unfold dget at ih ⊢
    simp only [List.map_cons, List.zip_cons_cons, List.find?_cons, dN_eq]
    by_cases e : p.1 = k
    · subst e
      rcases List.mem_cons.mp h with h | h
      · rw [← h]; simp
      · exact absurd (List.mem_map.mpr ⟨_, h, rfl⟩) hn.1
    · rcases List.mem_cons.mp h with h | h
      · rw [← h] at e; exact absurd rfl e
      · rw [decide_eq_false e]; exact ih hn.2 h

/-! ### loops -/
theorem forLoop_run {g : Guard} {f : D → Env → Store → RsS} {ds : List D} (I : Nat → Env → Store → Prop) (st : ∀ i r S, i ≤ ds.length → I i r S → stands g S = true)
    (h : ∀ i x r S, ds[i]? = some x → I i r S → ∃ r' S', (f x r S = .nx r' S' ∨ f x r S = .ct r' S') ∧ I (i + 1) r' S') {r : Env} {S : Store} (h0 : I 0 r S) : ∃ r' S', forLoop g f ds r S = .nx r' S' ∧ I ds.length r' S' := by
  have key : ∀ (n i : Nat) (r : Env) (S : Store), ds.length - i = n → i ≤ ds.length → I i r S → ∃ r' S', forLoop g f (ds.drop i) r S = .nx r' S' ∧ I ds.length r' S' := by
    intro n
    induction n with
    | zero =>
      intro i r S hn hi hI
      have e : i = ds.length := by omega
      subst e
      refine ⟨r, S, ?_, hI⟩
      rw [List.drop_length, forLoop, if_pos (st _ _ _ hi hI)]
    | succ n ih =>
      intro i r S hn hi hI
      have hlt : i < ds.length := by omega
      rw [List.drop_eq_getElem_cons hlt, forLoop, if_pos (st _ _ _ hi hI)]
      obtain ⟨r', S', e, hI'⟩ := h i _ r S (List.getElem?_eq_getElem hlt) hI
      rcases e with e | e <;> rw [e] <;> exact ih (i + 1) r' S' (by omega) hlt hI'
  have := key ds.length 0 r S (by omega) (Nat.zero_le _) h0
  simpa using this
/-- a walk that ends in a value, or goes on -/
theorem forLoop_ret {g : Guard} {f : D → Env → Store → RsS} {ds : List D} (I : Nat → Env → Store → Prop) (Z : RsS → Prop) (st : ∀ i r S, i ≤ ds.length → I i r S → stands g S = true) (hz : ∀ r S, I ds.length r S → Z (.nx r S))
    (h : ∀ i x r S, ds[i]? = some x → I i r S → (∃ r' S', (f x r S = .nx r' S' ∨ f x r S = .ct r' S') ∧ I (i + 1) r' S') ∨ (∃ d r' S', f x r S = .rt d r' S' ∧ Z (.rt d r' S'))) {r : Env} {S : Store} (h0 : I 0 r S) : Z (forLoop g f ds r S) := by
  have key : ∀ (n i : Nat) (r : Env) (S : Store), ds.length - i = n → i ≤ ds.length → I i r S → Z (forLoop g f (ds.drop i) r S) := by
    intro n
    induction n with
    | zero =>
      intro i r S hn hi hI
      have e : i = ds.length := by omega
      subst e
      rw [List.drop_length, forLoop, if_pos (st _ _ _ hi hI)]
      exact hz r S hI
    | succ n ih =>
      intro i r S hn hi hI
      have hlt : i < ds.length := by omega
      rw [List.drop_eq_getElem_cons hlt, forLoop, if_pos (st _ _ _ hi hI)]
      rcases h i _ r S (List.getElem?_eq_getElem hlt) hI with ⟨r', S', e, hI'⟩ | ⟨d, r', S', e, z⟩
      · rcases e with e | e <;> rw [e] <;> exact ih (i + 1) r' S' (by omega) hlt hI'
      · rw [e]; exact z
  have := key ds.length 0 r S (by omega) (Nat.zero_le _) h0
  simpa using this
theorem whileLoop_run {t : Env → Store → Rs Bool} {f : Env → Store → RsS} (I : Nat → Env → Store → Prop) (Z : Env → Store → Prop)
    (h : ∀ m r S, I m r S → (∃ S1, t r S = .ok false S1 ∧ Z r S1) ∨ (∃ S1 r' S', t r S = .ok true S1 ∧ (f r S1 = .nx r' S' ∨ f r S1 = .ct r' S') ∧ ∃ m', m' < m ∧ I m' r' S')) : ∀ (n m : Nat) (r : Env) (S : Store), m < n → I m r S → ∃ r' S', whileLoop t f n r S = .nx r' S' ∧ Z r' S'
  | 0, m, _, _, hm, _ => absurd hm (Nat.not_lt_zero _)
  | n + 1, m, r, S, hm, hI => by
    rw [whileLoop]
    rcases h m r S hI with ⟨S1, e, z⟩ | ⟨S1, r', S', e, e2, m', hm', hI'⟩
    · rw [e]; exact ⟨r, S1, rfl, z⟩
    · rw [e]
      rcases e2 with e2 | e2 <;> simp only [Rs.thenB_ok, if_true, e2] <;> exact whileLoop_run I Z h n m' r' S' (by omega) hI'
theorem compLoop_run {g : Guard} {n : Nat} {f : D → Store → Rs (Option D)} {ds : List D} (I : Nat → Store → Prop) (st : ∀ i S, i ≤ ds.length → I i S → stands g S = true)
    (h : ∀ i x S, ds[i]? = some x → I i S → (∃ y acc S', f x S = .ok (some y) S' ∧ S'[n]? = some (.lst acc) ∧ acc.length < line ∧ I (i + 1) (S'.set n (.lst (acc ++ [y])))) ∨ (∃ S', f x S = .ok none S' ∧ I (i + 1) S')) {S : Store} (h0 : I 0 S) :
    ∃ S', compLoop g n f ds S = .ok () S' ∧ I ds.length S' := by
  have key : ∀ (m i : Nat) (S : Store), ds.length - i = m → i ≤ ds.length → I i S → ∃ S', compLoop g n f (ds.drop i) S = .ok () S' ∧ I ds.length S' := by
    intro m
    induction m with
    | zero =>
      intro i S hn hi hI
      have e : i = ds.length := by omega
      subst e
      exact ⟨S, by rw [List.drop_length, compLoop, if_pos (st _ _ hi hI)], hI⟩
    | succ m ih =>
      intro i S hn hi hI
      have hlt : i < ds.length := by omega
      rw [List.drop_eq_getElem_cons hlt, compLoop, if_pos (st _ _ hi hI)]
      rcases h i _ S (List.getElem?_eq_getElem hlt) hI with ⟨y, acc, S', e, e2, hl, hI'⟩ | ⟨S', e, hI'⟩
      · rw [e]
        simp only [Rs.bind_ok, e2, if_pos hl]
        exact ih (i + 1) _ (by omega) hlt hI'
      · rw [e]
        exact ih (i + 1) _ (by omega) hlt hI'
  have := key ds.length 0 S (by omega) (Nat.zero_le _) h0
  simpa using this

/-! ### freezing -/
theorem frz_low {n k : Nat} {S : Store} {d : D} (h : d.low n = true) : frzD n S k d = some d := by
  cases k <;> simp [frzD, h]
theorem frz_all {n k : Nat} {S : Store} {ds : List D} (h : D.lows n ds = true) : optList (ds.map (frzD n S k)) = some ds := by
  induction ds with
  | nil => rfl
  | cons d ds ih =>
    simp only [D.lows, Bool.and_eq_true] at h
    rw [List.map_cons, frz_low h.1, optList, ih h.2]
/-- a list of values of their own -/
theorem frz_ref {n k i : Nat} {S : Store} {xs : List D} (hi : n ≤ i) (e : S[i]? = some (.lst xs)) (h : D.lows n xs = true) : frzD n S (k + 1) (.ref i) = some (.lst xs) := by
  have : ¬ i < n := by omega
  rw [frzD, if_neg (by simpa [D.low] using this), frzStep]
  simp only [e, frz_all h, Option.map_some]
/-- a list of lists -/
theorem frz_refs {n k i : Nat} {S : Store} {is : List Nat} {xss : List (List D)} (hi : n ≤ i) (e : S[i]? = some (.lst (is.map .ref))) (hl : is.length = xss.length)
    (h : ∀ (j a : Nat) (xs : List D), is[j]? = some a → xss[j]? = some xs → n ≤ a ∧ S[a]? = some (.lst xs) ∧ D.lows n xs = true) : frzD n S (k + 2) (.ref i) = some (.lst (xss.map .lst)) := by
  have hin : ¬ i < n := by omega
  rw [frzD, if_neg (by simpa [D.low] using hin), frzStep]
  simp only [e]
  have key : ∀ (is : List Nat) (xss : List (List D)), is.length = xss.length → (∀ (j a : Nat) (xs : List D), is[j]? = some a → xss[j]? = some xs → n ≤ a ∧ S[a]? = some (.lst xs) ∧ D.lows n xs = true) → optList ((is.map D.ref).map (frzD n S (k + 1))) = some (xss.map .lst) := by
    intro is
    induction is with
    | nil => intro xss hl _; cases xss with
      | nil => rfl
      | cons _ _ => cases hl
    | cons a is ih =>
      intro xss hl h
      cases xss with
      | nil => cases hl
      | cons xs xss =>
        obtain ⟨h1, h2, h3⟩ := h 0 a xs rfl rfl
        simp only [List.map_cons]
        rw [frz_ref h1 h2 h3, optList, ih xss (by simpa using hl) fun j a' xs' e1 e2 => h (j + 1) a' xs' (by simpa using e1) (by simpa using e2)]
  rw [key is xss hl h, Option.map_some]
theorem clean_app (S X : Store) : cleanS S (S ++ X) = true := by
  unfold cleanS
  rw [Bool.and_eq_true, decide_eq_true_eq, List.all_eq_true]
  refine ⟨by simp, fun p hp => ?_⟩
  obtain ⟨i, hi⟩ := List.mem_iff_getElem?.mp hp
  obtain ⟨h1, h2⟩ := List.getElem?_zip_eq_some.mp hi
  rw [List.getElem?_append_left (List.getElem?_eq_some_iff.mp h1).1, h1] at h2
  simp [Option.some.inj h2]
theorem clean_head {o o' : Obj} {S X : Store} (h : o'.low (S.length + 1) = true) : cleanS (o :: S) (o' :: (S ++ X)) = true := by
  have q := clean_app S X
  unfold cleanS at q ⊢
  rw [Bool.and_eq_true, decide_eq_true_eq, List.all_eq_true] at q ⊢
  refine ⟨by simp, fun p hp => ?_⟩
  rw [List.zip_cons_cons, List.mem_cons] at hp
  rcases hp with rfl | hp
  · simp [h]
  · obtain ⟨i, hi⟩ := List.mem_iff_getElem?.mp hp
    obtain ⟨h1, h2⟩ := List.getElem?_zip_eq_some.mp hi
    rw [List.getElem?_append_left (List.getElem?_eq_some_iff.mp h1).1, h1] at h2
    simp [Option.some.inj h2]
theorem freeze_app {S X : Store} {d v : D} (h : frzD S.length (S ++ X) deepest d = some v) : freezeR S d (S ++ X) = .ok v S := by
  unfold freezeR
  rw [clean_app, if_pos rfl, h]
  simp
theorem freeze_head {o o' : Obj} {S X : Store} {d v : D} (h : o'.low (S.length + 1) = true) (e : frzD (S.length + 1) (o' :: (S ++ X)) deepest d = some v) : freezeR (o :: S) d (o' :: (S ++ X)) = .ok v (o' :: S) := by
  unfold freezeR
  rw [clean_head h, if_pos rfl, List.length_cons, e]
  simp

/-! ### comprehensions that change nothing -/
theorem comp_list {α : Type} {g : Guard} {f : D → Store → Rs (Option D)} {S : Store} {ys : List α} (q : α → D) (o : α → Option D) (st : ∀ acc, stands g (S ++ [.lst acc]) = true) (h : ∀ y ∈ ys, ∀ acc, f (q y) (S ++ [.lst acc]) = .ok (o y) (S ++ [.lst acc])) (hl : ys.length ≤ line) :
    compLoop g S.length f (ys.map q) (S ++ [.lst []]) = .ok () (S ++ [.lst (ys.filterMap o)]) := by
  have key := compLoop_run (g := g) (n := S.length) (f := f) (ds := ys.map q) (fun i S' => S' = S ++ [.lst ((ys.take i).filterMap o)]) (fun i S' _ e => by rw [e]; exact st _) (fun i x S' hx e => ?_) (S := S ++ [.lst []]) (by simp)
  · obtain ⟨S', e1, e2⟩ := key
    rw [e1, e2, List.length_map, List.take_length]
  · subst e
    rw [List.getElem?_map] at hx
    obtain ⟨y, hy, rfl⟩ := Option.map_eq_some_iff.mp hx
    have hm : y ∈ ys := List.mem_of_getElem? hy
    have hi : i < ys.length := (List.getElem?_eq_some_iff.mp hy).1
    have ht : ys.take (i + 1) = ys.take i ++ [y] := by
      rw [List.take_succ, hy]; rfl
    rw [h y hm]
    cases w : o y with
    | none => exact .inr ⟨_, rfl, by rw [ht, List.filterMap_append]; simp [w]⟩
    | some z =>
      refine .inl ⟨z, (ys.take i).filterMap o, _, rfl, by simp, ?_, ?_⟩
      · have h1 := List.length_filterMap_le o (ys.take i)
        have h2 : (ys.take i).length = i := by simp; omega
        omega
      · rw [ht, List.filterMap_append]
        simp [w]
/-- a comprehension that changes nothing -/
theorem kComp_pure {α : Type} {e : E} {t : Tg} {cond : Option Unit} {cd : E} {own : List Nat} {ys : List α} {g : Guard} (q : α → D) (o : α → Option D) (hl : ys.length ≤ line) (hw : ∀ y ∈ ys, ∀ z, o y = some z → z.low S.length = true)
    (h : ∀ y ∈ ys, ∀ acc, compBody t cond (fun r S => evE c e r S) (fun r S => evE c cd r S) (wipeE r own) (q y) (S ++ [.lst acc]) = .ok (o y) (S ++ [.lst acc])) (st : ∀ acc, stands g (S ++ [.lst acc]) = true) :
    kComp c false e t cond cd own r (ys.map q, g) S = .ok (.lst (ys.filterMap o)) S := by
  unfold kComp
  rw [comp_list q o st h hl]
  simp only [Rs.bind_ok, Bool.false_eq_true, if_false]
  refine freeze_app (frz_ref (Nat.le_refl _) (by simp) (lows_all.mpr fun d hd => ?_))
  obtain ⟨y, hy, e⟩ := List.mem_filterMap.mp hd
  exact hw y hy d e
theorem kComp_ref {α : Type} {e : E} {t : Tg} {cond : Option Unit} {cd : E} {own : List Nat} {ys : List α} {g : Guard} (q : α → D) (o : α → Option D) (hl : ys.length ≤ line)
    (h : ∀ y ∈ ys, ∀ acc, compBody t cond (fun r S => evE c e r S) (fun r S => evE c cd r S) (wipeE r own) (q y) (S ++ [.lst acc]) = .ok (o y) (S ++ [.lst acc])) (st : ∀ acc, stands g (S ++ [.lst acc]) = true) :
    kComp c true e t cond cd own r (ys.map q, g) S = .ok (.ref S.length) (S ++ [.lst (ys.filterMap o)]) := by
  unfold kComp
  rw [comp_list q o st h hl]
  rfl
theorem get_app {n : Nat} {o : Obj} (h : S[n]? = some o) (X : Store) : (S ++ X)[n]? = some o := by
  rw [List.getElem?_append_left (List.getElem?_eq_some_iff.mp h).1]
  exact h
@[simp] theorem natI_dN (n : Nat) : natI n = dN n := rfl
theorem sum_map_int (xs : List Int) : ev1 .sum (.lst (xs.map .int)) S = .ok (.int xs.sum) S := by
  simp only [ev1, items_lst, ints_int]
theorem all_map_bl (xs : List Bool) : ev1 .all (.lst (xs.map .bl)) S = .ok (.bl (xs.all id)) S := by
  simp only [ev1, items_lst, bools_bl]
theorem fm_some {α β : Type} (f : α → β) : ∀ xs : List α, xs.filterMap (fun x => some (f x)) = xs.map f
  | [] => rfl
  | x :: xs => by simp
theorem flat_low {d : D} (h : d.low 0 = true) (p : d.plain eqDepth = true) : flatD S d = some d := by
  unfold flatD
  rw [frz_low h]
  simp [p]
theorem plains_all {n : Nat} : ∀ {ds : List D}, D.plains n ds = true ↔ ∀ d ∈ ds, d.plain n = true
  | [] => by cases n <;> simp [D.plains]
  | d :: ds => by cases n <;> simp [D.plains, plains_all (ds := ds)]
theorem plains_dN {n : Nat} (xs : List Nat) : D.plains n (xs.map dN) = true := plains_all.mpr fun d hd => by
  obtain ⟨k, _, rfl⟩ := List.mem_map.mp hd
  cases n <;> rfl
theorem flat_dN (xs : List Nat) : flatD S (.lst (xs.map dN)) = some (.lst (xs.map dN)) := flat_low (lows_dN xs) (plains_dN (n := 59) xs)
theorem flat_nil : flatD S (.lst []) = some (.lst []) := flat_dN []
theorem eq_nil_dN (xs : List Nat) : ev2 .eq (.lst (xs.map dN)) (.lst []) S = .ok (.bl (decide (xs = []))) S := by
  simp only [ev2, evEq, strEq, flat_dN, flat_nil]
  cases xs <;> simp [D.eqv, D.eqvs]
theorem ne_nil_dN (xs : List Nat) : ev2 .ne (.lst (xs.map dN)) (.lst []) S = .ok (.bl (!decide (xs = []))) S := by
  simp only [ev2, evEq, strEq, flat_dN, flat_nil]
  cases xs <;> simp [D.eqv, D.eqvs]
theorem set_same {n : Nat} {o : Obj} (h : S[n]? = some o) : S.set n o = S := by
  refine List.ext_getElem? fun i => ?_
  by_cases e : n = i
  · subst e
    rw [List.getElem?_set_self (List.getElem?_eq_some_iff.mp h).1, h]
  · rw [List.getElem?_set_ne e]
@[simp] theorem ne_str {x y : List Nat} : ev2 .ne (.str x) (.str y) S = .ok (.bl (!(x == y))) S := rfl
@[simp] theorem eq_str {x y : List Nat} : ev2 .eq (.str x) (.str y) S = .ok (.bl (x == y)) S := rfl
theorem frz_key {n k : Nat} : ∀ (is : List Nat) (xss : List (List D)), is.length = xss.length → (∀ (j a : Nat) (xs : List D), is[j]? = some a → xss[j]? = some xs → n ≤ a ∧ S[a]? = some (.lst xs) ∧ D.lows n xs = true) → optList ((is.map D.ref).map (frzD n S (k + 1))) = some (xss.map .lst)
  | [], [], _, _ => rfl
  | [], _ :: _, h, _ => by cases h
  | _ :: _, [], h, _ => by cases h
  | a :: is, xs :: xss, hl, h => by
    obtain ⟨h1, h2, h3⟩ := h 0 a xs rfl rfl
    simp only [List.map_cons]
    rw [frz_ref h1 h2 h3, optList, frz_key is xss (by simpa using hl) fun j a' xs' e1 e2 => h (j + 1) a' xs' (by simpa using e1) (by simpa using e2)]
/-- a list by value, of lists in the store -/
theorem frz_lrefs {n k : Nat} {is : List Nat} {xss : List (List D)} (hl : is.length = xss.length) (h : ∀ (j a : Nat) (xs : List D), is[j]? = some a → xss[j]? = some xs → n ≤ a ∧ S[a]? = some (.lst xs) ∧ D.lows n xs = true) :
    frzD n S (k + 2) (.lst (is.map .ref)) = some (.lst (xss.map .lst)) := by
  rw [frzD]
  split
  · rename_i hlow
    cases is with
    | nil => cases xss with
      | nil => rfl
      | cons _ _ => cases hl
    | cons a is =>
      cases xss with
      | nil => cases hl
      | cons xs xss =>
        have := (h 0 a xs rfl rfl).1
        simp only [D.low, List.map_cons, D.lows, Bool.and_eq_true, decide_eq_true_eq] at hlow
        omega
  · rw [frzStep, frz_key is xss hl h, Option.map_some]
theorem cut_lo {α : Type} {xs : List α} {q : Nat} : cutL xs none (some (q : Int)) = xs.take q := by
  unfold cutL bound
  have : ¬ (q : Int) < 0 := by omega
  simp only [this, if_false, Int.toNat_natCast, List.drop_zero, Nat.sub_zero]
  rw [← List.take_eq_take_min]
theorem cut_hi {α : Type} {xs : List α} {q : Nat} : cutL xs (some ((q : Int) + 1)) none = xs.drop (q + 1) := by
  unfold cutL bound
  have h : ¬ (q : Int) + 1 < 0 := by omega
  have e : ((q : Int) + 1).toNat = q + 1 := by omega
  simp only [h, if_false, e]
  by_cases hq : q + 1 ≤ xs.length
  · rw [Nat.min_eq_left hq, List.take_of_length_le (by simp)]
  · rw [Nat.min_eq_right (by omega), List.drop_of_length_le (by omega), List.drop_of_length_le (by omega)]; simp
def kSlc (o : Option Obj) (m : Bool) (lo hi : Option Int) (S : Store) : Rs D := match o with
  | some (.lst xs) => newL m (cutL xs lo hi) S
  | _ => .bad
@[simp] theorem kSlc_l {xs : List D} {m : Bool} {lo hi : Option Int} : kSlc (some (.lst xs)) m lo hi S = newL m (cutL xs lo hi) S := rfl
@[simp] theorem slice_ref {n : Nat} {m : Bool} {lo hi : Option Int} : evSlice m (.ref n) lo hi S = kSlc S[n]? m lo hi S := by
  simp only [evSlice, items_ref]
  unfold kSlc kItems
  cases S[n]? with
  | none => rfl
  | some o => cases o <;> rfl
@[simp] theorem slice_lst {xs : List D} {m : Bool} {lo hi : Option Int} : evSlice m (.lst xs) lo hi S = newL m (cutL xs lo hi) S := rfl
@[simp] theorem add_lst {x y : List D} {m : Bool} : ev2 (.add m) (.lst x) (.lst y) S = newL m (x ++ y) S := rfl
def kPop (o : Option Obj) (n : Nat) (S : Store) : Rs D := match o with
  | some (.lst xs) => (match xs.getLast? with
    | some y => .ok y (S.set n (.lst xs.dropLast))
    | none => .bad)
  | _ => .bad
@[simp] theorem pop_ref {n : Nat} : ev1 .pop (.ref n) S = kPop S[n]? n S := by
  simp only [ev1]
  unfold kPop
  cases S[n]? with
  | none => rfl
  | some o => cases o <;> rfl
@[simp] theorem kPop_snoc {xs : List D} {y : D} {n : Nat} : kPop (some (.lst (xs ++ [y]))) n S = .ok y (S.set n (.lst xs)) := by
  simp [kPop]
def kClr (o : Option Obj) (n : Nat) (S : Store) : Rs D := match o with
  | some (.lst _) => .ok .non (S.set n (.lst []))
  | _ => .bad
@[simp] theorem clear_ref {n : Nat} : ev1 .clear (.ref n) S = kClr S[n]? n S := by
  simp only [ev1]
  unfold kClr
  cases S[n]? with
  | none => rfl
  | some o => cases o <;> rfl
@[simp] theorem kClr_l {xs : List D} {n : Nat} : kClr (some (.lst xs)) n S = .ok .non (S.set n (.lst [])) := rfl
def kTy (o : Option Obj) (ts : List Nat) (S : Store) : Rs D := match o with
  | some (.lst _) => .ok (.bl (isTy ts 5)) S
  | some (.dic _ _) => .ok (.bl (isTy ts 6)) S
  | _ => .bad
@[simp] theorem isT_ref {n : Nat} {ts : List Nat} : ev1 (.isT ts) (.ref n) S = kTy S[n]? ts S := by
  simp only [ev1, tyOf]
  unfold kTy
  cases S[n]? with
  | none => rfl
  | some o => cases o <;> rfl
@[simp] theorem kTy_l {xs : List D} {ts : List Nat} : kTy (some (.lst xs)) ts S = .ok (.bl (isTy ts 5)) S := rfl
@[simp] theorem toI_dN {n : Nat} : toI (dN n) S = .ok (some (n : Int)) S := rfl
end
end Mi
/-! The text in the small language. -/
namespace K74
open Mi PySem PySem.Spec PyProof.Rows L2
def top (i : Nat) : Stmt := PySem.Challenge.pw_broadrow_k74_timetables_told.main.body.getD i (.Pass ⟨0, 0, 0, 0⟩)
/-! can_be_done -/
def f0_c0 : E := .comp false (.b2 .eq (.b2 .ix (.var 1) (.var 5)) (.lit (.int 0))) (.nm 5) (.it (.b2 .ix (.var 4) (.lit (.int 3)))) none (.lit .non) [5]
def f0_b0 : Sts := (.cons (.ite (.and (.b2 .gt (.b2 .ix (.var 1) (.var 3)) (.lit (.int 0))) (.b1 .all f0_c0))
 (.cons (.ex (.m2 .app (.var 2) (.var 3)))
 .nil)
 .nil)
 .nil)
def f0_l0 : Mi.St := .for (.tp [3, 4]) (.enum (.var 0)) f0_b0
def f0 : Fn := ⟨2, 6, true,
 (.cons (.asg 2 (.lst true .nil))
 (.cons f0_l0
 (.cons (.ret (.var 2))
 .nil)))⟩
def m0 : DefM := ⟨"can_be_done", top 1, ["steps", "left"], ["steps", "left", "found", "number", "step", "other"], f0⟩
theorem bnd0 : BndOk m0 := fun _ _ _ _ _ _ us hl => match us, hl with | [_, _], _ => rfl
/-! timetable -/
def f1_c0 : E := .comp true (.b2 .ix (.var 3) (.lit (.int 2))) (.nm 3) (.it (.var 0)) none (.lit .non) [3]
def f1_b0 : Sts := (.cons (.asg 8 (.b2 .min (.var 5) (.b2 .ix (.var 2) (.var 7))))
 (.cons (.ite (.b2 .gt (.var 8) (.lit (.int 0)))
 (.cons (.ex (.m2 .app (.var 6) (.tup (.cons (.var 7) (.cons (.var 8) .nil)))))
 (.cons (.asg 5 (.b2 .sub (.var 5) (.var 8)))
 .nil))
 .nil)
 .nil))
def f1_l0 : Mi.St := .for (.nm 7) (.it (.call 0 (.cons (.var 0) (.cons (.var 2) .nil)))) f1_b0
def f1_b1 : Sts := (.cons (.asgI (.var 2) (.var 7) (.b2 .sub (.b2 .ix (.var 2) (.var 7)) (.var 8)))
 .nil)
def f1_l1 : Mi.St := .for (.tp [7, 8]) (.it (.var 6)) f1_b1
def f1_b2 : Sts := (.cons (.asg 5 (.var 1))
 (.cons (.asg 6 (.lst true .nil))
 (.cons f1_l0
 (.cons f1_l1
 (.cons (.ex (.m2 .app (.var 4) (.var 6)))
 .nil)))))
def f1_l2 : Mi.St := .while (.b2 .gt (.b1 .sum (.var 2)) (.lit (.int 0))) f1_b2
def f1 : Fn := ⟨2, 9, false,
 (.cons (.asg 2 f1_c0)
 (.cons (.asg 4 (.lst true .nil))
 (.cons f1_l2
 (.cons (.ret (.var 4))
 .nil))))⟩
def m1 : DefM := ⟨"timetable", top 2, ["steps", "hands"], ["steps", "hands", "left", "step", "beats", "free", "beat", "number", "many"], f1⟩
theorem bnd1 : BndOk m1 := fun _ _ _ _ _ _ us hl => match us, hl with | [_, _], _ => rfl
/-! _law_tape -/
def f2 : Fn := ⟨1, 1, false,
 (.cons (.ret (.lst true (.cons (.b1 (.list false) (.slc false (.var 0) none (some ()) (.lit .non) (.lit (.int 63)))) (.cons (.lit (.int 0)) (.cons (.lit (.int 0)) .nil)))))
 .nil)⟩
def m2 : DefM := ⟨"_law_tape", top 4, ["_law_script"], ["_law_script"], f2⟩
theorem bnd2 : BndOk m2 := fun _ _ _ _ _ _ us hl => match us, hl with | [_], _ => rfl
/-! _law_draw -/
def f3 : Fn := ⟨2, 6, false,
 (.cons (.ite (.b2 .gt (.b2 .ix (.var 0) (.lit (.int 2))) (.lit (.int 0)))
 (.cons (.asg 2 (.b2 .mod (.b2 .ix (.var 0) (.lit (.int 2))) (.var 1)))
 (.cons (.asgI (.var 0) (.lit (.int 2)) (.b2 .div (.b2 .ix (.var 0) (.lit (.int 2))) (.var 1)))
 (.cons (.ret (.var 2))
 .nil)))
 .nil)
 (.cons (.asg 3 (.b2 .ix (.var 0) (.lit (.int 1))))
 (.cons (.asgI (.var 0) (.lit (.int 1)) (.b2 (.add false) (.var 3) (.lit (.int 1))))
 (.cons (.asg 4 (.lit (.int 0)))
 (.cons (.ite (.b2 .gt (.b1 .len (.b2 .ix (.var 0) (.lit (.int 0)))) (.lit (.int 0)))
 (.cons (.asg 4 (.b2 .ix (.b2 .ix (.var 0) (.lit (.int 0))) (.b2 .mod (.var 3) (.b1 .len (.b2 .ix (.var 0) (.lit (.int 0)))))))
 .nil)
 .nil)
 (.cons (.ite (.and (.b2 .lt (.var 3) (.b1 .len (.b2 .ix (.var 0) (.lit (.int 0))))) (.b2 .ge (.var 4) (.b2 .pow (.lit (.int 10)) (.lit (.int 18)))))
 (.cons (.asgI (.var 0) (.lit (.int 2)) (.b2 .div (.var 4) (.var 1)))
 (.cons (.ret (.b2 .mod (.var 4) (.var 1)))
 .nil))
 .nil)
 (.cons (.asg 5 (.b2 .mod (.b2 (.mul false) (.b2 (.add false) (.b2 .mod (.var 4) (.lit (.int 1000003))) (.lit (.int 1))) (.b2 (.add false) (.b2 (.add false) (.b2 (.mul false) (.b2 (.mul false) (.lit (.int 7919)) (.var 3)) (.var 3)) (.b2 (.mul false) (.lit (.int 104729)) (.var 3))) (.lit (.int 12345)))) (.lit (.int 2147483647))))
 (.cons (.asg 5 (.b2 .mod (.b2 (.add false) (.b2 (.add false) (.b2 (.mul false) (.var 5) (.var 5)) (.b2 (.mul false) (.lit (.int 48271)) (.var 3))) (.b2 .mod (.var 4) (.lit (.int 65537)))) (.lit (.int 2147483629))))
 (.cons (.ret (.b2 .mod (.b2 .div (.var 5) (.lit (.int 8))) (.var 1)))
 .nil)))))))))⟩
def m3 : DefM := ⟨"_law_draw", top 5, ["_law_tape_here", "_law_many"], ["_law_tape_here", "_law_many", "_law_digit", "_law_at", "_law_cell", "_law_mixed"], f3⟩
theorem bnd3 : BndOk m3 := fun _ _ _ _ _ _ us hl => match us, hl with | [_, _], _ => rfl
/-! _law_waits -/
def f4_c0 : E := .comp false (.var 8) (.nm 8) (.it (.var 3)) (some ()) (.b2 .eq (.call 3 (.cons (.var 0) (.cons (.var 5) .nil))) (.lit (.int 0))) [8]
def f4_b0 : Sts := (.cons (.asg 7 (.m2 .popa (.var 2) (.call 3 (.cons (.var 0) (.cons (.b1 .len (.var 2)) .nil)))))
 (.cons (.asgD (.var 4) (.var 7) (.b1 .sort f4_c0))
 (.cons (.ex (.m2 .app (.var 3) (.var 7)))
 .nil)))
def f4_l0 : Mi.St := .for (.nm 6) (.rng1 (.var 1)) f4_b0
def f4_b1 : Sts := (.cons (.asg 10 (.b2 .ix (.lst false (.cons (.lit (.int 1)) (.cons (.b2 (.add false) (.lit (.int 1)) (.call 3 (.cons (.var 0) (.cons (.lit (.int 4)) .nil)))) (.cons (.b2 (.add false) (.lit (.int 1)) (.call 3 (.cons (.var 0) (.cons (.lit (.int 9)) .nil)))) (.cons (.b2 (.add false) (.lit (.int 20)) (.call 3 (.cons (.var 0) (.cons (.lit (.int 40)) .nil)))) .nil))))) (.b2 .div (.b2 (.mul false) (.call 3 (.cons (.var 0) (.cons (.lit (.int 8)) .nil))) (.lit (.int 4))) (.lit (.int 8)))))
 (.cons (.ex (.m2 .app (.var 9) (.tup (.cons (.tup (.cons (.b2 .div (.var 6) (.lit (.int 3))) (.cons (.b2 .mod (.var 6) (.lit (.int 3))) .nil))) (.cons (.tup .nil) (.cons (.var 10) (.cons (.b2 .ixd (.var 4) (.var 6)) .nil)))))))
 .nil))
def f4_l1 : Mi.St := .for (.nm 6) (.rng1 (.var 1)) f4_b1
def f4 : Fn := ⟨1, 11, true,
 (.cons (.asg 1 (.b2 .ix (.lst false (.cons (.lit (.int 0)) (.cons (.lit (.int 1)) (.cons (.lit (.int 2)) (.cons (.lit (.int 3)) (.cons (.lit (.int 4)) (.cons (.lit (.int 5)) (.cons (.lit (.int 6)) (.cons (.lit (.int 7)) (.cons (.lit (.int 8)) (.cons (.lit (.int 9)) (.cons (.lit (.int 10)) (.cons (.lit (.int 12)) .nil))))))))))))) (.call 3 (.cons (.var 0) (.cons (.lit (.int 12)) .nil)))))
 (.cons (.asg 2 (.b1 (.range true) (.var 1)))
 (.cons (.asg 3 (.lst true .nil))
 (.cons (.asg 4 (.dict true))
 (.cons (.asg 5 (.b2 (.add false) (.lit (.int 2)) (.call 3 (.cons (.var 0) (.cons (.lit (.int 4)) .nil)))))
 (.cons f4_l0
 (.cons (.asg 9 (.lst true .nil))
 (.cons f4_l1
 (.cons (.ret (.var 9))
 .nil)))))))))⟩
def m4 : DefM := ⟨"_law_waits", top 6, ["_law_tape_here"], ["_law_tape_here", "_law_many", "_law_left", "_law_turn", "_law_ahead", "_law_often", "_law_k", "_law_number", "_law_one", "_law_found", "_law_width"], f4⟩
theorem bnd4 : BndOk m4 := fun _ _ _ _ _ _ us hl => match us, hl with | [_], _ => rfl
/-! _law_hands -/
def f5 : Fn := ⟨1, 1, false,
 (.cons (.ret (.b2 .ix (.lst false (.cons (.lit (.int 1)) (.cons (.lit (.int 20)) (.cons (.b2 (.add false) (.lit (.int 1)) (.call 3 (.cons (.var 0) (.cons (.lit (.int 4)) .nil)))) (.cons (.b2 (.add false) (.lit (.int 1)) (.call 3 (.cons (.var 0) (.cons (.lit (.int 20)) .nil)))) .nil))))) (.call 3 (.cons (.var 0) (.cons (.lit (.int 4)) .nil)))))
 .nil)⟩
def m5 : DefM := ⟨"_law_hands", top 7, ["_law_tape_here"], ["_law_tape_here"], f5⟩
theorem bnd5 : BndOk m5 := fun _ _ _ _ _ _ us hl => match us, hl with | [_], _ => rfl
/-! _law_can -/
def f6_c0 : E := .comp false (.var 3) (.nm 3) (.it (.b2 .ix (.b2 .ix (.var 0) (.var 2)) (.lit (.int 3)))) (some ()) (.b2 .gt (.b2 .ix (.var 1) (.var 3)) (.lit (.int 0))) [3]
def f6_c1 : E := .comp false (.var 2) (.nm 2) (.rng1 (.b1 .len (.var 0))) (some ()) (.and (.b2 .gt (.b2 .ix (.var 1) (.var 2)) (.lit (.int 0))) (.b2 .eq f6_c0 (.lst false .nil))) [2]
def f6 : Fn := ⟨2, 4, false,
 (.cons (.ret f6_c1)
 .nil)⟩
def m6 : DefM := ⟨"_law_can", top 8, ["_law_steps", "_law_left"], ["_law_steps", "_law_left", "_law_k", "_law_other"], f6⟩
theorem bnd6 : BndOk m6 := fun _ _ _ _ _ _ us hl => match us, hl with | [_, _], _ => rfl
/-! _law_whole -/
def f7 : Fn := ⟨1, 1, false,
 (.cons (.ret (.and (.b1 (.isT [2]) (.var 0)) (.not (.b1 (.isT [1]) (.var 0)))))
 .nil)⟩
def m7 : DefM := ⟨"_law_whole", top 9, ["_law_thing"], ["_law_thing"], f7⟩
theorem bnd7 : BndOk m7 := fun _ _ _ _ _ _ us hl => match us, hl with | [_], _ => rfl
/-! _law_due -/
def f8_c0 : E := .comp true (.b2 .ix (.var 3) (.lit (.int 2))) (.nm 3) (.it (.var 0)) none (.lit .non) [3]
def f8_c1 : E := .comp false (.var 9) (.tp [8, 9]) (.it (.var 5)) none (.lit .non) [8, 9]
def f8_b0 : Sts := (.cons (.asg 7 (.b2 .sub (.var 1) (.b1 .sum f8_c1)))
 (.cons (.ite (.b2 .gt (.var 7) (.lit (.int 0)))
 (.cons (.ex (.m2 .app (.var 5) (.tup (.cons (.var 6) (.cons (.b2 .min (.var 7) (.b2 .ix (.var 2) (.var 6))) .nil)))))
 .nil)
 .nil)
 .nil))
def f8_l0 : Mi.St := .for (.nm 6) (.it (.call 6 (.cons (.var 0) (.cons (.var 2) .nil)))) f8_b0
def f8_b1 : Sts := (.cons (.asgI (.var 2) (.var 6) (.b2 .sub (.b2 .ix (.var 2) (.var 6)) (.var 9)))
 .nil)
def f8_l1 : Mi.St := .for (.tp [6, 9]) (.it (.var 5)) f8_b1
def f8_b2 : Sts := (.cons (.asg 5 (.lst true .nil))
 (.cons f8_l0
 (.cons f8_l1
 (.cons (.ex (.m2 .app (.var 4) (.var 5)))
 .nil))))
def f8_l2 : Mi.St := .while (.b2 .ne (.call 6 (.cons (.var 0) (.cons (.var 2) .nil))) (.lst false .nil)) f8_b2
def f8 : Fn := ⟨2, 10, true,
 (.cons (.asg 2 f8_c0)
 (.cons (.asg 4 (.lst true .nil))
 (.cons f8_l2
 (.cons (.ret (.var 4))
 .nil))))⟩
def m8 : DefM := ⟨"_law_due", top 10, ["_law_steps", "_law_hands_here"], ["_law_steps", "_law_hands_here", "_law_left", "_law_step", "_law_beats", "_law_beat", "_law_number", "_law_free", "_law_other", "_law_many"], f8⟩
theorem bnd8 : BndOk m8 := fun _ _ _ _ _ _ us hl => match us, hl with | [_, _], _ => rfl
/-! law -/
def f9_b0 : Sts := (.cons (.ex (.m2 .app (.b2 .ix (.var 6) (.var 8)) (.tup (.cons (.lit (.int 0)) (.cons (.lit (.int 0)) .nil)))))
 (.cons (.ite (.b2 .ne (.b1 .rep (.b2 (.add false) (.slc false (.var 6) none (some ()) (.lit .non) (.var 8)) (.slc false (.var 6) (some ()) none (.b2 (.add false) (.var 8) (.lit (.int 1))) (.lit .non)))) (.b1 .rep (.b2 (.add false) (.slc false (.var 7) none (some ()) (.lit .non) (.var 8)) (.slc false (.var 7) (some ()) none (.b2 (.add false) (.var 8) (.lit (.int 1))) (.lit .non)))))
 (.cons (.ret (.lit (.bl false)))
 .nil)
 .nil)
 (.cons (.ex (.b1 .pop (.b2 .ix (.var 6) (.var 8))))
 .nil)))
def f9_l0 : Mi.St := .for (.nm 8) (.it (.slc false (.lst false (.cons (.lit (.int 0)) (.cons (.b2 .div (.b1 .len (.var 6)) (.lit (.int 2))) .nil))) none (some ()) (.lit .non) (.b1 .len (.var 6)))) f9_b0
def f9_b1 : Sts := (.cons (.ex (.b1 .clear (.var 9)))
 .nil)
def f9_l1 : Mi.St := .for (.nm 9) (.it (.var 6)) f9_b1
def f9_b2 : Sts := (.cons (.asg 3 (.call 4 (.cons (.var 1) .nil)))
 (.cons (.asg 4 (.call 5 (.cons (.var 1) .nil)))
 (.cons (.asg 5 (.b1 .rep (.var 3)))
 (.cons (.asg 6 (.call 1 (.cons (.var 3) (.cons (.var 4) .nil))))
 (.cons (.asg 7 (.call 8 (.cons (.var 3) (.cons (.var 4) .nil))))
 (.cons (.ite (.or (.not (.b1 (.isT [5]) (.var 6))) (.or (.b2 .ne (.b1 .rep (.var 6)) (.b1 .rep (.var 7))) (.b2 .ne (.b1 .rep (.var 3)) (.var 5))))
 (.cons (.ret (.lit (.bl false)))
 .nil)
 .nil)
 (.cons f9_l0
 (.cons f9_l1
 (.cons (.ex (.m2 .app (.var 6) (.lst false .nil)))
 (.cons (.ite (.b2 .ne (.b1 .rep (.call 1 (.cons (.var 3) (.cons (.var 4) .nil)))) (.b1 .rep (.var 7)))
 (.cons (.ret (.lit (.bl false)))
 .nil)
 .nil)
 .nil))))))))))
def f9_l2 : Mi.St := .for (.nm 2) (.rng1 (.lit (.int 3))) f9_b2
def f9 : Fn := ⟨1, 10, false,
 (.cons (.asg 1 (.call 2 (.cons (.var 0) .nil)))
 (.cons f9_l2
 (.cons (.ret (.b2 .eq (.call 1 (.cons (.lst false .nil) (.cons (.lit (.int 3)) .nil))) (.lst false .nil)))
 .nil)))⟩
def m9 : DefM := ⟨"law", top 11, ["_law_script"], ["_law_script", "_law_tape_here", "_law_k", "_law_steps", "_law_hands_here", "_law_kept", "_law_told", "_law_own", "_law_at", "_law_beat"], f9⟩
theorem bnd9 : BndOk m9 := fun _ _ _ _ _ _ us hl => match us, hl with | [_], _ => rfl
def ds : List DefM := [m0, m1, m2, m3, m4, m5, m6, m7, m8, m9]
def bs : List Str := ["len", "sum", "min", "all", "int", "repr", "sorted", "list", "range", "enumerate", "isinstance", "bool"]
theorem bndAll : ∀ m ∈ ds, BndOk m := List.forall_mem_cons.mpr ⟨bnd0, List.forall_mem_cons.mpr ⟨bnd1, List.forall_mem_cons.mpr ⟨bnd2, List.forall_mem_cons.mpr ⟨bnd3, List.forall_mem_cons.mpr ⟨bnd4, List.forall_mem_cons.mpr ⟨bnd5, List.forall_mem_cons.mpr ⟨bnd6, List.forall_mem_cons.mpr ⟨bnd7, List.forall_mem_cons.mpr ⟨bnd8, List.forall_mem_cons.mpr ⟨bnd9, List.forall_mem_nil _⟩⟩⟩⟩⟩⟩⟩⟩⟩⟩
def Pm : Prog := ⟨fun i => (ds[i]?).map (·.fn), fun _ => none, fun _ _ => none, 2000⟩
theorem okAll : ds.all (defOk (gamma ds bs)) = true := by decide +kernel
end K74
/-! k74: what the defs come to. -/
namespace K74
open Mi
def T (cs : List Int) (a r : Int) : Obj := .lst [.lst (cs.map .int), .int a, .int r]
theorem draw_ok {k : Nat} {cs : List Int} {a r many : Int} {rest : Store} (h0 : 0 ≤ a) (h1 : a < 1000000000000) (hm : 0 < many) (hm2 : many < 1000000) :
    ∃ v a' r', callF Pm (k + 1) 3 [.ref 0, .int many] (T cs a r :: rest) = .ok (.int v) (T cs a' r' :: rest) ∧ 0 ≤ v ∧ v < many ∧ a ≤ a' ∧ a' ≤ a + 1 := by
  rw [call_eq (fn := f3) rfl ⟨rfl, by decide⟩]
  have hd : 0 < many ∧ many < 1000000000000000000000000 := ⟨hm, by omega⟩
  by_cases hr : 0 < r
  · refine ⟨r % many, a, r / many, ?_, Int.emod_nonneg _ (by omega), Int.emod_lt_of_pos _ hm, by omega, by omega⟩
    simp [f3, startE, T, hr, hd]
  · have wm : ∀ x : Int, wide (x % 1000003 + 1) = true := fun x => by
      have := Int.emod_nonneg x (b := 1000003) (by decide)
      have := Int.emod_lt_of_pos x (b := 1000003) (by decide)
      simp only [wide, decide_eq_true_eq]; omega
    have wx : ∀ x : Int, wide (x % 2147483647) = true := fun x => by
      have := Int.emod_nonneg x (b := 2147483647) (by decide)
      have := Int.emod_lt_of_pos x (b := 2147483647) (by decide)
      simp only [wide, decide_eq_true_eq]; omega
    have wa : wide a = true := by simp only [wide, decide_eq_true_eq]; omega
    have w1 : wide 7919 = true := by decide
    have w2 : wide 104729 = true := by decide
    have w3 : wide 48271 = true := by decide
    have w4 : wide 10 = true := by decide
    have e1 : ∀ x : Int, 0 ≤ x % many := fun x => Int.emod_nonneg _ (by omega)
    have e2 : ∀ x : Int, x % many < many := fun x => Int.emod_lt_of_pos _ hm
    have w5 : wide 1 = true := by decide
    by_cases hc : cs.length = 0
    · have e0 : cs = [] := List.eq_nil_of_length_eq_zero hc
      subst e0
      simp [f3, startE, T, hr, hd, wm, wx, wa, w1, w2, w3, w4, w5, Int.not_lt.mpr h0]
      exact ⟨_, _, ⟨rfl, rfl⟩, e1 _, e2 _, by omega, by omega⟩
    · have hl : (0 : Int) < cs.length := by omega
      have n1 : 0 ≤ a % (cs.length : Int) := Int.emod_nonneg _ (by omega)
      have n2 : a % (cs.length : Int) < cs.length := Int.emod_lt_of_pos _ hl
      have hl' : 0 < cs.length := by omega
      obtain ⟨c, ec⟩ : ∃ c, cs[(a % (cs.length : Int)).toNat]? = some c := ⟨_, List.getElem?_eq_getElem (by omega)⟩
      by_cases hb : a < (cs.length : Int)
      · by_cases hc2 : 1000000000000000000 ≤ c
        · simp [f3, startE, T, hr, hd, w4, hl, hl', kAt_nn n1, ec, hb, hc2]
          exact ⟨_, _, ⟨rfl, rfl⟩, e1 _, e2 _, by omega, by omega⟩
        · simp [f3, startE, T, hr, hd, wm, wx, wa, w1, w2, w3, w4, hl, hl', kAt_nn n1, ec, hb, hc2]
          exact ⟨_, _, ⟨rfl, rfl⟩, e1 _, e2 _, by omega, by omega⟩
      · simp [f3, startE, T, hr, hd, wm, wx, wa, w1, w2, w3, w4, hl, hl', kAt_nn n1, ec, hb]
        exact ⟨_, _, ⟨rfl, rfl⟩, e1 _, e2 _, by omega, by omega⟩
theorem tape_ok {k : Nat} {ns : List Int} (hl : ns.length ≤ 63) : callF Pm (k + 1) 2 [.scr ns] [] = .ok (.ref 0) [T ns 0 0] := by
  rw [call_eq (fn := f2) rfl ⟨rfl, by decide⟩]
  have h1 : ns.length ≤ 16777216 := by omega
  have h2 : List.take ns.length (List.map D.int ns) = List.map D.int ns := List.take_of_length_le (by simp)
  simp [f2, startE, T, evSlice, items, cutL, bound, newL, line, ev1, evList, Nat.min_eq_right hl, h1, h2]
theorem hands_ok {k : Nat} {cs : List Int} {a r : Int} {rest : Store} (h0 : 0 ≤ a) (h1 : a < 900000000000) :
    ∃ h a' r', callF Pm (k + 2) 5 [.ref 0] (T cs a r :: rest) = .ok (.int h) (T cs a' r' :: rest) ∧ 1 ≤ h ∧ h ≤ 20 ∧ a ≤ a' ∧ a' ≤ a + 3 := by
  obtain ⟨v1, a1, r1, e1, l1, u1, b1, c1⟩ := draw_ok (k := k) (cs := cs) (r := r) (rest := rest) (many := 4) h0 (by omega) (by decide) (by decide)
  obtain ⟨v2, a2, r2, e2, l2, u2, b2, c2⟩ := draw_ok (k := k) (cs := cs) (r := r1) (rest := rest) (many := 20) (a := a1) (by omega) (by omega) (by decide) (by decide)
  obtain ⟨v3, a3, r3, e3, l3, u3, b3, c3⟩ := draw_ok (k := k) (cs := cs) (r := r2) (rest := rest) (many := 4) (a := a2) (by omega) (by omega) (by decide) (by decide)
  rw [call_eq (fn := f5) rfl ⟨rfl, by decide⟩]
  rcases (by omega : v3 = 0 ∨ v3 = 1 ∨ v3 = 2 ∨ v3 = 3) with rfl | rfl | rfl | rfl
  all_goals
    simp [f5, startE, e1, e2, e3, newL, line]
    refine ⟨_, a3, ⟨rfl, ⟨r3, rfl⟩⟩, ?_⟩
    omega
/-! ### the steps -/
structure Step where
  x : Int
  y : Int
  w : Int
  a : List Nat
def dStep (s : Step) : D := .tup [.tup [.int s.x, .int s.y], .tup [], .int s.w, .lst (s.a.map dN)]
abbrev Cf (k : Nat) : Cfg := cfgOf Pm (callF Pm k) (callP Pm k).2
abbrev WS (cs : List Int) (a r : Int) (rest : Store) (L U : List Nat) (A : List (Nat × List Nat)) : Store :=
  T cs a r :: (rest ++ [.lst (L.map dN), .lst (U.map dN), .dic (A.map fun p => dN p.1) (A.map fun p => .lst (p.2.map dN))])
theorem T_low {cs : List Int} {a r : Int} {n : Nat} : (T cs a r).low n = true := by
  simp [T, Obj.low, D.lows, D.low, lows_int]
theorem waits_c0 {k : Nat} {cs : List Int} {a r many often : Int} {rest : Store} {L U : List Nat} {A : List (Nat × List Nat)} {x6 x7 x8 x9 x10 : Option D} (h0 : 0 ≤ a) (h1 : a + U.length < 1000000000000) (ho : 0 < often) (ho2 : often < 100) (hU : U.length < 100) :
    ∃ (ys : List Nat) (a' r' : Int), evE (Cf (k + 1)) f4_c0 [some (.ref 0), some (.int many), some (.ref (rest.length + 1)), some (.ref (rest.length + 2)), some (.ref (rest.length + 3)), some (.int often), x6, x7, x8, x9, x10] (WS cs a r rest L U A) = .ok (.lst (ys.map dN)) (WS cs a' r' rest L U A) ∧
      (∀ y ∈ ys, y ∈ U) ∧ ys.length ≤ U.length ∧ a ≤ a' ∧ a' ≤ a + U.length := by
  let B : D → Store → Rs (Option D) := compBody (.nm 8) (some ()) (fun r S => evE (Cf (k + 1)) (.var 8) r S) (fun r S => evE (Cf (k + 1)) (.b2 .eq (.call 3 (.cons (.var 0) (.cons (.var 5) .nil))) (.lit (.int 0))) r S)
      (wipeE [some (.ref 0), some (.int many), some (.ref (rest.length + 1)), some (.ref (rest.length + 2)), some (.ref (rest.length + 3)), some (.int often), x6, x7, x8, x9, x10] [8])
  let I : Nat → Store → Prop := fun i S => ∃ (ys : List Nat) (a' r' : Int), S = WS cs a' r' rest L U A ++ [.lst (ys.map dN)] ∧ (∀ y ∈ ys, y ∈ U) ∧ ys.length ≤ i ∧ a ≤ a' ∧ a' ≤ a + i
  have st : ∀ i S, i ≤ (U.map dN).length → I i S → stands [(rest.length + 2, U.map dN)] S = true := by
    rintro i S hi ⟨ys, a', r', rfl, h2, h3, h4, h5⟩
    simp [stands]
  have step : ∀ i x S, (U.map dN)[i]? = some x → I i S → (∃ y acc S', B x S = .ok (some y) S' ∧ S'[(WS cs a r rest L U A).length]? = some (.lst acc) ∧ acc.length < line ∧ I (i + 1) (S'.set (WS cs a r rest L U A).length (.lst (acc ++ [y])))) ∨ (∃ S', B x S = .ok none S' ∧ I (i + 1) S') := by
    rintro i x S hx ⟨ys, a', r', rfl, h2, h3, h4, h5⟩
    rw [List.getElem?_map] at hx
    obtain ⟨u, hu, rfl⟩ := Option.map_eq_some_iff.mp hx
    have hi : i < U.length := (List.getElem?_eq_some_iff.mp hu).1
    obtain ⟨v, a2, r2, e2, l2, u2, b2, c2⟩ := draw_ok (k := k) (cs := cs) (r := r') (a := a') (rest := rest ++ [.lst (L.map dN), .lst (U.map dN), .dic (A.map fun p => dN p.1) (A.map fun p => .lst (p.2.map dN)), .lst (ys.map dN)]) (many := often) (by omega) (by omega) ho (by omega)
    by_cases hv : v = 0
    · subst hv
      refine .inl ⟨dN u, ys.map dN, T cs a2 r2 :: (rest ++ [.lst (L.map dN), .lst (U.map dN), .dic (A.map fun p => dN p.1) (A.map fun p => .lst (p.2.map dN)), .lst (ys.map dN)]), ?_, ?_, ?_, ys ++ [u], a2, r2, ?_, ?_, ?_, ?_, ?_⟩
      · simp [B, compBody, setT, wipeE, compItem, e2]
      · simp
      · simp [line]; omega
      · simp
      · intro y hy
        rcases List.mem_append.mp hy with hy | hy
        · exact h2 y hy
        · rw [List.mem_singleton.mp hy]; exact List.mem_of_getElem? hu
      · simp; omega
      · omega
      · omega
    · refine .inr ⟨T cs a2 r2 :: (rest ++ [.lst (L.map dN), .lst (U.map dN), .dic (A.map fun p => dN p.1) (A.map fun p => .lst (p.2.map dN)), .lst (ys.map dN)]), ?_, ys, a2, r2, ?_, h2, ?_, ?_, ?_⟩
      · have hv' : (v == 0) = false := by simpa using hv
        simp [B, compBody, setT, wipeE, compItem, e2, hv']
      · simp
      · omega
      · omega
      · omega
  obtain ⟨S', e, ys, a', r', rfl, h2, h3, h4, h5⟩ := compLoop_run (g := [(rest.length + 2, U.map dN)]) (n := (WS cs a r rest L U A).length) (f := B) (ds := U.map dN) I st step (S := WS cs a r rest L U A ++ [.lst []]) ⟨[], a, r, rfl, by simp, by simp, by omega, by omega⟩
  rw [List.length_map] at h3 h5
  refine ⟨ys, a', r', ?_, h2, h3, h4, h5⟩
  unfold f4_c0
  simp
  unfold kComp
  show (compLoop [(rest.length + 2, U.map dN)] (WS cs a r rest L U A).length B (U.map dN) (WS cs a r rest L U A ++ [.lst []])).bind _ = _
  rw [e]
  simp only [Rs.bind_ok]
  refine freeze_head T_low ?_
  refine frz_ref (i := (rest ++ [Obj.lst (L.map dN), .lst (U.map dN), .dic (A.map fun p => dN p.1) (A.map fun p => .lst (p.2.map dN))]).length + 1) (Nat.le_refl _) ?_ (lows_dN _)
  simp
/-- what stands behind i turns of the first loop -/
structure Inv1 (cs : List Int) (a0 : Int) (n : Nat) (i : Nat) (a : Int) (L U : List Nat) (A : List (Nat × List Nat)) : Prop where
  ll : L.length = n - i
  lu : U.length = i
  pm : (L ++ U).Perm (List.range n)
  ks : A.map (·.1) = U
  ah : ∀ (j : Nat) (p : Nat × List Nat), A[j]? = some p → p.2.length ≤ j ∧ ∀ o ∈ p.2, o ∈ U.take j
  lo : a0 ≤ a
  hi : a ≤ a0 + i * 13
theorem pick {L U : List Nat} {n j x : Nat} (h : (L ++ U).Perm (List.range n)) (e : L[j]? = some x) : (L.eraseIdx j ++ (U ++ [x])).Perm (List.range n) ∧ x ∉ U := by
  obtain ⟨hj, ex⟩ := List.getElem?_eq_some_iff.mp e
  have p1 : (x :: L.eraseIdx j).Perm L := by
    have e1 : L = L.take j ++ x :: L.drop (j + 1) := by
      rw [← ex, ← List.drop_eq_getElem_cons hj, List.take_append_drop]
    rw [List.eraseIdx_eq_take_drop_succ]
    exact List.perm_middle.symm.trans (List.Perm.of_eq e1.symm)
  have p2 : (x :: (L.eraseIdx j ++ U)).Perm (L ++ U) := by
    have := p1.append_right U
    simpa using this
  refine ⟨?_, fun hx => ?_⟩
  · refine List.Perm.trans ?_ h
    refine List.Perm.trans ?_ p2
    rw [← List.append_assoc]
    exact List.perm_append_singleton x _
  · have nd : (x :: (L.eraseIdx j ++ U)).Nodup := (p2.trans h).nodup_iff.mpr List.nodup_range
    rw [List.nodup_cons] at nd
    exact nd.1 (List.mem_append_right _ hx)
theorem waits_l0 {k : Nat} {cs : List Int} {a r0 often : Int} {n : Nat} {rest : Store} {x6 x7 x8 x9 x10 : Option D} {n0 : Nat} (h0 : 0 ≤ a) (h1 : a < 900000000000) (ho : 0 < often) (ho2 : often < 100) (hn : n ≤ 12) :
    ∃ (L U : List Nat) (A : List (Nat × List Nat)) (a' r' : Int) (y6 y7 y8 y9 y10 : Option D), evS (Cf (k + 1)) f4_l0 n0 [some (.ref 0), some (.int n), some (.ref (rest.length + 1)), some (.ref (rest.length + 2)), some (.ref (rest.length + 3)), some (.int often), x6, x7, x8, x9, x10] (WS cs a r0 rest (List.range n) [] []) =
      .nx [some (.ref 0), some (.int n), some (.ref (rest.length + 1)), some (.ref (rest.length + 2)), some (.ref (rest.length + 3)), some (.int often), y6, y7, y8, y9, y10] (WS cs a' r' rest L U A) ∧ Inv1 cs a n n a' L U A := by
  let env (y6 y7 y8 y9 y10 : Option D) : Mi.Env := [some (.ref 0), some (.int n), some (.ref (rest.length + 1)), some (.ref (rest.length + 2)), some (.ref (rest.length + 3)), some (.int often), y6, y7, y8, y9, y10]
  let I : Nat → Mi.Env → Store → Prop := fun i r S => ∃ (L U : List Nat) (A : List (Nat × List Nat)) (a' r' : Int) (y6 y7 y8 y9 y10 : Option D), r = env y6 y7 y8 y9 y10 ∧ S = WS cs a' r' rest L U A ∧ Inv1 cs a n i a' L U A
  have hsrc : evSrc (Cf (k + 1)) (.rng1 (.var 1)) (env x6 x7 x8 x9 x10) (WS cs a r0 rest (List.range n) [] []) = .ok (rangeD 0 n, []) (WS cs a r0 rest (List.range n) [] []) := by
    have : n < 1000000000000 := by omega
    simp [env, this]
  unfold f4_l0
  rw [r_for hsrc]
  have hlen : (rangeD 0 (n : Int)).length = n := by simp [rangeD]
  have step : ∀ i x r S', (rangeD 0 (n : Int))[i]? = some x → I i r S' → ∃ r1 S1, (forBody (Cf (k + 1)) (.nm 6) f4_b0 (WS cs a r0 rest (List.range n) [] []).length x r S' = .nx r1 S1 ∨ forBody (Cf (k + 1)) (.nm 6) f4_b0 (WS cs a r0 rest (List.range n) [] []).length x r S' = .ct r1 S1) ∧ I (i + 1) r1 S1 := by
    rintro i x r S hx ⟨L, U, A, a', r', y6, y7, y8, y9, y10, rfl, rfl, hI⟩
    obtain ⟨hi, ex⟩ := List.getElem?_eq_some_iff.mp hx
    rw [hlen] at hi
    obtain ⟨ll, lu, pm, ks, ah, b0, b1⟩ := hI
    -- the number drawn
    obtain ⟨v, a2, r2, e2, l2, u2, c2, d2⟩ := draw_ok (k := k) (cs := cs) (r := r') (a := a') (rest := rest ++ [.lst (L.map dN), .lst (U.map dN), .dic (A.map fun p => dN p.1) (A.map fun p => .lst (p.2.map dN))]) (many := ((L.length : Nat) : Int)) (by omega) (by omega) (by omega) (by omega)
    obtain ⟨num, en⟩ : ∃ num, L[v.toNat]? = some num := ⟨_, List.getElem?_eq_getElem (by omega)⟩
    obtain ⟨p1, p2⟩ := pick pm en
    obtain ⟨ys, a3, r3, e3, m3, l3, c3, d3⟩ := waits_c0 (k := k) (cs := cs) (a := a2) (r := r2) (many := n) (often := often) (rest := rest) (L := L.eraseIdx v.toNat) (U := U) (A := A) (x6 := some x) (x7 := some (dN num)) (x8 := y8) (x9 := y9) (x10 := y10) (by omega) (by omega) ho ho2 (by omega)
    obtain ⟨zs, e4, l4, m4⟩ := sort_dN (S := WS cs a3 r3 rest (L.eraseIdx v.toNat) U A) ys
    have kp : kPopa (some (.lst (L.map dN))) (rest.length + 1) v (T cs a2 r2 :: (rest ++ [.lst (L.map dN), .lst (U.map dN), .dic (A.map fun p => dN p.1) (A.map fun p => .lst (p.2.map dN))])) = .ok (dN num) (WS cs a2 r2 rest (L.eraseIdx v.toNat) U A) := by
      rw [kPopa_at l2 (by simpa using u2) (by rw [List.getElem?_map, en]; rfl)]
      simp [List.eraseIdx_eq_take_drop_succ, List.map_take, List.map_drop]
    refine ⟨env (some x) (some (dN num)) y8 y9 y10, WS cs a3 r3 rest (L.eraseIdx v.toNat) (U ++ [num]) (A ++ [(num, zs)]), .inl ?_, L.eraseIdx v.toNat, U ++ [num], A ++ [(num, zs)], a3, r3, some x, some (dN num), y8, y9, y10, rfl, rfl, ⟨?_, ?_, p1, ?_, ?_, ?_, ?_⟩⟩
    · unfold forBody
      have ni : dN num ∉ A.map fun p => dN p.1 := fun z => by
        obtain ⟨p, hp, ep⟩ := List.mem_map.mp z
        rw [dN_eq] at ep
        exact p2 (by rw [← ks, ← ep]; exact List.mem_map.mpr ⟨p, hp, rfl⟩)
      have kk : ∀ r S, kKey (some (.dic (A.map fun p => dN p.1) (A.map fun p => D.lst (p.2.map dN)))) (rest.length + 3) (dN num) (D.lst (zs.map dN)) r S = .nx r (S.set (rest.length + 3) (.dic ((A.map fun p => dN p.1) ++ [dN num]) ((A.map fun p => D.lst (p.2.map dN)) ++ [D.lst (zs.map dN)]))) := fun r S => by
        refine kKey_new rfl ?_ ni
        have := congrArg List.length ks
        simp at this
        simp [line]; omega
      have hUl : U.length < line := by unfold line; omega
      simp [setT, env, f4_b0, e2, kp, e3, e4, kk, hUl]
    · rw [List.length_eraseIdx]; split <;> omega
    · simp [lu]
    · simp [ks]
    · intro j p hp
      have lA : A.length = U.length := by rw [← ks, List.length_map]
      by_cases hj : j < A.length
      · rw [List.getElem?_append_left hj] at hp
        obtain ⟨q1, q2⟩ := ah j p hp
        refine ⟨q1, fun o ho => ?_⟩
        rw [List.take_append_of_le_length (by omega)]
        exact q2 o ho
      · rw [List.getElem?_append_right (by omega)] at hp
        have ej : j - A.length = 0 := by
          have := (List.getElem?_eq_some_iff.mp hp).1
          simp at this
          omega
        rw [ej] at hp
        simp at hp
        subst hp
        refine ⟨by simp; omega, fun o ho => ?_⟩
        have : j = U.length := by omega
        subst this
        simp
        exact m3 o ((m4 o).mp ho)
    · omega
    · omega
  obtain ⟨r', S', e, L, U, A, a', r'', y6, y7, y8, y9, y10, rfl, rfl, hI⟩ := forLoop_run (g := []) (f := forBody (Cf (k + 1)) (.nm 6) f4_b0 (WS cs a r0 rest (List.range n) [] []).length) (ds := rangeD 0 n) I (fun _ _ _ _ _ => rfl)
    step (r := env x6 x7 x8 x9 x10) (S := WS cs a r0 rest (List.range n) [] []) ⟨List.range n, [], [], a, r0, x6, x7, x8, x9, x10, rfl, rfl, ⟨by simp, rfl, by simp, rfl, by simp, by omega, by omega⟩⟩
  rw [hlen] at hI
  exact ⟨L, U, A, a', r'', y6, y7, y8, y9, y10, e, hI⟩
abbrev WF (cs : List Int) (a r : Int) (rest : Store) (L U : List Nat) (A : List (Nat × List Nat)) (ss : List Step) : Store :=
  T cs a r :: (rest ++ [.lst (L.map dN), .lst (U.map dN), .dic (A.map fun p => dN p.1) (A.map fun p => .lst (p.2.map dN)), .lst (ss.map dStep)])
structure Inv2 (A : List (Nat × List Nat)) (a0 : Int) (i : Nat) (a : Int) (ss : List Step) : Prop where
  len : ss.length = i
  st : ∀ (j : Nat) (s : Step), ss[j]? = some s → 0 ≤ s.x ∧ s.x < 100 ∧ 0 ≤ s.y ∧ s.y < 100 ∧ 1 ≤ s.w ∧ s.w ≤ 59 ∧ (j, s.a) ∈ A
  lo : a0 ≤ a
  hi : a ≤ a0 + i * 4
theorem width_of {v : Int} (h : 0 ≤ v) (h2 : v < 8) : v * 4 / 8 = 0 ∨ v * 4 / 8 = 1 ∨ v * 4 / 8 = 2 ∨ v * 4 / 8 = 3 := by omega
theorem waits_l1 {k : Nat} {cs : List Int} {a r0 often : Int} {n : Nat} {rest : Store} {x6 x7 x8 x10 : Option D} {n0 : Nat} {L U : List Nat} {A : List (Nat × List Nat)} (h0 : 0 ≤ a) (h1 : a < 900000000000) (hn : n ≤ 12) (hk : ∀ j, j < n → ∃ v, (j, v) ∈ A) (nd : (A.map (·.1)).Nodup) :
    ∃ (ss : List Step) (a' r' : Int) (y6 y7 y8 y9 y10 : Option D), evS (Cf (k + 1)) f4_l1 n0 [some (.ref 0), some (.int n), some (.ref (rest.length + 1)), some (.ref (rest.length + 2)), some (.ref (rest.length + 3)), some (.int often), x6, x7, x8, some (.ref (rest.length + 4)), x10] (WF cs a r0 rest L U A []) =
      .nx [some (.ref 0), some (.int n), some (.ref (rest.length + 1)), some (.ref (rest.length + 2)), some (.ref (rest.length + 3)), some (.int often), y6, y7, y8, some (.ref (rest.length + 4)), y10] (WF cs a' r' rest L U A ss) ∧ Inv2 A a n a' ss := by
  let env (y6 y7 y8 y10 : Option D) : Mi.Env := [some (.ref 0), some (.int n), some (.ref (rest.length + 1)), some (.ref (rest.length + 2)), some (.ref (rest.length + 3)), some (.int often), y6, y7, y8, some (.ref (rest.length + 4)), y10]
  let I : Nat → Mi.Env → Store → Prop := fun i r S => ∃ (ss : List Step) (a' r' : Int) (y6 y7 y8 y10 : Option D), r = env y6 y7 y8 y10 ∧ S = WF cs a' r' rest L U A ss ∧ Inv2 A a i a' ss
  have hsrc : evSrc (Cf (k + 1)) (.rng1 (.var 1)) (env x6 x7 x8 x10) (WF cs a r0 rest L U A []) = .ok (rangeD 0 n, []) (WF cs a r0 rest L U A []) := by
    have : n < 1000000000000 := by omega
    simp [env, this]
  unfold f4_l1
  rw [r_for hsrc]
  have step : ∀ i x r S', (rangeD 0 (n : Int))[i]? = some x → I i r S' → ∃ r1 S1, (forBody (Cf (k + 1)) (.nm 6) f4_b1 (WF cs a r0 rest L U A []).length x r S' = .nx r1 S1 ∨ forBody (Cf (k + 1)) (.nm 6) f4_b1 (WF cs a r0 rest L U A []).length x r S' = .ct r1 S1) ∧ I (i + 1) r1 S1 := by
    rintro i x r S hx ⟨ss, a', r', y6, y7, y8, y10, rfl, rfl, ⟨len, stp, lo, hi⟩⟩
    obtain ⟨rfl, hin⟩ := range_get hx
    obtain ⟨va, hva⟩ := hk i hin
    have dg := dget_dN nd hva
    let R := rest ++ [Obj.lst (L.map dN), .lst (U.map dN), .dic (A.map fun p => dN p.1) (A.map fun p => .lst (p.2.map dN)), .lst (ss.map dStep)]
    obtain ⟨v1, a1, r1, e1, l1, u1, b1, c1⟩ := draw_ok (k := k) (cs := cs) (r := r') (a := a') (rest := R) (many := 4) (by omega) (by omega) (by decide) (by decide)
    obtain ⟨v2, a2, r2, e2, l2, u2, b2, c2⟩ := draw_ok (k := k) (cs := cs) (r := r1) (a := a1) (rest := R) (many := 9) (by omega) (by omega) (by decide) (by decide)
    obtain ⟨v3, a3, r3, e3, l3, u3, b3, c3⟩ := draw_ok (k := k) (cs := cs) (r := r2) (a := a2) (rest := R) (many := 40) (by omega) (by omega) (by decide) (by decide)
    obtain ⟨v4, a4, r4, e4, l4, u4, b4, c4⟩ := draw_ok (k := k) (cs := cs) (r := r3) (a := a3) (rest := R) (many := 8) (by omega) (by omega) (by decide) (by decide)
    have w4 : wide 4 = true := by decide
    have hsl : ss.length < 16777216 := by omega
    have kd : ∀ S, kIxd (some (.dic (A.map fun p => dN p.1) (A.map fun p => .lst (p.2.map dN)))) (dN i) S = .ok (.lst (va.map dN)) S := fun S => kIxd_d rfl dg
    have fin : ∀ w : Int, 1 ≤ w → w ≤ 59 → forBody (Cf (k + 1)) (.nm 6) f4_b1 (WF cs a r0 rest L U A []).length (dN i) (env y6 y7 y8 y10) (WF cs a' r' rest L U A ss) = .nx (env (some (dN i)) y7 y8 (some (.int w))) (WF cs a4 r4 rest L U A (ss ++ [⟨(i : Int) / 3, (i : Int) % 3, w, va⟩])) → ∃ r1 S1, (forBody (Cf (k + 1)) (.nm 6) f4_b1 (WF cs a r0 rest L U A []).length (dN i) (env y6 y7 y8 y10) (WF cs a' r' rest L U A ss) = .nx r1 S1 ∨ forBody (Cf (k + 1)) (.nm 6) f4_b1 (WF cs a r0 rest L U A []).length (dN i) (env y6 y7 y8 y10) (WF cs a' r' rest L U A ss) = .ct r1 S1) ∧ I (i + 1) r1 S1 := by
      intro w hw1 hw2 e
      refine ⟨_, _, .inl e, _, a4, r4, some (dN i), y7, y8, some (.int w), rfl, rfl, ⟨by simp [len], fun j s hs => ?_, by omega, by omega⟩⟩
      by_cases hj : j < ss.length
      · rw [List.getElem?_append_left hj] at hs
        exact stp j s hs
      · rw [List.getElem?_append_right (by omega)] at hs
        have ej : j - ss.length = 0 := by
          have := (List.getElem?_eq_some_iff.mp hs).1
          simp at this
          omega
        rw [ej] at hs
        simp at hs
        subst hs
        have : j = i := by omega
        subst this
        refine ⟨?_, ?_, ?_, ?_, hw1, hw2, hva⟩ <;> simp <;> omega
    rcases width_of l4 u4 with q | q | q | q
    · refine fin 1 (by omega) (by omega) ?_
      unfold forBody
      simp [setT, env, f4_b1, R, e1, e2, e3, e4, kd, q, w4, hsl, newL, newT, line, dStep]
    · refine fin (1 + v1) (by omega) (by omega) ?_
      unfold forBody
      simp [setT, env, f4_b1, R, e1, e2, e3, e4, kd, q, w4, hsl, newL, newT, line, dStep]
    · refine fin (1 + v2) (by omega) (by omega) ?_
      unfold forBody
      simp [setT, env, f4_b1, R, e1, e2, e3, e4, kd, q, w4, hsl, newL, newT, line, dStep]
    · refine fin (20 + v3) (by omega) (by omega) ?_
      unfold forBody
      simp [setT, env, f4_b1, R, e1, e2, e3, e4, kd, q, w4, hsl, newL, newT, line, dStep]
  obtain ⟨r', S', e, ss, a', r'', y6, y7, y8, y10, rfl, rfl, hI⟩ := forLoop_run (g := []) (f := forBody (Cf (k + 1)) (.nm 6) f4_b1 (WF cs a r0 rest L U A []).length) (ds := rangeD 0 n) I (fun _ _ _ _ _ => rfl)
    step (r := env x6 x7 x8 x10) (S := WF cs a r0 rest L U A []) ⟨[], a, r0, x6, x7, x8, x10, rfl, rfl, ⟨rfl, by simp, by omega, by omega⟩⟩
  rw [range_len] at hI
  exact ⟨ss, a', r'', y6, y7, y8, none, y10, e, hI⟩
/-- steps that can be done in some turn -/
structure Good (ss : List Step) : Prop where
  len : ss.length ≤ 12
  num : ∀ s ∈ ss, 0 ≤ s.x ∧ s.x < 100 ∧ 0 ≤ s.y ∧ s.y < 100 ∧ 1 ≤ s.w ∧ s.w ≤ 59 ∧ s.a.length ≤ 12
  ord : ∃ U : List Nat, U.Perm (List.range ss.length) ∧ ∀ (j k : Nat) (s : Step), U[j]? = some k → ss[k]? = some s → ∀ o ∈ s.a, o ∈ U.take j
theorem good_of {cs : List Int} {a0 a1 a a' : Int} {n : Nat} {L U : List Nat} {A : List (Nat × List Nat)} {ss : List Step} (hn : n ≤ 12) (h : Inv1 cs a0 n n a L U A) (h2 : Inv2 A a1 n a' ss) : Good ss := by
  have eL : L = [] := List.eq_nil_of_length_eq_zero (by rw [h.ll]; omega)
  have pU : U.Perm (List.range n) := by have := h.pm; rw [eL] at this; simpa using this
  have nd : (A.map (·.1)).Nodup := by rw [h.ks]; exact pU.nodup_iff.mpr List.nodup_range
  have at_ : ∀ (j : Nat) (s : Step), ss[j]? = some s → ∃ i, A[i]? = some (j, s.a) := fun j s hs => List.mem_iff_getElem?.mp (h2.st j s hs).2.2.2.2.2.2
  refine ⟨by rw [h2.len]; exact hn, fun s hs => ?_, U, by rw [h2.len]; exact pU, fun j k s hj hs o ho => ?_⟩
  · obtain ⟨j, hj⟩ := List.mem_iff_getElem?.mp hs
    obtain ⟨q1, q2, q3, q4, q5, q6, _⟩ := h2.st j s hj
    obtain ⟨i, hi⟩ := at_ j s hj
    have z := (h.ah i _ hi).1
    have : i < A.length := (List.getElem?_eq_some_iff.mp hi).1
    have lA : A.length = n := by have := congrArg List.length h.ks; simp at this; rw [this, h.lu]
    have z' : s.a.length ≤ i := z
    exact ⟨q1, q2, q3, q4, q5, q6, by omega⟩
  · obtain ⟨i, hi⟩ := at_ k s hs
    have e1 : U[i]? = some k := by rw [← h.ks, List.getElem?_map, hi]; rfl
    have ij : i = j := by
      have ndU : U.Nodup := pU.nodup_iff.mpr List.nodup_range
      obtain ⟨i1, i2⟩ := List.getElem?_eq_some_iff.mp e1
      obtain ⟨j1, j2⟩ := List.getElem?_eq_some_iff.mp hj
      exact (List.getElem_inj ndU).mp (i2.trans j2.symm)
    subst ij
    exact (h.ah i _ hi).2 o ho
theorem waits_ok {k : Nat} {cs : List Int} {a r : Int} {rest : Store} (h0 : 0 ≤ a) (h1 : a < 800000000000) :
    ∃ (ss : List Step) (a' r' : Int), callF Pm (k + 2) 4 [.ref 0] (T cs a r :: rest) = .ok (.lst (ss.map dStep)) (T cs a' r' :: rest) ∧ Good ss ∧ a ≤ a' ∧ a' ≤ a + 300 := by
  obtain ⟨v1, a1, r1, e1, l1, u1, b1, c1⟩ := draw_ok (k := k) (cs := cs) (r := r) (rest := rest) (many := 12) h0 (by omega) (by decide) (by decide)
  obtain ⟨m, hm, em⟩ : ∃ m : Nat, m ≤ 12 ∧ ([.int 0, .int 1, .int 2, .int 3, .int 4, .int 5, .int 6, .int 7, .int 8, .int 9, .int 10, .int 12] : List D)[v1.toNat]? = some (.int m) := by
    rcases (by omega : v1 = 0 ∨ v1 = 1 ∨ v1 = 2 ∨ v1 = 3 ∨ v1 = 4 ∨ v1 = 5 ∨ v1 = 6 ∨ v1 = 7 ∨ v1 = 8 ∨ v1 = 9 ∨ v1 = 10 ∨ v1 = 11) with rfl | rfl | rfl | rfl | rfl | rfl | rfl | rfl | rfl | rfl | rfl | rfl
    · exact ⟨0, by decide, rfl⟩
    · exact ⟨1, by decide, rfl⟩
    · exact ⟨2, by decide, rfl⟩
    · exact ⟨3, by decide, rfl⟩
    · exact ⟨4, by decide, rfl⟩
    · exact ⟨5, by decide, rfl⟩
    · exact ⟨6, by decide, rfl⟩
    · exact ⟨7, by decide, rfl⟩
    · exact ⟨8, by decide, rfl⟩
    · exact ⟨9, by decide, rfl⟩
    · exact ⟨10, by decide, rfl⟩
    · exact ⟨12, by decide, rfl⟩
  obtain ⟨v2, a2, r2, e2, l2, u2, b2, c2⟩ := draw_ok (k := k) (cs := cs) (r := r1) (a := a1) (rest := rest ++ [.lst ((List.range m).map dN), .lst [], .dic [] []]) (many := 4) (by omega) (by omega) (by decide) (by decide)
  obtain ⟨L, U, A, a3, r3, y6, y7, y8, y9, y10, e3, i3⟩ := waits_l0 (k := k) (cs := cs) (a := a2) (r0 := r2) (often := 2 + v2) (n := m) (rest := rest) (x6 := none) (x7 := none) (x8 := none) (x9 := none) (x10 := none) (n0 := rest.length + 1) (by omega) (by omega) (by omega) (by omega) hm
  have eL : L = [] := List.eq_nil_of_length_eq_zero (by rw [i3.ll]; omega)
  have pU : U.Perm (List.range m) := by have := i3.pm; rw [eL] at this; simpa using this
  have lo3 := i3.lo
  have hi3 := i3.hi
  obtain ⟨ss, a4, r4, z6, z7, z8, z9, z10, e4, i4⟩ := waits_l1 (k := k) (cs := cs) (a := a3) (r0 := r3) (often := 2 + v2) (n := m) (rest := rest) (x6 := y6) (x7 := y7) (x8 := y8) (x10 := y10) (n0 := rest.length + 1) (L := L) (U := U) (A := A) (by omega) (by omega) hm
    (fun j hj => by
      have : j ∈ A.map (·.1) := by rw [i3.ks]; exact pU.mem_iff.mpr (List.mem_range.mpr hj)
      obtain ⟨p, hp, rfl⟩ := List.mem_map.mp this
      exact ⟨p.2, hp⟩) (by rw [i3.ks]; exact pU.nodup_iff.mpr List.nodup_range)
  have lo4 := i4.lo
  have hi4 := i4.hi
  refine ⟨ss, a4, r4, ?_, good_of hm i3 i4, by omega, by omega⟩
  rw [call_eq (fn := f4) rfl ⟨rfl, by decide⟩]
  have k1 : ∀ S, kAt [.int 0, .int 1, .int 2, .int 3, .int 4, .int 5, .int 6, .int 7, .int 8, .int 9, .int 10, .int 12] v1 S = .ok (.int m) S := fun S => by rw [kAt_nn l1, em]; rfl
  have rg : ∀ S, ev1 (.range true) (.int m) S = .ok (.ref S.length) (S ++ [.lst ((List.range m).map dN)]) := fun S => by
    have h1 : (m : Int) ≤ 16777216 := by omega
    have h2 : -1000000000000 ≤ (m : Int) := by omega
    have h3 : (rangeD 0 (m : Int)) = (List.range m).map dN := by
      unfold rangeD
      simp only [Int.sub_zero, Int.toNat_natCast]
      refine List.map_congr_left fun i _ => ?_
      simp [dN]
    simp only [ev1, h1, h2, and_self, if_true, h3, newL, line]
    simp
    omega
  have x3 := e3
  have x4 := e4
  simp [WS, Cf] at x3
  simp [WF, Cf] at x4
  simp [f4, startE, e1, k1, newL, line, rg, newD, e2, x3, x4, Nat.add_assoc]
  refine freeze_head T_low (X := [Obj.lst (L.map dN), .lst (U.map dN), .dic (A.map fun p => dN p.1) (A.map fun p => .lst (p.2.map dN)), .lst (ss.map dStep)]) ?_
  refine frz_ref (i := rest.length + 4) (by omega) (by simp) ?_
  refine lows_all.mpr fun d hd => ?_
  obtain ⟨s, _, rfl⟩ := List.mem_map.mp hd
  simp [dStep, D.low, D.lows, lows_dN]
end K74
/-! k74: timetables. -/
namespace K74
open Mi
/-! ### in plain words -/
def at0 (L : List Int) (k : Nat) : Int := L.getD k 0
def canB (ss : List Step) (L : List Int) (k : Nat) : Bool := decide (0 < at0 L k) && (match ss[k]? with
  | some s => s.a.all fun o => decide (at0 L o = 0)
  | none => false)
def can (ss : List Step) (L : List Int) (n : Nat) : List Nat := (List.range n).filter (canB ss L)
theorem at_get {L : List Int} {k : Nat} (h : k < L.length) : (L.map D.int)[k]? = some (.int (at0 L k)) := by
  rw [List.getElem?_map, List.getElem?_eq_getElem h]
  simp [at0, List.getD_eq_getElem?_getD, List.getElem?_eq_getElem h]
theorem can_c0 {k : Nat} {S : Store} {l : Nat} {L : List Int} {s : Step} {x0 x2 x3 x5 : Option D} (hS : S[l]? = some (.lst (L.map .int))) (ha : ∀ o ∈ s.a, o < L.length) (hl : s.a.length ≤ 12) :
    evE (Cf k) f0_c0 [x0, some (.ref l), x2, x3, some (dStep s), x5] S = .ok (.lst ((s.a.map fun o => decide (at0 L o = 0)).map .bl)) S := by
  unfold f0_c0
  simp [dStep]
  have key := kComp_pure (c := Cf k) (r := [x0, some (.ref l), x2, x3, some (dStep s), x5]) (S := S) (e := .b2 .eq (.b2 .ix (.var 1) (.var 5)) (.lit (.int 0))) (t := .nm 5) (cond := none) (cd := .lit .non) (own := [5]) (g := []) (ys := s.a) dN (fun o => some (.bl (decide (at0 L o = 0)))) (by unfold line; omega)
    (fun y _ z e => by cases e; rfl) (fun o ho acc => ?_) (fun _ => rfl)
  · rw [fm_some] at key
    simp only [dStep] at key
    rw [key]
    simp [Function.comp]
  · have h1 := at_get (ha o ho)
    simp [compBody, setT, wipeE, compItem, get_app hS, h1, dN]
    rfl
/-- which of the first steps can be done -/
theorem can_l0 {k : Nat} {S : Store} {l : Nat} {L : List Int} {ss : List Step} {n0 : Nat} (hS : S[l]? = some (.lst (L.map .int))) (hg : Good ss) (hL : L.length = ss.length) (hin : ∀ s ∈ ss, ∀ o ∈ s.a, o < ss.length) :
    ∃ y3 y4 : Option D, evS (Cf k) f0_l0 n0 [some (.lst (ss.map dStep)), some (.ref l), some (.ref S.length), none, none, none] (S ++ [Obj.lst []]) = .nx [some (.lst (ss.map dStep)), some (.ref l), some (.ref S.length), y3, y4, none] (S ++ [.lst ((can ss L ss.length).map dN)]) := by
  let env (y3 y4 : Option D) : Mi.Env := [some (.lst (ss.map dStep)), some (.ref l), some (.ref S.length), y3, y4, none]
  let I : Nat → Mi.Env → Store → Prop := fun i r S' => ∃ y3 y4, r = env y3 y4 ∧ S' = S ++ [.lst ((can ss L i).map dN)]
  have hsrc : evSrc (Cf k) (.enum (.var 0)) (env none none) (S ++ [Obj.lst []]) = .ok ((ss.map dStep).zipIdx.map fun p => .tup [natI p.2, p.1], []) (S ++ [Obj.lst []]) := by
    simp [env]
  unfold f0_l0
  rw [r_for hsrc]
  have step : ∀ i x r S', ((ss.map dStep).zipIdx.map fun p => D.tup [natI p.2, p.1])[i]? = some x → I i r S' → ∃ r1 S1, (forBody (Cf k) (.tp [3, 4]) f0_b0 (S ++ [Obj.lst []]).length x r S' = .nx r1 S1 ∨ forBody (Cf k) (.tp [3, 4]) f0_b0 (S ++ [Obj.lst []]).length x r S' = .ct r1 S1) ∧ I (i + 1) r1 S1 := by
    rintro i x r S' hx ⟨y3, y4, rfl, rfl⟩
    rw [List.getElem?_map, List.getElem?_zipIdx, List.getElem?_map] at hx
    cases hs : ss[i]? with
    | none => rw [hs] at hx; cases hx
    | some s =>
      rw [hs] at hx
      simp at hx
      subst hx
      have hi : i < ss.length := (List.getElem?_eq_some_iff.mp hs).1
      have hm := List.mem_of_getElem? hs
      have hc := can_c0 (k := k) (S := S ++ [.lst ((can ss L i).map dN)]) (l := l) (L := L) (s := s) (x0 := some (.lst (ss.map dStep))) (x2 := some (.ref S.length)) (x3 := some (dN i)) (x5 := none) (get_app hS _) (fun o ho => by rw [hL]; exact hin s hm o ho) (hg.num s hm).2.2.2.2.2.2
      have ha := at_get (L := L) (k := i) (by omega)
      have hlen : (can ss L i).length < line := by
        have := List.length_filter_le (canB ss L) (List.range i)
        have h2 := hg.len
        rw [List.length_range] at this
        unfold can line
        omega
      have cs : can ss L (i + 1) = can ss L i ++ if canB ss L i then [i] else [] := by
        unfold can
        rw [List.range_succ, List.filter_append]
        cases hb : canB ss L i <;> simp [hb]
      refine ⟨env (some (dN i)) (some (dStep s)), S ++ [.lst ((can ss L (i + 1)).map dN)], .inl ?_, _, _, rfl, rfl⟩
      unfold forBody
      have eb : canB ss L i = (decide (0 < at0 L i) && s.a.all fun o => decide (at0 L o = 0)) := by
        unfold canB; rw [hs]
      rw [cs, eb]
      by_cases h1 : 0 < at0 L i
      · cases h2 : s.a.all fun o => decide (at0 L o = 0) with
        | true =>
          simp [-List.map_map, setT, env, f0_b0, get_app hS, ha, h1, hc, all_map_bl, h2, hlen]
        | false =>
          simp [-List.map_map, setT, env, f0_b0, get_app hS, ha, h1, hc, all_map_bl, h2, hlen]
      · simp [setT, env, f0_b0, get_app hS, ha, h1]
  obtain ⟨r', S', e, y3, y4, rfl, rfl⟩ := forLoop_run (g := []) (f := forBody (Cf k) (.tp [3, 4]) f0_b0 (S ++ [Obj.lst []]).length) I (fun _ _ _ _ _ => rfl) step (r := env none none) (S := S ++ [Obj.lst []]) ⟨none, none, rfl, rfl⟩
  refine ⟨y3, y4, ?_⟩
  rw [e]
  simp [env]
theorem can_ok {k : Nat} {S : Store} {l : Nat} {L : List Int} {ss : List Step} (hS : S[l]? = some (.lst (L.map .int))) (hg : Good ss) (hL : L.length = ss.length) (hin : ∀ s ∈ ss, ∀ o ∈ s.a, o < ss.length) :
    callF Pm (k + 1) 0 [.lst (ss.map dStep), .ref l] S = .ok (.lst ((can ss L ss.length).map dN)) S := by
  obtain ⟨y3, y4, e⟩ := can_l0 (k := k) (n0 := S.length) hS hg hL hin
  rw [call_eq (fn := f0) rfl ⟨rfl, by decide⟩]
  simp [f0, startE, newL, line, e]
  exact freeze_app (frz_ref (Nat.le_refl _) (by simp) (lows_dN _))
/-! the law's own -/
theorem mine_c0 {k : Nat} {S : Store} {l i : Nat} {L : List Int} {ss : List Step} {s : Step} {x3 : Option D} (hS : S[l]? = some (.lst (L.map .int))) (hs : ss[i]? = some s) (ha : ∀ o ∈ s.a, o < L.length) (hl : s.a.length ≤ 12) :
    evE (Cf k) f6_c0 [some (.lst (ss.map dStep)), some (.ref l), some (dN i), x3] S = .ok (.lst ((s.a.filter fun o => decide (0 < at0 L o)).map dN)) S := by
  unfold f6_c0
  simp [hs, dStep]
  have key := kComp_pure (c := Cf k) (r := [some (.lst (ss.map dStep)), some (.ref l), some (dN i), x3]) (S := S) (e := .var 3) (t := .nm 3) (cond := some ()) (cd := .b2 .gt (.b2 .ix (.var 1) (.var 3)) (.lit (.int 0))) (own := [3]) (g := []) (ys := s.a) dN (fun o => if 0 < at0 L o then some (dN o) else none) (by unfold line; omega)
    (fun y _ z e => by split at e <;> cases e; rfl) (fun o ho acc => ?_) (fun _ => rfl)
  · rw [key]
    congr 2
    induction s.a with
    | nil => rfl
    | cons x xs ih =>
      by_cases h : 0 < at0 L x <;> simp [h, ih]
  · have h1 := at_get (ha o ho)
    by_cases h : 0 < at0 L o <;> simp [compBody, setT, wipeE, compItem, get_app hS, h1, h]
theorem mine_ok {k : Nat} {S : Store} {l : Nat} {L : List Int} {ss : List Step} (hS : S[l]? = some (.lst (L.map .int))) (hg : Good ss) (hL : L.length = ss.length) (hin : ∀ s ∈ ss, ∀ o ∈ s.a, o < ss.length) (hp : ∀ k, 0 ≤ at0 L k) :
    callF Pm (k + 1) 6 [.lst (ss.map dStep), .ref l] S = .ok (.lst ((can ss L ss.length).map dN)) S := by
  rw [call_eq (fn := f6) rfl ⟨rfl, by decide⟩]
  have hlen := hg.len
  have h1 : (ss.length : Int).natAbs < 1000000000000 := by omega
  have hr : rangeD 0 (ss.length : Int) = (List.range ss.length).map dN := by
    refine List.ext_getElem? fun i => ?_
    by_cases hi : i < ss.length
    · cases q : (rangeD 0 (ss.length : Int))[i]? with
      | none =>
        have := List.getElem?_eq_none_iff.mp q
        rw [range_len] at this
        omega
      | some x =>
        rw [(range_get q).1]
        simp [hi]
    · rw [List.getElem?_eq_none (by rw [range_len]; omega), List.getElem?_eq_none (by simp; omega)]
  have key := kComp_pure (c := Cf k) (r := [some (.lst (ss.map dStep)), some (.ref l), none, none]) (S := S) (e := .var 2) (t := .nm 2) (cond := some ()) (cd := .and (.b2 .gt (.b2 .ix (.var 1) (.var 2)) (.lit (.int 0))) (.b2 .eq f6_c0 (.lst false .nil))) (own := [2]) (g := []) (ys := List.range ss.length) dN (fun o => if canB ss L o = true then some (dN o) else none) (by simp [line]; omega)
    (fun y _ z e => by split at e <;> cases e; rfl) (fun i hi acc => ?_) (fun _ => rfl)
  · simp [f6, startE]
    unfold f6_c1
    have h1' : ss.length < 1000000000000 := by omega
    simp [h1', hr, key]
    unfold can
    induction (List.range ss.length) with
    | nil => rfl
    | cons x xs ih =>
      by_cases h : canB ss L x = true <;> simp [h, ih]
  · have hi' : i < ss.length := by simpa using hi
    obtain ⟨s, hs⟩ : ∃ s, ss[i]? = some s := ⟨_, List.getElem?_eq_getElem hi'⟩
    have hm := List.mem_of_getElem? hs
    have ha := at_get (L := L) (k := i) (by omega)
    have hc := mine_c0 (k := k) (S := S ++ [.lst acc]) (x3 := none) (get_app hS _) hs (fun o ho => by rw [hL]; exact hin s hm o ho) (hg.num s hm).2.2.2.2.2.2
    have eb : canB ss L i = (decide (0 < at0 L i) && s.a.all fun o => decide (at0 L o = 0)) := by
      unfold canB; rw [hs]
    have q : (s.a.all fun o => decide (at0 L o = 0)) = decide ((s.a.filter fun o => decide (0 < at0 L o)) = []) := by
      rw [Bool.eq_iff_iff]
      simp only [List.all_eq_true, decide_eq_true_eq, List.filter_eq_nil_iff]
      refine ⟨fun h o ho => by rw [h o ho]; decide, fun h o ho => ?_⟩
      have := h o ho
      have := hp o
      omega
    rw [eb, q]
    by_cases h : 0 < at0 L i
    · simp [compBody, setT, wipeE, compItem, get_app hS, ha, h, hc, newL, line, eq_nil_dN]
      by_cases hh : ∀ o ∈ s.a, at0 L o ≤ 0
      · rw [decide_eq_true hh, if_pos hh]
      · rw [decide_eq_false hh, if_neg hh]
    · simp [compBody, setT, wipeE, compItem, get_app hS, ha, h]
/-! ### one beat -/
def deal (L : List Int) : Int → List Nat → List (Nat × Int)
  | _, [] => []
  | f, n :: ns => if 0 < (if at0 L n < f then at0 L n else f) then (n, if at0 L n < f then at0 L n else f) :: deal L (f - if at0 L n < f then at0 L n else f) ns else deal L f ns
def after (L : List Int) : List (Nat × Int) → List Int
  | [] => L
  | p :: r => after (L.set p.1 (at0 L p.1 - p.2)) r
def dDeal (p : Nat × Int) : D := .tup [dN p.1, .int p.2]
theorem deal_len (L : List Int) : ∀ (ns : List Nat) (f : Int), (deal L f ns).length ≤ ns.length
  | [], _ => Nat.le_refl _
  | n :: ns, f => by
    rw [deal]
    by_cases h : 0 < (if at0 L n < f then at0 L n else f)
    · rw [if_pos h]
      have := deal_len L ns (f - if at0 L n < f then at0 L n else f)
      simp only [List.length_cons]
      omega
    · rw [if_neg h]
      have := deal_len L ns f
      simp only [List.length_cons]
      omega
theorem after_len : ∀ (b : List (Nat × Int)) (L : List Int), (after L b).length = L.length
  | [], L => rfl
  | p :: b, L => by rw [after, after_len b]; simp
theorem tt_l0 {k : Nat} {S : Store} {l n0 : Nat} {L : List Int} {ss : List Step} {f : Int} {x1 x3 x4 x7 x8 : Option D} (hS : S[l]? = some (.lst (L.map .int))) (hg : Good ss) (hL : L.length = ss.length) (hin : ∀ s ∈ ss, ∀ o ∈ s.a, o < ss.length) :
    ∃ y5 y7 y8, evS (Cf (k + 1)) f1_l0 n0 [some (.lst (ss.map dStep)), x1, some (.ref l), x3, x4, some (.int f), some (.ref S.length), x7, x8] (S ++ [.lst []]) = .nx [some (.lst (ss.map dStep)), x1, some (.ref l), x3, x4, y5, some (.ref S.length), y7, y8] (S ++ [.lst ((deal L f (can ss L ss.length)).map dDeal)]) := by
  have hC : ∀ n ∈ can ss L ss.length, n < L.length := fun n hn => by
    have := (List.mem_filter.mp hn).1
    rw [hL]; exact List.mem_range.mp this
  have lC : (can ss L ss.length).length ≤ 12 := by
    have := List.length_filter_le (canB ss L) (List.range ss.length)
    rw [List.length_range] at this
    exact Nat.le_trans this hg.len
  have hc := can_ok (k := k) (S := S ++ [Obj.lst []]) (get_app hS _) hg hL hin
  generalize can ss L ss.length = C at hC lC hc
  let env (f : Int) (x7 x8 : Option D) : Mi.Env := [some (.lst (ss.map dStep)), x1, some (.ref l), x3, x4, some (.int f), some (.ref S.length), x7, x8]
  let I : Nat → Mi.Env → Store → Prop := fun i r S' => ∃ (f' : Int) (bt : List (Nat × Int)) (y7 y8 : Option D), r = env f' y7 y8 ∧ S' = S ++ [.lst (bt.map dDeal)] ∧ bt ++ deal L f' (C.drop i) = deal L f C
  have hsrc : evSrc (Cf (k + 1)) (.it (.call 0 (.cons (.var 0) (.cons (.var 2) .nil)))) (env f x7 x8) (S ++ [Obj.lst []]) = .ok (C.map dN, []) (S ++ [Obj.lst []]) := by
    simp [env, hc]
  unfold f1_l0
  rw [r_for hsrc]
  have step : ∀ i x r S', (C.map dN)[i]? = some x → I i r S' → ∃ r1 S1, (forBody (Cf (k + 1)) (.nm 7) f1_b0 (S ++ [Obj.lst []]).length x r S' = .nx r1 S1 ∨ forBody (Cf (k + 1)) (.nm 7) f1_b0 (S ++ [Obj.lst []]).length x r S' = .ct r1 S1) ∧ I (i + 1) r1 S1 := by
    rintro i x r S' hx ⟨f', bt, y7, y8, rfl, rfl, hb⟩
    rw [List.getElem?_map] at hx
    obtain ⟨n, hn, rfl⟩ := Option.map_eq_some_iff.mp hx
    have hi : i < C.length := (List.getElem?_eq_some_iff.mp hn).1
    have ei : C[i] = n := (List.getElem?_eq_some_iff.mp hn).2
    have ha := at_get (hC n (List.mem_of_getElem? hn))
    rw [List.drop_eq_getElem_cons hi, ei, deal] at hb
    have hbl : bt.length < 16777216 := by
      have h1 := deal_len L C f
      rw [← hb, List.length_append] at h1
      omega
    by_cases hm : 0 < (if at0 L n < f' then at0 L n else f')
    · rw [if_pos hm] at hb
      refine ⟨env (f' - if at0 L n < f' then at0 L n else f') (some (dN n)) (some (.int (if at0 L n < f' then at0 L n else f'))), S ++ [.lst ((bt ++ [(n, if at0 L n < f' then at0 L n else f')]).map dDeal)], .inl ?_, _, _, _, _, rfl, rfl, by simpa using hb⟩
      unfold forBody
      simp [setT, env, f1_b0, get_app hS, ha, hm, hbl, newT, line, dDeal]
    · rw [if_neg hm] at hb
      refine ⟨env f' (some (dN n)) (some (.int (if at0 L n < f' then at0 L n else f'))), S ++ [.lst (bt.map dDeal)], .inl ?_, _, _, _, _, rfl, rfl, hb⟩
      unfold forBody
      simp [setT, env, f1_b0, get_app hS, ha, hm]
  obtain ⟨r', S', e, f', bt, y7, y8, rfl, rfl, hb⟩ := forLoop_run (g := []) (f := forBody (Cf (k + 1)) (.nm 7) f1_b0 (S ++ [Obj.lst []]).length) I (fun _ _ _ _ _ => rfl) step (r := env f x7 x8) (S := S ++ [Obj.lst []]) ⟨f, [], x7, x8, rfl, rfl, rfl⟩
  rw [List.length_map, List.drop_length, deal, List.append_nil] at hb
  exact ⟨_, _, _, by rw [e, ← hb]⟩
theorem tt_l1 {k : Nat} {S : Store} {l n0 : Nat} {L : List Int} {b : List (Nat × Int)} {x0 x1 x3 x4 x5 x7 x8 : Option D} (hS : S[l]? = some (.lst (L.map .int))) (hb : ∀ p ∈ b, p.1 < L.length) :
    ∃ y7 y8, evS (Cf k) f1_l1 n0 [x0, x1, some (.ref l), x3, x4, x5, some (.ref S.length), x7, x8] (S ++ [.lst (b.map dDeal)]) = .nx [x0, x1, some (.ref l), x3, x4, x5, some (.ref S.length), y7, y8] (S.set l (.lst ((after L b).map .int)) ++ [.lst (b.map dDeal)]) := by
  let env (x7 x8 : Option D) : Mi.Env := [x0, x1, some (.ref l), x3, x4, x5, some (.ref S.length), x7, x8]
  have hl : l < S.length := (List.getElem?_eq_some_iff.mp hS).1
  let I : Nat → Mi.Env → Store → Prop := fun i r S' => ∃ (L' : List Int) (y7 y8 : Option D), r = env y7 y8 ∧ S' = S.set l (.lst (L'.map .int)) ++ [.lst (b.map dDeal)] ∧ after L' (b.drop i) = after L b ∧ L'.length = L.length
  have hsrc : evSrc (Cf k) (.it (.var 6)) (env x7 x8) (S ++ [.lst (b.map dDeal)]) = .ok (b.map dDeal, [(S.length, b.map dDeal)]) (S ++ [.lst (b.map dDeal)]) := by
    simp [env]
  unfold f1_l1
  rw [r_for hsrc]
  have st : ∀ i r S', i ≤ (b.map dDeal).length → I i r S' → stands [(S.length, b.map dDeal)] S' = true := by
    rintro i r S' _ ⟨L', y7, y8, rfl, rfl, _, _⟩
    have e : (S.set l (Obj.lst (L'.map .int)) ++ [Obj.lst (b.map dDeal)])[S.length]? = some (.lst (b.map dDeal)) := by
      rw [List.getElem?_append_right (by simp)]; simp
    simp [stands, e]
  have step : ∀ i x r S', (b.map dDeal)[i]? = some x → I i r S' → ∃ r1 S1, (forBody (Cf k) (.tp [7, 8]) f1_b1 (S ++ [Obj.lst (b.map dDeal)]).length x r S' = .nx r1 S1 ∨ forBody (Cf k) (.tp [7, 8]) f1_b1 (S ++ [Obj.lst (b.map dDeal)]).length x r S' = .ct r1 S1) ∧ I (i + 1) r1 S1 := by
    rintro i x r S' hx ⟨L', y7, y8, rfl, rfl, ha, hl'⟩
    rw [List.getElem?_map] at hx
    obtain ⟨p, hp, rfl⟩ := Option.map_eq_some_iff.mp hx
    have hi : i < b.length := (List.getElem?_eq_some_iff.mp hp).1
    have ei : b[i] = p := (List.getElem?_eq_some_iff.mp hp).2
    have hpl := hb p (List.mem_of_getElem? hp)
    have hat := at_get (L := L') (k := p.1) (by omega)
    rw [List.drop_eq_getElem_cons hi, ei, after] at ha
    have eS : (S.set l (Obj.lst (L'.map .int)) ++ [Obj.lst (b.map dDeal)])[l]? = some (.lst (L'.map .int)) := get_app (by simp [hl]) _
    refine ⟨env (some (dN p.1)) (some (.int p.2)), S.set l (.lst ((L'.set p.1 (at0 L' p.1 - p.2)).map .int)) ++ [.lst (b.map dDeal)], .inl ?_, _, _, _, rfl, rfl, ha, by simp [hl']⟩
    unfold forBody
    have hpl' : p.1 < L'.length := by omega
    have e0 : L'[p.1]'hpl' = at0 L' p.1 := by simp [at0, List.getD_eq_getElem?_getD, hpl']
    simp [setT, env, f1_b1, dDeal, eS, hat, hpl', hl, e0]
  obtain ⟨r', S', e, L', y7, y8, rfl, rfl, ha, _⟩ := forLoop_run (g := [(S.length, b.map dDeal)]) (f := forBody (Cf k) (.tp [7, 8]) f1_b1 (S ++ [Obj.lst (b.map dDeal)]).length) I st step (r := env x7 x8) (S := S ++ [Obj.lst (b.map dDeal)]) ⟨L, x7, x8, rfl, by rw [set_same hS], rfl, rfl⟩
  rw [List.length_map, List.drop_length, after] at ha
  exact ⟨_, _, by rw [e, ha]⟩
end K74
/-! k74: the plan of all beats. -/
namespace K74
open Mi
theorem at_set {L : List Int} {i k : Nat} {v : Int} (h : i < L.length) : at0 (L.set i v) k = if i = k then v else at0 L k := by
  simp only [at0, List.getD_eq_getElem?_getD]
  by_cases e : i = k
  · subst e; simp [h]
  · rw [List.getElem?_set_ne e, if_neg e]
theorem sum_set : ∀ {L : List Int} {i : Nat} {v : Int}, i < L.length → (L.set i v).sum = L.sum - at0 L i + v
  | [], _, _, h => absurd h (Nat.not_lt_zero _)
  | x :: L, 0, v, _ => by simp [at0]; omega
  | x :: L, i + 1, v, h => by
    have := sum_set (L := L) (i := i) (v := v) (by simpa using h)
    have e : at0 (x :: L) (i + 1) = at0 L i := by simp [at0]
    rw [List.set_cons_succ, List.sum_cons, List.sum_cons, this, e]; omega
theorem sum_nonneg : ∀ {L : List Int}, (∀ k, 0 ≤ at0 L k) → 0 ≤ L.sum
  | [], _ => by simp
  | x :: L, h => by
    have h0 : 0 ≤ x := h 0
    have := sum_nonneg (L := L) fun k => h (k + 1)
    rw [List.sum_cons]; omega
theorem sum_at : ∀ {L : List Int} (k : Nat), (∀ k, 0 ≤ at0 L k) → at0 L k ≤ L.sum
  | [], k, _ => by simp [at0]
  | x :: L, 0, h => by
    have := sum_nonneg (L := L) fun k => h (k + 1)
    have e : at0 (x :: L) 0 = x := rfl
    rw [List.sum_cons, e]; omega
  | x :: L, k + 1, h => by
    have h0 : 0 ≤ x := h 0
    have e : at0 (x :: L) (k + 1) = at0 L k := by simp [at0]
    have := sum_at (L := L) k fun k => h (k + 1)
    rw [List.sum_cons, e]; omega
theorem sum_pos : ∀ {L : List Int}, 0 < L.sum → ∃ k, k < L.length ∧ 0 < at0 L k
  | [], h => by simp at h
  | x :: L, h => by
    by_cases hx : 0 < x
    · exact ⟨0, by simp, hx⟩
    · rw [List.sum_cons] at h
      obtain ⟨k, hk, h2⟩ := sum_pos (L := L) (by omega)
      exact ⟨k + 1, by simpa using hk, by simpa [at0] using h2⟩
/-- what a beat may be -/
structure Beat (L : List Int) (b : List (Nat × Int)) : Prop where
  mem : ∀ p ∈ b, p.1 < L.length ∧ 0 < p.2 ∧ p.2 ≤ at0 L p.1
  nd : (b.map (·.1)).Nodup
theorem after_ok : ∀ {b : List (Nat × Int)} {L : List Int}, Beat L b → (∀ k, 0 ≤ at0 L k) → (∀ k, 0 ≤ at0 (after L b) k) ∧ (after L b).sum + b.length ≤ L.sum ∧ ∀ k, at0 (after L b) k ≤ at0 L k
  | [], L, _, h => ⟨h, by simp [after], fun k => Int.le_refl _⟩
  | p :: b, L, hb, h => by
    obtain ⟨m1, m2, m3⟩ := hb.mem p List.mem_cons_self
    have nd := hb.nd
    rw [List.map_cons, List.nodup_cons] at nd
    have hb' : Beat (L.set p.1 (at0 L p.1 - p.2)) b := by
      refine ⟨fun q hq => ?_, nd.2⟩
      obtain ⟨q1, q2, q3⟩ := hb.mem q (List.mem_cons_of_mem _ hq)
      have ne : p.1 ≠ q.1 := fun e => nd.1 (List.mem_map.mpr ⟨q, hq, e.symm⟩)
      refine ⟨by simpa using q1, q2, ?_⟩
      rw [at_set m1, if_neg ne]
      exact q3
    have h' : ∀ k, 0 ≤ at0 (L.set p.1 (at0 L p.1 - p.2)) k := fun k => by
      rw [at_set m1]
      split
      · omega
      · exact h k
    obtain ⟨r1, r2, r3⟩ := after_ok hb' h'
    rw [after]
    refine ⟨r1, ?_, fun k => ?_⟩
    · rw [sum_set m1] at r2
      simp only [List.length_cons]
      omega
    · have := r3 k
      rw [at_set m1] at this
      split at this
      · rename_i e; subst e; omega
      · exact this
theorem deal_mem {L : List Int} : ∀ {ns : List Nat} {f : Int} {p : Nat × Int}, p ∈ deal L f ns → p.1 ∈ ns ∧ 0 < p.2 ∧ p.2 ≤ at0 L p.1
  | [], _, _, h => by simp [deal] at h
  | n :: ns, f, p, h => by
    rw [deal] at h
    by_cases hm : 0 < (if at0 L n < f then at0 L n else f)
    · rw [if_pos hm] at h
      rcases List.mem_cons.mp h with h | h
      · subst h
        refine ⟨List.mem_cons_self, hm, ?_⟩
        show (if at0 L n < f then at0 L n else f) ≤ at0 L n
        split <;> omega
      · have := deal_mem h
        exact ⟨List.mem_cons_of_mem _ this.1, this.2⟩
    · rw [if_neg hm] at h
      have := deal_mem h
      exact ⟨List.mem_cons_of_mem _ this.1, this.2⟩
theorem deal_sub {L : List Int} : ∀ {ns : List Nat} {f : Int}, ((deal L f ns).map (·.1)).Sublist ns
  | [], _ => List.Sublist.refl _
  | n :: ns, f => by
    rw [deal]
    by_cases hm : 0 < (if at0 L n < f then at0 L n else f)
    · rw [if_pos hm]; exact (deal_sub (ns := ns)).cons₂ n
    · rw [if_neg hm]; exact (deal_sub (ns := ns)).cons n
theorem can_mem {ss : List Step} {L : List Int} {n k : Nat} : k ∈ can ss L n ↔ k < n ∧ canB ss L k = true := by
  unfold can
  rw [List.mem_filter, List.mem_range]
theorem can_nd {ss : List Step} {L : List Int} {n : Nat} : (can ss L n).Nodup := List.nodup_range.sublist List.filter_sublist
theorem deal_beat {ss : List Step} {L : List Int} {f : Int} (hL : L.length = ss.length) : Beat L (deal L f (can ss L ss.length)) := by
  refine ⟨fun p hp => ?_, can_nd.sublist deal_sub⟩
  obtain ⟨h1, h2, h3⟩ := deal_mem hp
  exact ⟨by rw [hL]; exact (can_mem.mp h1).1, h2, h3⟩
theorem can_pos {ss : List Step} {L : List Int} {k n : Nat} (h : k ∈ can ss L n) : 0 < at0 L k := by
  have := (can_mem.mp h).2
  unfold canB at this
  rw [Bool.and_eq_true, decide_eq_true_eq] at this
  exact this.1
/-- while something is left, something can be done -/
theorem can_some {ss : List Step} {L : List Int} (hg : Good ss) (hL : L.length = ss.length) (hp : ∀ k, 0 ≤ at0 L k) (hs : 0 < L.sum) : can ss L ss.length ≠ [] := by
  obtain ⟨U, pU, hU⟩ := hg.ord
  obtain ⟨k0, hk0, hpos⟩ := sum_pos hs
  have key : ∀ j : Nat, (∃ k : Nat, U[j]? = some k ∧ 0 < at0 L k) → ∃ k, k ∈ can ss L ss.length := by
    intro j
    induction j using Nat.strongRecOn with
    | ind j ih =>
      rintro ⟨k, hk, hpk⟩
      by_cases hz : ∃ j' : Nat, j' < j ∧ ∃ k : Nat, U[j']? = some k ∧ 0 < at0 L k
      · obtain ⟨j', hj', q⟩ := hz
        exact ih j' hj' q
      · have hks : k < ss.length := List.mem_range.mp (pU.mem_iff.mp (List.mem_of_getElem? hk))
        obtain ⟨s, hs⟩ : ∃ s, ss[k]? = some s := ⟨_, List.getElem?_eq_getElem hks⟩
        refine ⟨k, can_mem.mpr ⟨hks, ?_⟩⟩
        unfold canB
        rw [hs, Bool.and_eq_true, decide_eq_true_eq, List.all_eq_true]
        refine ⟨hpk, fun o ho => ?_⟩
        have m := hU j k s hk hs o ho
        obtain ⟨i, hi⟩ := List.mem_iff_getElem?.mp m
        rw [List.getElem?_take] at hi
        split at hi
        · rename_i hij
          rw [decide_eq_true_eq]
          have h0 := hp o
          by_cases q : 0 < at0 L o
          · exact absurd ⟨i, hij, o, hi, q⟩ hz
          · omega
        · cases hi
  obtain ⟨j, hj⟩ := List.mem_iff_getElem?.mp (pU.mem_iff.mpr (List.mem_range.mpr (show k0 < ss.length by rw [← hL]; exact hk0)))
  obtain ⟨k, hk⟩ := key j ⟨k0, hj, hpos⟩
  exact List.ne_nil_of_mem hk
theorem deal_some {L : List Int} {f : Int} {ns : List Nat} (hf : 1 ≤ f) (hn : ns ≠ []) (hp : ∀ n ∈ ns, 0 < at0 L n) : deal L f ns ≠ [] := by
  cases ns with
  | nil => exact absurd rfl hn
  | cons n ns =>
    have := hp n List.mem_cons_self
    rw [deal, if_pos (by split <;> omega)]
    exact List.cons_ne_nil _ _
/-- all beats -/
def plan (ss : List Step) (h : Int) : Nat → List Int → List (List (Nat × Int))
  | 0, _ => []
  | j + 1, L => if 0 < L.sum then deal L h (can ss L ss.length) :: plan ss h j (after L (deal L h (can ss L ss.length))) else []
structure Left (ss : List Step) (j : Nat) (L : List Int) : Prop where
  len : L.length = ss.length
  pos : ∀ k, 0 ≤ at0 L k
  sum : L.sum ≤ j
theorem left_step {ss : List Step} {h : Int} {j : Nat} {L : List Int} (hg : Good ss) (h1 : 1 ≤ h) (hl : Left ss (j + 1) L) (hs : 0 < L.sum) : Left ss j (after L (deal L h (can ss L ss.length))) := by
  have hb := deal_beat (f := h) hl.len
  obtain ⟨a1, a2, a3⟩ := after_ok hb hl.pos
  have ne := deal_some (f := h) h1 (can_some hg hl.len hl.pos hs) fun n hn => can_pos hn
  have : 0 < (deal L h (can ss L ss.length)).length := List.length_pos_iff.mpr ne
  have hsm := hl.sum
  exact ⟨by rw [after_len]; exact hl.len, a1, by omega⟩
end K74
/-! k74: timetable. -/
namespace K74
open Mi
/-- the store of a timetable in the making -/
def refs (n m : Nat) : List D := (List.range m).map fun j => .ref (n + 2 + j)
def bts (d : List (List (Nat × Int))) : Store := d.map fun b => .lst (b.map dDeal)
def TS (S0 : Store) (L : List Int) (d : List (List (Nat × Int))) : Store := S0 ++ (.lst (L.map .int) :: .lst (refs S0.length d.length) :: bts d)
section
variable {S0 : Store} {L L' : List Int} {d : List (List (Nat × Int))} {b : List (Nat × Int)}
theorem TS_len : (TS S0 L d).length = S0.length + 2 + d.length := by simp [TS, bts]; omega
theorem TS_left : (TS S0 L d)[S0.length]? = some (.lst (L.map .int)) := by simp [TS]
theorem TS_beats (X : Store) : (TS S0 L d ++ X)[S0.length + 1]? = some (.lst (refs S0.length d.length)) := by
  rw [List.getElem?_append_left (by rw [TS_len]; omega)]
  simp [TS]
theorem TS_set : (TS S0 L d).set S0.length (.lst (L'.map .int)) = TS S0 L' d := by simp [TS]
theorem refs_snoc (n m : Nat) : refs n (m + 1) = refs n m ++ [.ref (n + 2 + m)] := by simp [refs, List.range_succ]
theorem TS_push : (TS S0 L d ++ [Obj.lst (b.map dDeal)]).set (S0.length + 1) (.lst (refs S0.length d.length ++ [D.ref (S0.length + 2 + d.length)])) = TS S0 L (d ++ [b]) := by
  simp [TS, refs_snoc, bts]
end
/-- one turn of the while -/
theorem tt_b2 {k : Nat} {S0 : Store} {L : List Int} {d : List (List (Nat × Int))} {ss : List Step} {h : Int} {n0 : Nat} {x3 x5 x6 x7 x8 : Option D} (hg : Good ss) (hL : L.length = ss.length) (hin : ∀ s ∈ ss, ∀ o ∈ s.a, o < ss.length) (hd : d.length < 10000) :
    ∃ y5 y6 y7 y8, evSs (Cf (k + 1)) f1_b2 n0 [some (.lst (ss.map dStep)), some (.int h), some (.ref S0.length), x3, some (.ref (S0.length + 1)), x5, x6, x7, x8] (TS S0 L d) =
      .nx [some (.lst (ss.map dStep)), some (.int h), some (.ref S0.length), x3, some (.ref (S0.length + 1)), y5, y6, y7, y8] (TS S0 (after L (deal L h (can ss L ss.length))) (d ++ [deal L h (can ss L ss.length)])) := by
  obtain ⟨z5, z7, z8, e0⟩ := tt_l0 (k := k) (S := TS S0 L d) (l := S0.length) (n0 := n0) (f := h) (x1 := some (.int h)) (x3 := x3) (x4 := some (.ref (S0.length + 1))) (x7 := x7) (x8 := x8) TS_left hg hL hin
  have hb := deal_beat (L := L) (f := h) hL
  generalize deal L h (can ss L ss.length) = b at e0 hb
  obtain ⟨w7, w8, e1⟩ := tt_l1 (k := k + 1) (S := TS S0 L d) (l := S0.length) (n0 := n0) (L := L) (b := b) (x0 := some (.lst (ss.map dStep))) (x1 := some (.int h)) (x3 := x3) (x4 := some (.ref (S0.length + 1))) (x5 := z5) (x7 := z7) (x8 := z8) TS_left (fun p hp => (hb.mem p hp).1)
  rw [TS_set] at e1
  rw [TS_len] at e0 e1
  have hd' : (refs S0.length d.length).length < 16777216 := by simp [refs]; omega
  refine ⟨z5, some (.ref (S0.length + 2 + d.length)), w7, w8, ?_⟩
  rw [← TS_push]
  simp [f1_b2, newL, line, TS_len, e0, e1, TS_beats, hd']
theorem sum_ref {S : Store} {n : Nat} {L : List Int} (h : S[n]? = some (.lst (L.map .int))) : ev1 .sum (.ref n) S = .ok (.int L.sum) S := by
  simp only [ev1, items, h, ints_int]
theorem tt_l2 {k : Nat} {S0 : Store} {L : List Int} {ss : List Step} {h : Int} {n0 j : Nat} {x3 x5 x6 x7 x8 : Option D} (hg : Good ss) (h1 : 1 ≤ h) (hin : ∀ s ∈ ss, ∀ o ∈ s.a, o < ss.length) (hl : Left ss j L) (hj : j < 1000) :
    ∃ y5 y6 y7 y8 L', evS (Cf (k + 1)) f1_l2 n0 [some (.lst (ss.map dStep)), some (.int h), some (.ref S0.length), x3, some (.ref (S0.length + 1)), x5, x6, x7, x8] (TS S0 L []) =
      .nx [some (.lst (ss.map dStep)), some (.int h), some (.ref S0.length), x3, some (.ref (S0.length + 1)), y5, y6, y7, y8] (TS S0 L' (plan ss h j L)) := by
  let env (x5 x6 x7 x8 : Option D) : Mi.Env := [some (.lst (ss.map dStep)), some (.int h), some (.ref S0.length), x3, some (.ref (S0.length + 1)), x5, x6, x7, x8]
  let I : Nat → Mi.Env → Store → Prop := fun m r S => ∃ y5 y6 y7 y8 L' d, r = env y5 y6 y7 y8 ∧ S = TS S0 L' d ∧ Left ss m L' ∧ d ++ plan ss h m L' = plan ss h j L ∧ d.length + m ≤ 1000
  let Z : Mi.Env → Store → Prop := fun r S => ∃ y5 y6 y7 y8 L', r = env y5 y6 y7 y8 ∧ S = TS S0 L' (plan ss h j L)
  unfold f1_l2
  rw [r_while]
  obtain ⟨r', S', e, y5, y6, y7, y8, L', rfl, rfl⟩ := whileLoop_run (t := fun r' S' => evT (Cf (k + 1)) (.b2 .gt (.b1 .sum (.var 2)) (.lit (.int 0))) r' S') (f := fun r' S' => evSs (Cf (k + 1)) f1_b2 (TS S0 L []).length r' S') I Z (fun m r S hI => by
    obtain ⟨y5, y6, y7, y8, L', d, rfl, rfl, hl', hp, hdl⟩ := hI
    have ht : evT (Cf (k + 1)) (.b2 .gt (.b1 .sum (.var 2)) (.lit (.int 0))) (env y5 y6 y7 y8) (TS S0 L' d) = .ok (decide (0 < L'.sum)) (TS S0 L' d) := by
      simp [env, sum_ref TS_left]
    by_cases hs : 0 < L'.sum
    · cases m with
      | zero => have := hl'.sum; omega
      | succ m =>
        refine .inr ?_
        obtain ⟨z5, z6, z7, z8, e⟩ := tt_b2 (k := k) (S0 := S0) (L := L') (d := d) (ss := ss) (h := h) (n0 := (TS S0 L []).length) (x3 := x3) (x5 := y5) (x6 := y6) (x7 := y7) (x8 := y8) hg hl'.len hin (by omega)
        rw [plan, if_pos hs] at hp
        exact ⟨_, _, _, by rw [ht, decide_eq_true hs], .inl e, m, Nat.lt_succ_self m, z5, z6, z7, z8, _, _, rfl, rfl, left_step hg h1 hl' hs, by simpa using hp, by simp; omega⟩
    · refine .inl ⟨_, by rw [ht, decide_eq_false hs], y5, y6, y7, y8, L', rfl, ?_⟩
      have : plan ss h m L' = [] := by
        cases m with
        | zero => rfl
        | succ m => rw [plan, if_neg hs]
      rw [this, List.append_nil] at hp
      rw [hp]) (Cf (k + 1)).w j (env x5 x6 x7 x8) (TS S0 L []) (by show j < 2000; omega) ⟨x5, x6, x7, x8, L, [], rfl, rfl, hl, rfl, by simp; omega⟩
  exact ⟨y5, y6, y7, y8, L', e⟩
def W (ss : List Step) : List Int := ss.map Step.w
theorem good_left {ss : List Step} (hg : Good ss) : Left ss 708 (W ss) := by
  refine ⟨by simp [W], fun k => ?_, ?_⟩
  · simp only [at0, W, List.getD_eq_getElem?_getD, List.getElem?_map]
    cases q : ss[k]? with
    | none => simp
    | some s =>
      have := (hg.num s (List.mem_of_getElem? q)).2.2.2.2.1
      simp
      omega
  · have key : ∀ xs : List Step, (∀ s ∈ xs, s.w ≤ 59) → (xs.map Step.w).sum ≤ 59 * xs.length := by
      intro xs
      induction xs with
      | nil => intro _; simp
      | cons x xs ih =>
        intro h
        have h1 := h x List.mem_cons_self
        have h2 := ih fun s hs => h s (List.mem_cons_of_mem _ hs)
        simp only [List.map_cons, List.sum_cons, List.length_cons]
        omega
    have := key ss fun s hs => (hg.num s hs).2.2.2.2.2.1
    have hl := hg.len
    unfold W
    omega
theorem good_in {ss : List Step} (hg : Good ss) : ∀ s ∈ ss, ∀ o ∈ s.a, o < ss.length := fun s hs o ho => by
  obtain ⟨U, pU, hU⟩ := hg.ord
  obtain ⟨k, hk⟩ := List.mem_iff_getElem?.mp hs
  have hks : k < ss.length := (List.getElem?_eq_some_iff.mp hk).1
  obtain ⟨j, hj⟩ := List.mem_iff_getElem?.mp (pU.mem_iff.mpr (List.mem_range.mpr hks))
  have m := List.mem_of_mem_take (hU j k s hj hk o ho)
  exact List.mem_range.mp (pU.mem_iff.mp m)
theorem tt_c0 {k : Nat} {S : Store} {ss : List Step} {x1 x2 x3 x4 x5 x6 x7 x8 : Option D} (hg : Good ss) :
    evE (Cf k) f1_c0 [some (.lst (ss.map dStep)), x1, x2, x3, x4, x5, x6, x7, x8] S = .ok (.ref S.length) (S ++ [.lst ((W ss).map .int)]) := by
  unfold f1_c0
  have key := kComp_ref (c := Cf k) (r := [some (.lst (ss.map dStep)), x1, x2, x3, x4, x5, x6, x7, x8]) (S := S) (e := .b2 .ix (.var 3) (.lit (.int 2))) (t := .nm 3) (cond := none) (cd := .lit .non) (own := [3]) (g := []) (ys := ss) dStep (fun s => some (.int s.w)) (by have := hg.len; unfold line; omega)
    (fun s hs acc => by simp [compBody, setT, wipeE, compItem, dStep]) (fun _ => rfl)
  simp [key, fm_some, W]
theorem timetable_ok {k : Nat} {S : Store} {ss : List Step} {h : Int} (hg : Good ss) (h1 : 1 ≤ h) :
    ∃ L', callF Pm (k + 2) 1 [.lst (ss.map dStep), .int h] S = .ok (.ref (S.length + 1)) (TS S L' (plan ss h 708 (W ss))) := by
  obtain ⟨y5, y6, y7, y8, L', e⟩ := tt_l2 (k := k) (S0 := S) (n0 := S.length) (x3 := none) (x5 := none) (x6 := none) (x7 := none) (x8 := none) hg h1 (good_in hg) (good_left hg) (by decide)
  refine ⟨L', ?_⟩
  rw [call_eq (fn := f1) rfl ⟨rfl, by decide⟩]
  have x := e
  simp [TS, refs, bts, Cf] at x
  have c := tt_c0 (k := k + 1) (S := S) (ss := ss) (x1 := some (.int h)) (x2 := none) (x3 := none) (x4 := none) (x5 := none) (x6 := none) (x7 := none) (x8 := none) hg
  simp [f1, startE, newL, line, c, x]
  simp [TS, refs, bts]
/-! ### the law's own reckoning -/
theorem due_c1 {k : Nat} {S : Store} {b : List (Nat × Int)} {n : Nat} {x0 x1 x2 x3 x4 x6 x7 x8 x9 : Option D} (hS : S[n]? = some (.lst (b.map dDeal))) (hb : b.length < 1000) :
    evE (Cf k) f8_c1 [x0, x1, x2, x3, x4, some (.ref n), x6, x7, x8, x9] S = .ok (.lst ((b.map (·.2)).map .int)) S := by
  unfold f8_c1
  have key := kComp_pure (c := Cf k) (r := [x0, x1, x2, x3, x4, some (.ref n), x6, x7, x8, x9]) (S := S) (e := .var 9) (t := .tp [8, 9]) (cond := none) (cd := .lit .non) (own := [8, 9]) (g := [(n, b.map dDeal)]) (ys := b) dDeal (fun p => some (.int p.2)) (by unfold line; omega) (fun y _ z e => by cases e; rfl)
    (fun p hp acc => by simp [compBody, setT, wipeE, compItem, dDeal]) (fun acc => by simp [stands, get_app hS])
  simp [hS, key, fm_some]
theorem due_deal {L : List Int} {h : Int} : ∀ (ns : List Nat) (f : Int), (∀ n ∈ ns, 0 < at0 L n) → deal L f ns = match ns with
    | [] => []
    | n :: ns => if 0 < f then (n, if at0 L n < f then at0 L n else f) :: deal L (f - if at0 L n < f then at0 L n else f) ns else deal L f ns
  | [], f, _ => rfl
  | n :: ns, f, hp => by
    have h1 := hp n List.mem_cons_self
    rw [deal]
    dsimp only
    by_cases hf : 0 < f
    · rw [if_pos hf, if_pos (by split <;> omega)]
    · rw [if_neg hf, if_neg (by split <;> omega)]
theorem due_l0 {k : Nat} {S : Store} {l n0 : Nat} {L : List Int} {ss : List Step} {h : Int} {x3 x4 x6 x7 x8 x9 : Option D} (hS : S[l]? = some (.lst (L.map .int))) (hg : Good ss) (hL : L.length = ss.length) (hin : ∀ s ∈ ss, ∀ o ∈ s.a, o < ss.length) (hp : ∀ k, 0 ≤ at0 L k) :
    ∃ y6 y7, evS (Cf (k + 1)) f8_l0 n0 [some (.lst (ss.map dStep)), some (.int h), some (.ref l), x3, x4, some (.ref S.length), x6, x7, x8, x9] (S ++ [Obj.lst []]) = .nx [some (.lst (ss.map dStep)), some (.int h), some (.ref l), x3, x4, some (.ref S.length), y6, y7, x8, x9] (S ++ [Obj.lst ((deal L h (can ss L ss.length)).map dDeal)]) := by
  have hC : ∀ n ∈ can ss L ss.length, n < L.length := fun n hn => by rw [hL]; exact (can_mem.mp hn).1
  have hpos : ∀ n ∈ can ss L ss.length, 0 < at0 L n := fun n hn => can_pos hn
  have lC : (can ss L ss.length).length ≤ 12 := by
    have := List.length_filter_le (canB ss L) (List.range ss.length)
    rw [List.length_range] at this
    exact Nat.le_trans this hg.len
  have hc := mine_ok (k := k) (S := S ++ [Obj.lst []]) (get_app hS _) hg hL hin hp
  generalize can ss L ss.length = C at hC lC hc hpos
  let env (x6 x7 : Option D) : Mi.Env := [some (.lst (ss.map dStep)), some (.int h), some (.ref l), x3, x4, some (.ref S.length), x6, x7, x8, x9]
  let I : Nat → Mi.Env → Store → Prop := fun i r S' => ∃ (bt : List (Nat × Int)) (y6 y7 : Option D), r = env y6 y7 ∧ S' = S ++ [Obj.lst (bt.map dDeal)] ∧ bt ++ deal L (h - (bt.map (·.2)).sum) (C.drop i) = deal L h C
  have hsrc : evSrc (Cf (k + 1)) (.it (.call 6 (.cons (.var 0) (.cons (.var 2) .nil)))) (env x6 x7) (S ++ [Obj.lst []]) = .ok (C.map dN, []) (S ++ [Obj.lst []]) := by
    simp [env, hc]
  unfold f8_l0
  rw [r_for hsrc]
  have step : ∀ i x r S', (C.map dN)[i]? = some x → I i r S' → ∃ r1 S1, (forBody (Cf (k + 1)) (.nm 6) f8_b0 (S ++ [Obj.lst []]).length x r S' = .nx r1 S1 ∨ forBody (Cf (k + 1)) (.nm 6) f8_b0 (S ++ [Obj.lst []]).length x r S' = .ct r1 S1) ∧ I (i + 1) r1 S1 := by
    rintro i x r S' hx ⟨bt, y6, y7, rfl, rfl, hb⟩
    rw [List.getElem?_map] at hx
    obtain ⟨n, hn, rfl⟩ := Option.map_eq_some_iff.mp hx
    have hi : i < C.length := (List.getElem?_eq_some_iff.mp hn).1
    have ei : C[i] = n := (List.getElem?_eq_some_iff.mp hn).2
    have ha := at_get (hC n (List.mem_of_getElem? hn))
    have hdl := due_deal (L := L) (h := h) (C.drop i) (h - (bt.map (·.2)).sum) fun n hn => hpos n (List.mem_of_mem_drop hn)
    rw [hdl, List.drop_eq_getElem_cons hi, ei] at hb
    dsimp only at hb
    have hbl : bt.length < 1000 := by
      have h1 := deal_len L C h
      rw [← hb, List.length_append] at h1
      omega
    have hbl' : bt.length < 16777216 := by omega
    have hc1 := due_c1 (k := k + 1) (S := S ++ [Obj.lst (bt.map dDeal)]) (b := bt) (n := S.length) (x0 := some (.lst (ss.map dStep))) (x1 := some (.int h)) (x2 := some (.ref l)) (x3 := x3) (x4 := x4) (x6 := some (dN n)) (x7 := y7) (x8 := x8) (x9 := x9) (by simp) hbl
    by_cases hm : 0 < h - (bt.map (·.2)).sum
    · rw [if_pos hm] at hb
      refine ⟨env (some (dN n)) (some (.int (h - (bt.map (·.2)).sum))), S ++ [Obj.lst ((bt ++ [(n, if at0 L n < h - (bt.map (·.2)).sum then at0 L n else h - (bt.map (·.2)).sum)]).map dDeal)], .inl ?_, _, _, _, rfl, rfl, ?_⟩
      · unfold forBody
        have hm2 : (bt.map (·.2)).sum < h := by omega
        simp [-List.map_map, setT, env, f8_b0, get_app hS, ha, hc1, sum_map_int, hm2, hbl', newT, line, dDeal]
      · rw [List.append_assoc, List.singleton_append, List.map_append, List.sum_append]
        simp only [List.map_cons, List.map_nil, List.sum_cons, List.sum_nil]
        rw [← hb]
        congr 3
        omega
    · rw [if_neg hm] at hb
      refine ⟨env (some (dN n)) (some (.int (h - (bt.map (·.2)).sum))), S ++ [Obj.lst (bt.map dDeal)], .inl ?_, _, _, _, rfl, rfl, hb⟩
      unfold forBody
      have hm2 : ¬ (bt.map (·.2)).sum < h := by omega
      simp [-List.map_map, setT, env, f8_b0, get_app hS, ha, hc1, sum_map_int, hm2]
  obtain ⟨r', S', e, bt, y6, y7, rfl, rfl, hb⟩ := forLoop_run (g := []) (f := forBody (Cf (k + 1)) (.nm 6) f8_b0 (S ++ [Obj.lst []]).length) I (fun _ _ _ _ _ => rfl) step (r := env x6 x7) (S := S ++ [Obj.lst []]) ⟨[], x6, x7, rfl, rfl, by simp⟩
  rw [List.length_map, List.drop_length, deal, List.append_nil] at hb
  exact ⟨_, _, by rw [e, ← hb]⟩
theorem due_l1 {k : Nat} {S : Store} {l n0 : Nat} {L : List Int} {b : List (Nat × Int)} {x0 x1 x3 x4 x6 x7 x8 x9 : Option D} (hS : S[l]? = some (.lst (L.map .int))) (hb : ∀ p ∈ b, p.1 < L.length) :
    ∃ y6 y9, evS (Cf k) f8_l1 n0 [x0, x1, some (.ref l), x3, x4, some (.ref S.length), x6, x7, x8, x9] (S ++ [Obj.lst (b.map dDeal)]) = .nx [x0, x1, some (.ref l), x3, x4, some (.ref S.length), y6, x7, x8, y9] (S.set l (.lst ((after L b).map .int)) ++ [Obj.lst (b.map dDeal)]) := by
  let env (x6 x9 : Option D) : Mi.Env := [x0, x1, some (.ref l), x3, x4, some (.ref S.length), x6, x7, x8, x9]
  have hl : l < S.length := (List.getElem?_eq_some_iff.mp hS).1
  let I : Nat → Mi.Env → Store → Prop := fun i r S' => ∃ (L' : List Int) (y6 y9 : Option D), r = env y6 y9 ∧ S' = S.set l (.lst (L'.map .int)) ++ [Obj.lst (b.map dDeal)] ∧ after L' (b.drop i) = after L b ∧ L'.length = L.length
  have hsrc : evSrc (Cf k) (.it (.var 5)) (env x6 x9) (S ++ [Obj.lst (b.map dDeal)]) = .ok (b.map dDeal, [(S.length, b.map dDeal)]) (S ++ [Obj.lst (b.map dDeal)]) := by
    simp [env]
  unfold f8_l1
  rw [r_for hsrc]
  have st : ∀ i r S', i ≤ (b.map dDeal).length → I i r S' → stands [(S.length, b.map dDeal)] S' = true := by
    rintro i r S' _ ⟨L', y6, y9, rfl, rfl, _, _⟩
    have e : (S.set l (Obj.lst (L'.map .int)) ++ [Obj.lst (b.map dDeal)])[S.length]? = some (.lst (b.map dDeal)) := by
      rw [List.getElem?_append_right (by simp)]; simp
    simp [stands, e]
  have step : ∀ i x r S', (b.map dDeal)[i]? = some x → I i r S' → ∃ r1 S1, (forBody (Cf k) (.tp [6, 9]) f8_b1 (S ++ [Obj.lst (b.map dDeal)]).length x r S' = .nx r1 S1 ∨ forBody (Cf k) (.tp [6, 9]) f8_b1 (S ++ [Obj.lst (b.map dDeal)]).length x r S' = .ct r1 S1) ∧ I (i + 1) r1 S1 := by
    rintro i x r S' hx ⟨L', y6, y9, rfl, rfl, ha, hl'⟩
    rw [List.getElem?_map] at hx
    obtain ⟨p, hp, rfl⟩ := Option.map_eq_some_iff.mp hx
    have hi : i < b.length := (List.getElem?_eq_some_iff.mp hp).1
    have ei : b[i] = p := (List.getElem?_eq_some_iff.mp hp).2
    have hpl := hb p (List.mem_of_getElem? hp)
    have hat := at_get (L := L') (k := p.1) (by omega)
    rw [List.drop_eq_getElem_cons hi, ei, after] at ha
    have eS : (S.set l (Obj.lst (L'.map .int)) ++ [Obj.lst (b.map dDeal)])[l]? = some (.lst (L'.map .int)) := get_app (by simp [hl]) _
    refine ⟨env (some (dN p.1)) (some (.int p.2)), S.set l (.lst ((L'.set p.1 (at0 L' p.1 - p.2)).map .int)) ++ [Obj.lst (b.map dDeal)], .inl ?_, _, _, _, rfl, rfl, ha, by simp [hl']⟩
    unfold forBody
    have hpl' : p.1 < L'.length := by omega
    have e0 : L'[p.1]'hpl' = at0 L' p.1 := by simp [at0, List.getD_eq_getElem?_getD, hpl']
    simp [setT, env, f8_b1, dDeal, eS, hat, hpl', hl, e0]
  obtain ⟨r', S', e, L', y6, y9, rfl, rfl, ha, _⟩ := forLoop_run (g := [(S.length, b.map dDeal)]) (f := forBody (Cf k) (.tp [6, 9]) f8_b1 (S ++ [Obj.lst (b.map dDeal)]).length) I st step (r := env x6 x9) (S := S ++ [Obj.lst (b.map dDeal)]) ⟨L, x6, x9, rfl, by rw [set_same hS], rfl, rfl⟩
  rw [List.length_map, List.drop_length, after] at ha
  exact ⟨_, _, by rw [e, ha]⟩
theorem due_b2 {k : Nat} {S0 : Store} {L : List Int} {d : List (List (Nat × Int))} {ss : List Step} {h : Int} {n0 : Nat} {x3 x5 x6 x7 x8 x9 : Option D} (hg : Good ss) (hL : L.length = ss.length) (hin : ∀ s ∈ ss, ∀ o ∈ s.a, o < ss.length) (hp : ∀ k, 0 ≤ at0 L k) (hd : d.length < 10000) :
    ∃ y5 y6 y7 y9, evSs (Cf (k + 1)) f8_b2 n0 [some (.lst (ss.map dStep)), some (.int h), some (.ref S0.length), x3, some (.ref (S0.length + 1)), x5, x6, x7, x8, x9] (TS S0 L d) =
      .nx [some (.lst (ss.map dStep)), some (.int h), some (.ref S0.length), x3, some (.ref (S0.length + 1)), y5, y6, y7, x8, y9] (TS S0 (after L (deal L h (can ss L ss.length))) (d ++ [deal L h (can ss L ss.length)])) := by
  obtain ⟨z6, z7, e0⟩ := due_l0 (k := k) (S := TS S0 L d) (l := S0.length) (n0 := n0) (h := h) (x3 := x3) (x4 := some (.ref (S0.length + 1))) (x6 := x6) (x7 := x7) (x8 := x8) (x9 := x9) TS_left hg hL hin hp
  have hb := deal_beat (L := L) (f := h) hL
  generalize deal L h (can ss L ss.length) = b at e0 hb
  obtain ⟨w6, w9, e1⟩ := due_l1 (k := k + 1) (S := TS S0 L d) (l := S0.length) (n0 := n0) (L := L) (b := b) (x0 := some (.lst (ss.map dStep))) (x1 := some (.int h)) (x3 := x3) (x4 := some (.ref (S0.length + 1))) (x6 := z6) (x7 := z7) (x8 := x8) (x9 := x9) TS_left (fun p hp => (hb.mem p hp).1)
  rw [TS_set] at e1
  rw [TS_len] at e0 e1
  have hd' : (refs S0.length d.length).length < 16777216 := by simp [refs]; omega
  refine ⟨some (.ref (S0.length + 2 + d.length)), w6, z7, w9, ?_⟩
  rw [← TS_push]
  simp [f8_b2, newL, line, TS_len, e0, e1, TS_beats, hd']
theorem due_l2 {k : Nat} {S0 : Store} {L : List Int} {ss : List Step} {h : Int} {n0 j : Nat} {x3 x5 x6 x7 x8 x9 : Option D} (hg : Good ss) (h1 : 1 ≤ h) (hin : ∀ s ∈ ss, ∀ o ∈ s.a, o < ss.length) (hl : Left ss j L) (hj : j < 1000) :
    ∃ y5 y6 y7 y9 L', evS (Cf (k + 1)) f8_l2 n0 [some (.lst (ss.map dStep)), some (.int h), some (.ref S0.length), x3, some (.ref (S0.length + 1)), x5, x6, x7, x8, x9] (TS S0 L []) =
      .nx [some (.lst (ss.map dStep)), some (.int h), some (.ref S0.length), x3, some (.ref (S0.length + 1)), y5, y6, y7, x8, y9] (TS S0 L' (plan ss h j L)) := by
  let env (x5 x6 x7 x9 : Option D) : Mi.Env := [some (.lst (ss.map dStep)), some (.int h), some (.ref S0.length), x3, some (.ref (S0.length + 1)), x5, x6, x7, x8, x9]
  let I : Nat → Mi.Env → Store → Prop := fun m r S => ∃ y5 y6 y7 y9 L' d, r = env y5 y6 y7 y9 ∧ S = TS S0 L' d ∧ Left ss m L' ∧ d ++ plan ss h m L' = plan ss h j L ∧ d.length + m ≤ 1000
  let Z : Mi.Env → Store → Prop := fun r S => ∃ y5 y6 y7 y9 L', r = env y5 y6 y7 y9 ∧ S = TS S0 L' (plan ss h j L)
  unfold f8_l2
  rw [r_while]
  obtain ⟨r', S', e, y5, y6, y7, y9, L', rfl, rfl⟩ := whileLoop_run (t := fun r' S' => evT (Cf (k + 1)) (.b2 .ne (.call 6 (.cons (.var 0) (.cons (.var 2) .nil))) (.lst false .nil)) r' S') (f := fun r' S' => evSs (Cf (k + 1)) f8_b2 (TS S0 L []).length r' S') I Z (fun m r S hI => by
    obtain ⟨y5, y6, y7, y9, L', d, rfl, rfl, hl', hp, hdl⟩ := hI
    have hc := mine_ok (k := k) (S := TS S0 L' d) (l := S0.length) TS_left hg hl'.len hin hl'.pos
    have ht : evT (Cf (k + 1)) (.b2 .ne (.call 6 (.cons (.var 0) (.cons (.var 2) .nil))) (.lst false .nil)) (env y5 y6 y7 y9) (TS S0 L' d) = .ok (decide (0 < L'.sum)) (TS S0 L' d) := by
      have q : (!decide (can ss L' ss.length = [])) = decide (0 < L'.sum) := by
        by_cases hs : 0 < L'.sum
        · rw [decide_eq_true hs, decide_eq_false (can_some hg hl'.len hl'.pos hs)]; rfl
        · have : can ss L' ss.length = [] := by
            cases q : can ss L' ss.length with
            | nil => rfl
            | cons x xs =>
              have hx : x ∈ can ss L' ss.length := by rw [q]; exact List.mem_cons_self
              have h1 := can_pos hx
              have h2 := sum_at x hl'.pos
              omega
          rw [decide_eq_false hs, decide_eq_true this]; rfl
      rw [← q]
      simp [env, hc, newL, line, ne_nil_dN]
    by_cases hs : 0 < L'.sum
    · cases m with
      | zero => have := hl'.sum; omega
      | succ m =>
        refine .inr ?_
        obtain ⟨z5, z6, z7, z9, e⟩ := due_b2 (k := k) (S0 := S0) (L := L') (d := d) (ss := ss) (h := h) (n0 := (TS S0 L []).length) (x3 := x3) (x5 := y5) (x6 := y6) (x7 := y7) (x8 := x8) (x9 := y9) hg hl'.len hin hl'.pos (by omega)
        rw [plan, if_pos hs] at hp
        exact ⟨_, _, _, by rw [ht, decide_eq_true hs], .inl e, m, Nat.lt_succ_self m, z5, z6, z7, z9, _, _, rfl, rfl, left_step hg h1 hl' hs, by simpa using hp, by simp; omega⟩
    · refine .inl ⟨_, by rw [ht, decide_eq_false hs], y5, y6, y7, y9, L', rfl, ?_⟩
      have : plan ss h m L' = [] := by
        cases m with
        | zero => rfl
        | succ m => rw [plan, if_neg hs]
      rw [this, List.append_nil] at hp
      rw [hp]) (Cf (k + 1)).w j (env x5 x6 x7 x9) (TS S0 L []) (by show j < 2000; omega) ⟨x5, x6, x7, x9, L, [], rfl, rfl, hl, rfl, by simp; omega⟩
  exact ⟨y5, y6, y7, y9, L', e⟩
theorem due_c0 {k : Nat} {S : Store} {ss : List Step} {x1 x2 x3 x4 x5 x6 x7 x8 x9 : Option D} (hg : Good ss) :
    evE (Cf k) f8_c0 [some (.lst (ss.map dStep)), x1, x2, x3, x4, x5, x6, x7, x8, x9] S = .ok (.ref S.length) (S ++ [.lst ((W ss).map .int)]) := by
  unfold f8_c0
  have key := kComp_ref (c := Cf k) (r := [some (.lst (ss.map dStep)), x1, x2, x3, x4, x5, x6, x7, x8, x9]) (S := S) (e := .b2 .ix (.var 3) (.lit (.int 2))) (t := .nm 3) (cond := none) (cd := .lit .non) (own := [3]) (g := []) (ys := ss) dStep (fun s => some (.int s.w)) (by have := hg.len; unfold line; omega)
    (fun s hs acc => by simp [compBody, setT, wipeE, compItem, dStep]) (fun _ => rfl)
  simp [key, fm_some, W]
def dBeat (b : List (Nat × Int)) : D := .lst (b.map dDeal)
theorem deal_low {n : Nat} (b : List (Nat × Int)) : D.lows n (b.map dDeal) = true := lows_all.mpr fun d hd => by
  obtain ⟨p, _, rfl⟩ := List.mem_map.mp hd
  rfl
/-- a told timetable, by value -/
theorem TS_frz {S0 X : Store} {L : List Int} {d : List (List (Nat × Int))} {n j : Nat} (hn : n ≤ S0.length) : frzD n (TS S0 L d ++ X) (j + 2) (.ref (S0.length + 1)) = some (.lst (d.map dBeat)) := by
  have e := TS_beats (S0 := S0) (L := L) (d := d) X
  have er : refs S0.length d.length = ((List.range d.length).map fun j => S0.length + 2 + j).map D.ref := by simp [refs]
  rw [er] at e
  have q := frz_refs (n := n) (k := j) (i := S0.length + 1) (is := (List.range d.length).map fun j => S0.length + 2 + j) (xss := d.map fun b => b.map dDeal) (by omega) e (by simp) fun i a xs h1 h2 => ?_
  · rw [q]
    simp [dBeat]
  · rw [List.getElem?_map] at h1 h2
    obtain ⟨i', hi', rfl⟩ := Option.map_eq_some_iff.mp h1
    obtain ⟨b, hb, rfl⟩ := Option.map_eq_some_iff.mp h2
    have hi : i < d.length := (List.getElem?_eq_some_iff.mp hb).1
    have ei : i' = i := by
      obtain ⟨_, e2⟩ := List.getElem?_eq_some_iff.mp hi'
      rw [List.getElem_range] at e2
      exact e2.symm
    subst ei
    refine ⟨by omega, ?_, deal_low b⟩
    rw [List.getElem?_append_left (by rw [TS_len]; omega)]
    unfold TS
    rw [List.getElem?_append_right (by omega)]
    have : S0.length + 2 + i' - S0.length = i' + 2 := by omega
    rw [this]
    simp [bts, hb]
theorem due_ok {k : Nat} {S : Store} {ss : List Step} {h : Int} (hg : Good ss) (h1 : 1 ≤ h) :
    callF Pm (k + 2) 8 [.lst (ss.map dStep), .int h] S = .ok (.lst ((plan ss h 708 (W ss)).map dBeat)) S := by
  obtain ⟨y5, y6, y7, y9, L', e⟩ := due_l2 (k := k) (S0 := S) (n0 := S.length) (x3 := none) (x5 := none) (x6 := none) (x7 := none) (x8 := none) (x9 := none) hg h1 (good_in hg) (good_left hg) (by decide)
  rw [call_eq (fn := f8) rfl ⟨rfl, by decide⟩]
  have x := e
  simp [TS, refs, bts, Cf] at x
  have c := due_c0 (k := k + 1) (S := S) (ss := ss) (x1 := some (.int h)) (x2 := none) (x3 := none) (x4 := none) (x5 := none) (x6 := none) (x7 := none) (x8 := none) (x9 := none) hg
  simp [f8, startE, newL, line, c, x]
  have z := TS_frz (S0 := S) (X := []) (L := L') (d := plan ss h 708 (W ss)) (n := S.length) (j := 62) (Nat.le_refl _)
  simp [TS, refs, bts] at z
  exact freeze_app z
end K74
/-! How long what repr shows may be. -/
namespace Mi
mutual
def D.wt : D → Nat
  | .str cs => cs.length
  | .tup xs => D.wts xs
  | .lst xs => D.wts xs
  | .int _ => 40
  | _ => 0
def D.wts : List D → Nat
  | [] => 0
  | x :: xs => D.wt x + 1 + D.wts xs
end
/-! numbers of few figures alone, no texts -/
mutual
def D.sml : D → Bool
  | .int i => decide (i.natAbs < 1000000000000)
  | .str _ => false
  | .tup xs => D.smls xs
  | .lst xs => D.smls xs
  | .non => true
  | .bl _ => true
  | _ => false
def D.smls : List D → Bool
  | [] => true
  | x :: xs => D.sml x && D.smls xs
end
mutual
theorem wt_ok : ∀ d : D, d.sml = true → (toPy d).weight ≤ d.wt ∧ (toPy d).leavesShort 13 = true ∧ d.shows = true ∧ d.low 0 = true
  | .non, _ => by simp [toPy, PySem.PyData.weight, D.wt, PySem.PyData.leavesShort, D.shows, D.low]
  | .bl b, _ => by simp [toPy, PySem.PyData.weight, D.wt, PySem.PyData.leavesShort, D.shows, D.low]
  | .int i, h => by
    simp only [D.sml, decide_eq_true_eq] at h
    have q := PySem.PyData.shown_int_le (i := i) (by omega)
    refine ⟨?_, ?_, ?_, rfl⟩
    · have hlog : i.natAbs.log2 ≤ 39 := by
        by_cases h0 : i.natAbs = 0
        · rw [h0]; decide
        · have := (Nat.log2_lt h0 (k := 40)).mpr (by omega)
          omega
      simp only [toPy, PySem.PyData.weight, D.wt]
      first
        | (split <;> omega)
        | omega
    · simpa [toPy, PySem.PyData.leavesShort] using q
    · simp only [D.shows, wide, decide_eq_true_eq]; omega
  | .str _, h => by simp [D.sml] at h
  | .tup xs, h => by
    obtain ⟨h1, h2, h3, h4⟩ := wts_ok xs (by simpa [D.sml] using h)
    simp [toPy, PySem.PyData.weight, D.wt, PySem.PyData.leavesShort, D.shows, D.low, h2, h3, h4]
    exact h1
  | .lst xs, h => by
    obtain ⟨h1, h2, h3, h4⟩ := wts_ok xs (by simpa [D.sml] using h)
    simp [toPy, PySem.PyData.weight, D.wt, PySem.PyData.leavesShort, D.shows, D.low, h2, h3, h4]
    exact h1
  | .dic _ _, h => by simp [D.sml] at h
  | .scr _, h => by simp [D.sml] at h
  | .ref _, h => by simp [D.sml] at h
theorem wts_ok : ∀ ds : List D, D.smls ds = true → PySem.PyData.weightAll (toPys ds) ≤ D.wts ds ∧ PySem.PyData.leavesShortAll 13 (toPys ds) = true ∧ D.showsL ds = true ∧ D.lows 0 ds = true
  | [], _ => by simp [toPys, PySem.PyData.weightAll, D.wts, PySem.PyData.leavesShortAll, D.showsL, D.lows]
  | d :: ds, h => by
    simp only [D.smls, Bool.and_eq_true] at h
    obtain ⟨a1, a2, a3, a4⟩ := wt_ok d h.1
    obtain ⟨b1, b2, b3, b4⟩ := wts_ok ds h.2
    simp [toPys, PySem.PyData.weightAll, D.wts, PySem.PyData.leavesShortAll, D.showsL, D.lows, a2, a3, a4, b2, b3, b4]
    omega
end
theorem rep_ok {S : Store} {d v : D} (e : flatD S d = some v) (h : v.sml = true) (hw : v.wt ≤ 1000000) : ev1 .rep d S = .ok (.str (reprOf v)) S := by
  obtain ⟨h1, h2, h3, _⟩ := wt_ok v h
  have q := PySem.PyData.shown_le 13 (by decide) (toPy v) h2
  have hl : (reprOf v).length + 64 ≤ line := by
    have : (reprOf v).length = (toPy v).shown.length := by simp [reprOf, PySem.Str.length]
    unfold line
    omega
  simp only [ev1, e, h3, hl, and_self, if_true]
theorem smls_all : ∀ {ds : List D}, D.smls ds = true ↔ ∀ d ∈ ds, d.sml = true
  | [] => by simp [D.smls]
  | d :: ds => by simp [D.smls, smls_all (ds := ds)]
theorem wts_le {c : Nat} : ∀ {ds : List D}, (∀ d ∈ ds, d.wt ≤ c) → D.wts ds ≤ (c + 1) * ds.length
  | [], _ => by simp [D.wts]
  | d :: ds, h => by
    have h1 := h d List.mem_cons_self
    have h2 := wts_le (c := c) fun x hx => h x (List.mem_cons_of_mem _ hx)
    simp only [D.wts, List.length_cons, Nat.mul_add]
    omega
end Mi
namespace K74
open Mi
theorem plan_len {ss : List Step} {h : Int} : ∀ (j : Nat) (L : List Int), (plan ss h j L).length ≤ j
  | 0, _ => by simp [plan]
  | j + 1, L => by
    rw [plan]
    split
    · have := plan_len (ss := ss) (h := h) j (after L (deal L h (can ss L ss.length)))
      simp only [List.length_cons]; omega
    · simp
theorem plan_mem {ss : List Step} {h : Int} (hg : Good ss) (h1 : 1 ≤ h) : ∀ (j : Nat) (L : List Int), Left ss j L → ∀ b ∈ plan ss h j L, b.length ≤ 12 ∧ ∀ p ∈ b, p.1 < 12 ∧ 0 < p.2 ∧ p.2 ≤ j
  | 0, _, _, b, hb => by simp [plan] at hb
  | j + 1, L, hl, b, hb => by
    rw [plan] at hb
    split at hb
    · rename_i hs
      rcases List.mem_cons.mp hb with hb | hb
      · subst hb
        refine ⟨?_, fun p hp => ?_⟩
        · have a := deal_len L (can ss L ss.length) h
          have b := List.length_filter_le (canB ss L) (List.range ss.length)
          rw [List.length_range] at b
          have c := hg.len
          unfold can at a ⊢
          omega
        · obtain ⟨m1, m2, m3⟩ := (deal_beat (f := h) hl.len).mem p hp
          have a := sum_at p.1 hl.pos
          have b := hl.sum
          have c := hg.len
          have d := hl.len
          exact ⟨by omega, m2, by omega⟩
      · obtain ⟨q1, q2⟩ := plan_mem hg h1 j _ (left_step hg h1 hl hs) b hb
        exact ⟨q1, fun p hp => ⟨(q2 p hp).1, (q2 p hp).2.1, by have := (q2 p hp).2.2; omega⟩⟩
    · simp at hb
/-- beats that can be shown -/
structure Shown (P : List (List (Nat × Int))) : Prop where
  len : P.length ≤ 708
  mem : ∀ b ∈ P, b.length ≤ 12 ∧ ∀ p ∈ b, p.1 < 12 ∧ 0 < p.2 ∧ p.2 ≤ 708
theorem plan_shown {ss : List Step} {h : Int} (hg : Good ss) (h1 : 1 ≤ h) : Shown (plan ss h 708 (W ss)) := ⟨plan_len _ _, fun b hb => plan_mem hg h1 708 _ (good_left hg) b hb⟩
theorem dDeal_sml {p : Nat × Int} (h : p.1 < 12 ∧ 0 < p.2 ∧ p.2 ≤ 708) : (dDeal p).sml = true ∧ (dDeal p).wt = 82 ∧ ∀ n, (dDeal p).plain (n + 1) = true := by
  refine ⟨?_, rfl, fun n => ?_⟩
  · simp [dDeal, dN, D.sml, D.smls]
    omega
  · cases n <;> simp [dDeal, dN, D.plain, D.plains]
theorem dBeat_sml {b : List (Nat × Int)} (h : b.length ≤ 12 ∧ ∀ p ∈ b, p.1 < 12 ∧ 0 < p.2 ∧ p.2 ≤ 708) : (dBeat b).sml = true ∧ (dBeat b).wt ≤ 996 ∧ ∀ n, (dBeat b).plain (n + 2) = true := by
  refine ⟨?_, ?_, fun n => ?_⟩
  · simp only [dBeat, D.sml]
    refine smls_all.mpr fun d hd => ?_
    obtain ⟨p, hp, rfl⟩ := List.mem_map.mp hd
    exact (dDeal_sml (h.2 p hp)).1
  · simp only [dBeat, D.wt]
    have := wts_le (c := 82) (ds := b.map dDeal) fun d hd => by
      obtain ⟨p, hp, rfl⟩ := List.mem_map.mp hd
      exact Nat.le_of_eq (dDeal_sml (h.2 p hp)).2.1
    rw [List.length_map] at this
    omega
  · simp only [dBeat, D.plain]
    refine plains_all.mpr fun d hd => ?_
    obtain ⟨p, hp, rfl⟩ := List.mem_map.mp hd
    exact (dDeal_sml (h.2 p hp)).2.2 n
theorem beats_sml {P : List (List (Nat × Int))} (h : Shown P) : (D.lst (P.map dBeat)).sml = true ∧ (D.lst (P.map dBeat)).wt ≤ 1000000 ∧ (D.lst (P.map dBeat)).plain eqDepth = true := by
  refine ⟨?_, ?_, ?_⟩
  · simp only [D.sml]
    refine smls_all.mpr fun d hd => ?_
    obtain ⟨p, hp, rfl⟩ := List.mem_map.mp hd
    exact (dBeat_sml (h.mem p hp)).1
  · simp only [D.wt]
    have := wts_le (c := 996) (ds := P.map dBeat) fun d hd => by
      obtain ⟨p, hp, rfl⟩ := List.mem_map.mp hd
      exact (dBeat_sml (h.mem p hp)).2.1
    rw [List.length_map] at this
    have := h.len
    omega
  · show D.plains 59 (P.map dBeat) = true
    refine plains_all.mpr fun d hd => ?_
    obtain ⟨p, hp, rfl⟩ := List.mem_map.mp hd
    exact (dBeat_sml (h.mem p hp)).2.2 57
theorem own_rep {S : Store} {P : List (List (Nat × Int))} (h : Shown P) : ev1 .rep (.lst (P.map dBeat)) S = .ok (.str (reprOf (.lst (P.map dBeat)))) S := by
  obtain ⟨h1, h2, h3⟩ := beats_sml h
  exact rep_ok (flat_low (wt_ok _ h1).2.2.2 h3) h1 h2
theorem told_rep {S0 X : Store} {L : List Int} {P : List (List (Nat × Int))} (h : Shown P) : ev1 .rep (.ref (S0.length + 1)) (TS S0 L P ++ X) = .ok (.str (reprOf (.lst (P.map dBeat)))) (TS S0 L P ++ X) := by
  obtain ⟨h1, h2, h3⟩ := beats_sml h
  refine rep_ok ?_ h1 h2
  unfold flatD
  rw [show deepest = 62 + 2 from rfl, TS_frz (Nat.zero_le _)]
  simp [h3]
theorem steps_rep {S : Store} {ss : List Step} (hg : Good ss) : ev1 .rep (.lst (ss.map dStep)) S = .ok (.str (reprOf (.lst (ss.map dStep)))) S := by
  have hs : ∀ s ∈ ss, (dStep s).sml = true ∧ (dStep s).wt ≤ 700 ∧ (dStep s).plain 59 = true := fun s hs => by
    obtain ⟨q1, q2, q3, q4, q5, q6, q7⟩ := hg.num s hs
    have hin := good_in hg s hs
    have hl := hg.len
    have hd : ∀ d ∈ s.a.map dN, d.sml = true := fun d hd => by
      obtain ⟨o, ho, rfl⟩ := List.mem_map.mp hd
      have := hin o ho
      simp [dN, D.sml]
      omega
    have hw := wts_le (c := 40) (ds := s.a.map dN) fun d hd => by
      obtain ⟨o, ho, rfl⟩ := List.mem_map.mp hd
      exact Nat.le_refl _
    rw [List.length_map] at hw
    have ll := q7
    refine ⟨?_, ?_, ?_⟩
    · simp [dStep, D.sml, D.smls, smls_all.mpr hd]
      omega
    · simp only [dStep, D.wt, D.wts]
      omega
    · simp only [dStep, D.plain, D.plains, plains_dN, Bool.and_true]
  have h1 : (D.lst (ss.map dStep)).sml = true := by
    simp only [D.sml]
    refine smls_all.mpr fun d hd => ?_
    obtain ⟨s, h, rfl⟩ := List.mem_map.mp hd
    exact (hs s h).1
  refine rep_ok (flat_low (wt_ok _ h1).2.2.2 ?_) h1 ?_
  · show D.plains 59 (ss.map dStep) = true
    refine plains_all.mpr fun d hd => ?_
    obtain ⟨s, h, rfl⟩ := List.mem_map.mp hd
    exact (hs s h).2.2
  · simp only [D.wt]
    have := wts_le (c := 700) (ds := ss.map dStep) fun d hd => by
      obtain ⟨s, h, rfl⟩ := List.mem_map.mp hd
      exact (hs s h).2.1
    rw [List.length_map] at this
    have := hg.len
    omega
end K74
/-! k74: the law. -/
namespace K74
open Mi
section
variable {S0 : Store} {L : List Int} {d : List (List (Nat × Int))} {b : List (Nat × Int)} {q : Nat}
theorem TS_setb (hq : q < d.length) : (TS S0 L d).set (S0.length + 2 + q) (.lst (b.map dDeal)) = TS S0 L (d.set q b) := by
  unfold TS
  have e : S0.length + 2 + q - S0.length = q + 2 := by omega
  rw [List.set_append_right _ _ (by omega), e]
  simp [bts]
theorem TS_getb (h : d[q]? = some b) (X : Store) : (TS S0 L d ++ X)[S0.length + 2 + q]? = some (.lst (b.map dDeal)) := by
  have hq : q < d.length := (List.getElem?_eq_some_iff.mp h).1
  rw [List.getElem?_append_left (by rw [TS_len]; omega)]
  unfold TS
  have e : S0.length + 2 + q - S0.length = q + 2 := by omega
  rw [List.getElem?_append_right (by omega), e]
  simp [bts, h]
theorem refs_get {n m : Nat} (h : q < m) : (refs n m)[q]? = some (.ref (n + 2 + q)) := by simp [refs, h]
theorem TS_told : (TS S0 L d)[S0.length + 1]? = some (.lst (refs S0.length d.length)) := by
  have := TS_beats (S0 := S0) (L := L) (d := d) []
  simpa using this
/-- all but one beat, put together anew -/
theorem but_rep {P : List (List (Nat × Int))} {x : List (Nat × Int)} (h : Shown P) (hq : q < P.length) : ev1 .rep (.lst ((refs S0.length P.length).take q ++ (refs S0.length P.length).drop (q + 1))) (TS S0 L (P.set q x)) = .ok (.str (reprOf (.lst ((P.take q ++ P.drop (q + 1)).map dBeat)))) (TS S0 L (P.set q x)) := by
  have hs : Shown (P.take q ++ P.drop (q + 1)) := by
    refine ⟨?_, fun b hb => h.mem b ?_⟩
    · have := h.len
      simp; omega
    · rcases List.mem_append.mp hb with hb | hb
      · exact List.mem_of_mem_take hb
      · exact List.mem_of_mem_drop hb
  obtain ⟨h1, h2, h3⟩ := beats_sml hs
  refine rep_ok ?_ h1 h2
  unfold flatD
  have e : (refs S0.length P.length).take q ++ (refs S0.length P.length).drop (q + 1) = ((((List.range P.length).map fun j => S0.length + 2 + j).take q ++ ((List.range P.length).map fun j => S0.length + 2 + j).drop (q + 1))).map D.ref := by
    simp [refs, List.map_take, List.map_drop, Function.comp_def]
  have f := frz_lrefs (S := TS S0 L (P.set q x)) (n := 0) (k := 62) (is := ((List.range P.length).map fun j => S0.length + 2 + j).take q ++ ((List.range P.length).map fun j => S0.length + 2 + j).drop (q + 1)) (xss := (P.take q ++ P.drop (q + 1)).map fun b => b.map dDeal) (by simp) fun j a xs e1 e2 => ?_
  · rw [show deepest = 62 + 2 from rfl, e, f]
    have g : ((P.take q ++ P.drop (q + 1)).map fun b => b.map dDeal).map D.lst = (P.take q ++ P.drop (q + 1)).map dBeat := by rw [List.map_map]; rfl
    rw [g]
    exact if_pos h3
  · rw [List.getElem?_map] at e2
    obtain ⟨b, hb, rfl⟩ := Option.map_eq_some_iff.mp e2
    have key : ∃ i, a = S0.length + 2 + i ∧ i ≠ q ∧ P[i]? = some b := by
      by_cases hj : j < q
      · rw [List.getElem?_append_left (by simp; omega), List.getElem?_take, if_pos hj, List.getElem?_map] at e1
        rw [List.getElem?_append_left (by simp; omega), List.getElem?_take, if_pos hj] at hb
        obtain ⟨i, hi, rfl⟩ := Option.map_eq_some_iff.mp e1
        have ei : i = j := by
          obtain ⟨_, z⟩ := List.getElem?_eq_some_iff.mp hi
          rw [List.getElem_range] at z
          exact z.symm
        subst ei
        exact ⟨i, rfl, by omega, hb⟩
      · have l1 : (((List.range P.length).map fun j => S0.length + 2 + j).take q).length = q := by simp; omega
        have l2 : (P.take q).length = q := by simp; omega
        rw [List.getElem?_append_right (by omega), l1, List.getElem?_drop, List.getElem?_map] at e1
        rw [List.getElem?_append_right (by omega), l2, List.getElem?_drop] at hb
        obtain ⟨i, hi, rfl⟩ := Option.map_eq_some_iff.mp e1
        have ei : i = q + 1 + (j - q) := by
          obtain ⟨_, z⟩ := List.getElem?_eq_some_iff.mp hi
          rw [List.getElem_range] at z
          exact z.symm
        subst ei
        exact ⟨_, rfl, by omega, hb⟩
    obtain ⟨i, rfl, hne, hPi⟩ := key
    refine ⟨Nat.zero_le _, ?_, deal_low b⟩
    have := TS_getb (S0 := S0) (L := L) (d := P.set q x) (b := b) (q := i) (by rw [List.getElem?_set_ne (Ne.symm hne)]; exact hPi) []
    simpa using this
end
abbrev envL (ns : List Int) (x2 : Option D) (ss : List Step) (h : Int) (kept : D) (n : Nat) (P : List (List (Nat × Int))) (x8 x9 : Option D) : Mi.Env :=
  [some (.scr ns), some (.ref 0), x2, some (.lst (ss.map dStep)), some (.int h), some kept, some (.ref n), some (.lst (P.map dBeat)), x8, x9]
theorem law_l0 {k : Nat} {S0 : Store} {L : List Int} {P : List (List (Nat × Int))} {ns : List Int} {ss : List Step} {h : Int} {kept : D} {x2 x8 x9 : Option D} {n0 : Nat} (hP : Shown P) :
    ∃ y8, evS (Cf k) f9_l0 n0 (envL ns x2 ss h kept (S0.length + 1) P x8 x9) (TS S0 L P) = .nx (envL ns x2 ss h kept (S0.length + 1) P y8 x9) (TS S0 L P) := by
  have hlen := hP.len
  have hll : (refs S0.length P.length).length = P.length := by simp [refs]
  let ds : List D := [D.int 0, .int ((P.length : Int) / 2)].take P.length
  have hsrc : evSrc (Cf k) (.it (.slc false (.lst false (.cons (.lit (.int 0)) (.cons (.b2 .div (.b1 .len (.var 6)) (.lit (.int 2))) .nil))) none (some ()) (.lit .non) (.b1 .len (.var 6)))) (envL ns x2 ss h kept (S0.length + 1) P x8 x9) (TS S0 L P) = .ok (ds, []) (TS S0 L P) := by
    have h2 : min P.length 2 ≤ 16777216 := by omega
    simp [TS_told, hll, newL, line, cut_lo, ds, h2]
  have hds : ∀ x ∈ ds, ∃ q : Nat, x = dN q ∧ q < P.length := fun x hx => by
    simp only [ds] at hx
    rcases Nat.lt_or_ge 0 P.length with h0 | h0
    · have := List.mem_of_mem_take hx
      simp at this
      rcases this with rfl | rfl
      · exact ⟨0, rfl, h0⟩
      · refine ⟨P.length / 2, ?_, by omega⟩
        simp [dN]
    · have : P.length = 0 := by omega
      rw [this] at hx
      simp at hx
  let I : Nat → Mi.Env → Store → Prop := fun _ r S => ∃ y8, r = envL ns x2 ss h kept (S0.length + 1) P y8 x9 ∧ S = TS S0 L P
  unfold f9_l0
  rw [r_for hsrc]
  have step : ∀ i x r S', ds[i]? = some x → I i r S' → ∃ r1 S1, (forBody (Cf k) (.nm 8) f9_b0 (TS S0 L P).length x r S' = .nx r1 S1 ∨ forBody (Cf k) (.nm 8) f9_b0 (TS S0 L P).length x r S' = .ct r1 S1) ∧ I (i + 1) r1 S1 := by
    rintro i x r S' hx ⟨y8, rfl, rfl⟩
    obtain ⟨q, rfl, hq⟩ := hds x (List.mem_of_getElem? hx)
    obtain ⟨b, hb⟩ : ∃ b, P[q]? = some b := ⟨_, List.getElem?_eq_getElem hq⟩
    have hbm := hP.mem b (List.mem_of_getElem? hb)
    have g1 : (TS S0 L P)[S0.length + 2 + q]? = some (.lst (b.map dDeal)) := by have := TS_getb (S0 := S0) (L := L) hb []; simpa using this
    have e00 : (D.tup [.int 0, .int 0]) = dDeal (0, 0) := rfl
    have s1 : (TS S0 L P).set (S0.length + 2 + q) (.lst (b.map dDeal ++ [dDeal (0, 0)])) = TS S0 L (P.set q (b ++ [(0, 0)])) := by
      rw [← TS_setb hq]; simp
    have g2 : (TS S0 L (P.set q (b ++ [(0, 0)])))[S0.length + 1]? = some (.lst (refs S0.length P.length)) := by rw [TS_told]; simp
    have g3 : (TS S0 L (P.set q (b ++ [(0, 0)])))[S0.length + 2 + q]? = some (.lst (b.map dDeal ++ [dDeal (0, 0)])) := by
      have := TS_getb (S0 := S0) (L := L) (d := P.set q (b ++ [(0, 0)])) (b := b ++ [(0, 0)]) (q := q) (by simp [hq]) []
      simpa using this
    have s2 : (TS S0 L (P.set q (b ++ [(0, 0)]))).set (S0.length + 2 + q) (.lst (b.map dDeal)) = TS S0 L P := by
      rw [TS_setb (by simpa using hq), List.set_set]
      congr 1
      refine List.ext_getElem? fun j => ?_
      by_cases hj : q = j
      · subst hj; rw [List.getElem?_set_self hq, hb]
      · rw [List.getElem?_set_ne hj]
    have rp := but_rep (S0 := S0) (L := L) (x := b ++ [(0, 0)]) hP hq
    have hs : Shown (P.take q ++ P.drop (q + 1)) := by
      refine ⟨by simp; omega, fun b hb => hP.mem b ?_⟩
      rcases List.mem_append.mp hb with hb | hb
      · exact List.mem_of_mem_take hb
      · exact List.mem_of_mem_drop hb
    have ro := own_rep (S := TS S0 L (P.set q (b ++ [(0, 0)]))) hs
    rw [List.map_append, List.map_take, List.map_drop] at ro
    rw [List.map_append, List.map_take, List.map_drop] at rp
    refine ⟨envL ns x2 ss h kept (S0.length + 1) P (some (dN q)) x9, TS S0 L P, .inl ?_, _, rfl, rfl⟩
    unfold forBody
    have l1 : b.length < 16777216 := by have := hbm.1; omega
    have rg := refs_get (q := q) (n := S0.length) (m := P.length) hq
    have l2 : min q P.length ≤ 16777216 := by omega
    have l3 : P.length - (q + 1) ≤ 16777216 := by omega
    have l4 : min q P.length + (P.length - (q + 1)) ≤ 16777216 := by omega
    simp [setT, f9_b0, TS_told, rg, g1, newT, newL, line, e00, l1, s1, g2, g3, s2, cut_lo, cut_hi, hll, l2, l3, l4, rp, ro]
  obtain ⟨r', S', e, y8, rfl, rfl⟩ := forLoop_run (g := []) (f := forBody (Cf k) (.nm 8) f9_b0 (TS S0 L P).length) (ds := ds) I (fun _ _ _ _ _ => rfl) step (r := envL ns x2 ss h kept (S0.length + 1) P x8 x9) (S := TS S0 L P) ⟨x8, rfl, rfl⟩
  exact ⟨y8, e⟩
theorem law_l1 {k : Nat} {S0 : Store} {L : List Int} {P : List (List (Nat × Int))} {ns : List Int} {ss : List Step} {h : Int} {kept : D} {x2 x8 x9 : Option D} {n0 : Nat} :
    ∃ y9 P', evS (Cf k) f9_l1 n0 (envL ns x2 ss h kept (S0.length + 1) P x8 x9) (TS S0 L P) = .nx (envL ns x2 ss h kept (S0.length + 1) P x8 y9) (TS S0 L P') ∧ P'.length = P.length := by
  have hsrc : evSrc (Cf k) (.it (.var 6)) (envL ns x2 ss h kept (S0.length + 1) P x8 x9) (TS S0 L P) = .ok (refs S0.length P.length, [(S0.length + 1, refs S0.length P.length)]) (TS S0 L P) := by
    simp [TS_told]
  have hll : (refs S0.length P.length).length = P.length := by simp [refs]
  let I : Nat → Mi.Env → Store → Prop := fun _ r S => ∃ y9 P', r = envL ns x2 ss h kept (S0.length + 1) P x8 y9 ∧ S = TS S0 L P' ∧ P'.length = P.length
  unfold f9_l1
  rw [r_for hsrc]
  have st : ∀ i r S', i ≤ (refs S0.length P.length).length → I i r S' → stands [(S0.length + 1, refs S0.length P.length)] S' = true := by
    rintro i r S' _ ⟨y9, P', rfl, rfl, hl⟩
    simp [stands, TS_told, hl]
  have step : ∀ i x r S', (refs S0.length P.length)[i]? = some x → I i r S' → ∃ r1 S1, (forBody (Cf k) (.nm 9) f9_b1 (TS S0 L P).length x r S' = .nx r1 S1 ∨ forBody (Cf k) (.nm 9) f9_b1 (TS S0 L P).length x r S' = .ct r1 S1) ∧ I (i + 1) r1 S1 := by
    rintro i x r S' hx ⟨y9, P', rfl, rfl, hl⟩
    have hi : i < P.length := by
      have := (List.getElem?_eq_some_iff.mp hx).1
      rwa [hll] at this
    rw [refs_get hi] at hx
    cases hx
    obtain ⟨b, hb⟩ : ∃ b, P'[i]? = some b := ⟨_, List.getElem?_eq_getElem (by omega)⟩
    have g1 : (TS S0 L P')[S0.length + 2 + i]? = some (.lst (b.map dDeal)) := by have := TS_getb (S0 := S0) (L := L) hb []; simpa using this
    have s1 : (TS S0 L P').set (S0.length + 2 + i) (.lst []) = TS S0 L (P'.set i []) := by
      rw [← TS_setb (by omega)]; rfl
    refine ⟨envL ns x2 ss h kept (S0.length + 1) P x8 (some (.ref (S0.length + 2 + i))), TS S0 L (P'.set i []), .inl ?_, _, _, rfl, rfl, by simp [hl]⟩
    unfold forBody
    simp [setT, f9_b1, g1, s1]
  obtain ⟨r', S', e, y9, P', rfl, rfl, hl⟩ := forLoop_run (g := [(S0.length + 1, refs S0.length P.length)]) (f := forBody (Cf k) (.nm 9) f9_b1 (TS S0 L P).length) I st step (r := envL ns x2 ss h kept (S0.length + 1) P x8 x9) (S := TS S0 L P) ⟨x9, P, rfl, rfl, rfl⟩
  exact ⟨y9, P', e, hl⟩
/-- one turn of the law -/
theorem law_b2 {k : Nat} {ns cs : List Int} {a r : Int} {rest : Store} {n0 : Nat} {x2 x3 x4 x5 x6 x7 x8 x9 : Option D} (h0 : 0 ≤ a) (h1 : a < 700000000000) :
    ∃ y3 y4 y5 y6 y7 y8 y9 a' r' rest', evSs (Cf (k + 2)) f9_b2 n0 [some (.scr ns), some (.ref 0), x2, x3, x4, x5, x6, x7, x8, x9] (T cs a r :: rest) = .nx [some (.scr ns), some (.ref 0), x2, y3, y4, y5, y6, y7, y8, y9] (T cs a' r' :: rest') ∧ a ≤ a' ∧ a' ≤ a + 400 := by
  obtain ⟨ss, a1, r1, e1, hg, b1, c1⟩ := waits_ok (k := k) (cs := cs) (r := r) (rest := rest) h0 (by omega)
  obtain ⟨h, a2, r2, e2, hh1, hh2, b2, c2⟩ := hands_ok (k := k) (cs := cs) (r := r1) (a := a1) (rest := rest) (by omega) (by omega)
  obtain ⟨L1, e3⟩ := timetable_ok (k := k) (S := T cs a2 r2 :: rest) hg hh1
  have e4 := due_ok (k := k) (S := TS (T cs a2 r2 :: rest) L1 (plan ss h 708 (W ss))) hg hh1
  have hP := plan_shown hg hh1
  have hl := hP.len
  have rs0 := fun S => steps_rep (S := S) hg
  have ro := fun S => own_rep (S := S) hP
  have rt := told_rep (S0 := T cs a2 r2 :: rest) (X := []) (L := L1) hP
  rw [List.append_nil] at rt
  have tt := TS_told (S0 := T cs a2 r2 :: rest) (L := L1) (d := plan ss h 708 (W ss))
  obtain ⟨y8, e5⟩ := law_l0 (k := k + 2) (S0 := T cs a2 r2 :: rest) (L := L1) (ns := ns) (ss := ss) (h := h) (kept := .str (reprOf (.lst (ss.map dStep)))) (x2 := x2) (x8 := x8) (x9 := x9) (n0 := n0) hP
  obtain ⟨y9, P', e6, hl'⟩ := law_l1 (k := k + 2) (S0 := T cs a2 r2 :: rest) (L := L1) (P := plan ss h 708 (W ss)) (ns := ns) (ss := ss) (h := h) (kept := .str (reprOf (.lst (ss.map dStep)))) (x2 := x2) (x8 := y8) (x9 := x9) (n0 := n0)
  have tt' := TS_told (S0 := T cs a2 r2 :: rest) (L := L1) (d := P')
  -- told.append([]), then asked again
  obtain ⟨rest2, hr2⟩ : ∃ rest2, (TS (T cs a2 r2 :: rest) L1 P').set ((T cs a2 r2 :: rest).length + 1) (.lst (refs (T cs a2 r2 :: rest).length P'.length ++ [.lst []])) = T cs a2 r2 :: rest2 := ⟨_, by simp [TS]; rfl⟩
  obtain ⟨L2, e7⟩ := timetable_ok (k := k) (S := T cs a2 r2 :: rest2) hg hh1
  have rt2 := told_rep (S0 := T cs a2 r2 :: rest2) (X := []) (L := L2) hP
  rw [List.append_nil] at rt2
  generalize plan ss h 708 (W ss) = P at *
  have lr : (refs (T cs a2 r2 :: rest).length P'.length).length < 16777216 := by simp [refs]; omega
  obtain ⟨rest3, hr3⟩ : ∃ rest3, TS (T cs a2 r2 :: rest2) L2 P = T cs a2 r2 :: rest3 := ⟨_, by simp [TS]; rfl⟩
  refine ⟨some (.lst (ss.map dStep)), some (.int h), some (.str (reprOf (.lst (ss.map dStep)))), some (.ref ((T cs a2 r2 :: rest).length + 1)), some (.lst (P.map dBeat)), y8, y9, a2, r2, rest3, ?_, by omega, by omega⟩
  rw [← hr3]
  generalize hS : (T cs a2 r2 :: rest).length = N at *
  generalize hN2 : (T cs a2 r2 :: rest2).length = N2 at *
  generalize TS (T cs a2 r2 :: rest) L1 P = S1 at *
  generalize TS (T cs a2 r2 :: rest2) L2 P = S2 at *
  generalize TS (T cs a2 r2 :: rest) L1 P' = S3 at *
  simp [f9_b2, e1, e2, rs0, e3, e4, tt, isTy, rt, ro, e5, e6, tt', lr, newL, line, hr2, e7, rt2]
theorem good_nil : Good [] := ⟨by simp, by simp, [], by simp, by simp⟩
theorem law_l2 {k : Nat} {ns : List Int} {n0 : Nat} : ∃ y2 y3 y4 y5 y6 y7 y8 y9 a r rest, evS (Cf (k + 2)) f9_l2 n0 [some (.scr ns), some (.ref 0), none, none, none, none, none, none, none, none] [T ns 0 0] = .nx [some (.scr ns), some (.ref 0), y2, y3, y4, y5, y6, y7, y8, y9] (T ns a r :: rest) := by
  have hsrc : evSrc (Cf (k + 2)) (.rng1 (.lit (.int 3))) [some (.scr ns), some (.ref 0), none, none, none, none, none, none, none, none] [T ns 0 0] = .ok (rangeD 0 3, []) [T ns 0 0] := by
    simp
  let I : Nat → Mi.Env → Store → Prop := fun i r S => ∃ y2 y3 y4 y5 y6 y7 y8 y9 a r' rest, r = [some (.scr ns), some (.ref 0), y2, y3, y4, y5, y6, y7, y8, y9] ∧ S = T ns a r' :: rest ∧ 0 ≤ a ∧ a ≤ i * 400
  unfold f9_l2
  rw [r_for hsrc]
  have step : ∀ i x r S', (rangeD 0 ((3 : Nat) : Int))[i]? = some x → I i r S' → ∃ r1 S1, (forBody (Cf (k + 2)) (.nm 2) f9_b2 [T ns 0 0].length x r S' = .nx r1 S1 ∨ forBody (Cf (k + 2)) (.nm 2) f9_b2 [T ns 0 0].length x r S' = .ct r1 S1) ∧ I (i + 1) r1 S1 := by
    rintro i x r S' hx ⟨y2, y3, y4, y5, y6, y7, y8, y9, a, r', rest, rfl, rfl, h0, h1⟩
    obtain ⟨rfl, hi⟩ := range_get hx
    obtain ⟨z3, z4, z5, z6, z7, z8, z9, a2, r2, rest2, e, b1, b2⟩ := law_b2 (k := k) (ns := ns) (cs := ns) (r := r') (rest := rest) (n0 := [T ns 0 0].length) (x2 := some (dN i)) (x3 := y3) (x4 := y4) (x5 := y5) (x6 := y6) (x7 := y7) (x8 := y8) (x9 := y9) h0 (by omega)
    refine ⟨_, _, .inl ?_, some (dN i), z3, z4, z5, z6, z7, z8, z9, a2, r2, rest2, rfl, rfl, by omega, by omega⟩
    unfold forBody
    simpa [setT] using e
  obtain ⟨r', S', e, y2, y3, y4, y5, y6, y7, y8, y9, a, r, rest, rfl, rfl, _, _⟩ := forLoop_run (g := []) (f := forBody (Cf (k + 2)) (.nm 2) f9_b2 [T ns 0 0].length) (ds := rangeD 0 ((3 : Nat) : Int)) I (fun _ _ _ _ _ => rfl) step (r := [some (.scr ns), some (.ref 0), none, none, none, none, none, none, none, none]) (S := [T ns 0 0]) ⟨none, none, none, none, none, none, none, none, 0, 0, [], rfl, rfl, by omega, by omega⟩
  exact ⟨y2, y3, y4, y5, y6, y7, y8, y9, a, r, rest, e⟩
theorem law_ok (ns : List Int) (hl : ns.length ≤ 63) : ∃ S, callF Pm 20 9 [.scr ns] [] = .ok (.bl true) S := by
  obtain ⟨y2, y3, y4, y5, y6, y7, y8, y9, a, r, rest, e⟩ := law_l2 (k := 17) (ns := ns) (n0 := 0)
  have e1 := tape_ok (k := 18) hl
  obtain ⟨L, e2⟩ := timetable_ok (k := 17) (S := T ns a r :: rest) (h := 3) good_nil (by decide)
  have pn : plan [] 3 708 (W []) = [] := rfl
  rw [pn] at e2
  have fl : flatD (TS (T ns a r :: rest) L []) (.ref ((T ns a r :: rest).length + 1)) = some (.lst []) := by
    have := TS_frz (S0 := T ns a r :: rest) (X := []) (L := L) (d := []) (n := 0) (j := 62) (Nat.zero_le _)
    rw [List.append_nil] at this
    unfold flatD
    rw [show deepest = 62 + 2 from rfl, this]
    rfl
  have q : ev2 .eq (.ref ((T ns a r :: rest).length + 1)) (.lst []) (TS (T ns a r :: rest) L []) = .ok (.bl true) (TS (T ns a r :: rest) L []) := by
    simp only [ev2, evEq, strEq, fl, flat_nil]
    rfl
  refine ⟨TS (T ns a r :: rest) L [], ?_⟩
  rw [call_eq (fn := f9) rfl ⟨rfl, by decide⟩]
  generalize (T ns a r :: rest).length + 1 = N at *
  generalize hS : TS (T ns a r :: rest) L [] = S1 at *
  simp [f9, startE, e1, e, newL, line]
  simp at e2
  simp [e2, q, newL, line]
end K74
/-! The head. -/
namespace K74
open Mi PySem PySem.Spec PyProof.Rows L2
abbrev R : PySem.W.OpenRow := PySem.W.OpenLaw.row PySem.Challenge.rw_broadrow_k74_timetables_told
abbrev hk : PySem.W.Hook := He.hookD 4 (facts ds bs) (ds.map DefM.d)
def ob (s : PySem.W.SharedT) : He.AlD := He.obsDG 4 (facts ds bs) (ds.map DefM.d) (HandSHeadRun.getT s)
theorem ob_eq (s : PySem.W.SharedT) : ob s = hk.obs s.abs := He.obsDG_eq (HandSHeadRun.getT_eq s)
def loose : List Str := ["can_be_done", "timetable", "_law_tape", "_law_draw", "_law_waits", "_law_hands", "_law_can", "_law_whole", "_law_due", "__name__"]
theorem run (w : World) : HandSHeadRun.RunEq R (PySem.W.view R.prog [11]) hk ob 2000 loose w := by
  intro os
  kernel_rfl
end K74
open PySem PySem.W PySem.Calls PyProof.Rows
theorem PySem.Challenge.cw_broadrow_k74_timetables_told_holds : PySem.Challenge.rw_broadrow_k74_timetables_told.Holds := by
  w_on; o_law
  refine HandSHeadRun.head_any (r := OpenLaw.row PySem.Challenge.rw_broadrow_k74_timetables_told) (q := view (OpenLaw.row PySem.Challenge.rw_broadrow_k74_timetables_told).prog [11]) (H := K74.hk) (ob := K74.ob) (M := 2000) (loose := K74.loose)
    (d := HandSHeadRun.topDef (OpenLaw.row PySem.Challenge.rw_broadrow_k74_timetables_told).prog 11) (kwd := []) K74.ob_eq
    (by kernel_rfl) (fun s => by kernel_rfl) K74.run (by kernel_rfl) (by kernel_rfl) (by kernel_rfl) (by rfl) (by first | assumption | decide +kernel) (by decide +kernel) ⟨rfl, rfl, rfl, rfl, rfl, by decide +kernel⟩ ?hw ?hc
  case hw => w_witness2
  case hc =>
    exact Mi.walk_mini (l := PySem.Challenge.rw_broadrow_k74_timetables_told) (n := 63) (k := 20) (x := "_law_script") (Pm := K74.Pm) (m := K74.m9) rfl (by decide) (by kernel_rfl) ⟨rfl, by decide, by decide⟩ (fun w h Y => Y) K74.okAll K74.bndAll (fun i => rfl) rfl rfl (by kernel_rfl) K74.law_ok
