import PyProof.Rows.All
import HandS.ForMost
import HandS.Conv
import HandS.Rev
import HandS.Style
import HandS.TupAny
import HandS.IsInst
import HandS.Flow
import HandS.SortInts
import HandS.Strs
import KE.KIndexOf
import HandS.TupLen
import HandS.DictTup
import KE.KDictDisplayH
import HandS.TupMul
import HandS.Exc
import HandS.ExcOwn
import KE.GoesEnum
import KE.GoesMore
import HandS.Walk
import HandS.SetFor
import HandS.TupSets
import HandS.More
import HandS.ExcInit
import HandS.Nested
import HandS.ExcIs
import HandS.ExcSuper
import HandS.ExcField
import HandS.TryMany
import KE.KExcSuper
import KE.KIsAll
import HandS.Iter
import HandS.Ends
import HandS.Words
import HandS.WordsExc
import Open.Row
import PySem.Challenge.RW_symhouse_k05_words_and_their_values
set_option Elab.async false
set_option linter.all false
set_option maxRecDepth 100000
set_option maxHeartbeats 4000000
namespace Mi
open PySem

/-! ## data and cells -/
/-- pure data: tuples are values; a ref names a cell of the small heap; fz: the script (a list that nobody writes); kt: a tuple of the module's top -/
inductive D where
  | non | bl (b : Bool) | int (i : Int) | str (x : Str) | tup (xs : List D) | ref (n : Nat) | fz (xs : List Int) | kt (xs : List D) | fn (f : Str)
  deriving Inhabited
mutual
def D.beq : D → D → Bool
  | .non, .non => true
  | .bl a, .bl b => a == b
  | .int a, .int b => decide (a = b)
  | .str a, .str b => decide (a = b)
  | .tup a, .tup b => D.beqs a b
  | .ref a, .ref b => Nat.beq a b
  | .fz a, .fz b => decide (a = b)
  | .kt a, .kt b => D.beqs a b
  | .fn a, .fn b => decide (a = b)
  | _, _ => false
def D.beqs : List D → List D → Bool
  | [], [] => true
  | a :: r, b :: s => D.beq a b && D.beqs r s
  | _, _ => false
end
mutual
theorem D.beq_eq : ∀ a b : D, D.beq a b = true → a = b
  | .non, b, h => by cases b <;> first | rfl | simp [D.beq] at h
  | .bl a, b, h => by cases b <;> simp_all [D.beq]
  | .int a, b, h => by cases b <;> simp_all [D.beq]
  | .str a, b, h => by cases b <;> simp_all [D.beq]
  | .tup a, b, h => by
    cases b with
    | tup b =>
      have e := D.beqs_eq a b (by simpa [D.beq] using h)
      rw [e]
    | _ => simp [D.beq] at h
  | .ref a, b, h => by
    cases b with
    | ref b =>
      have e : a = b := Nat.eq_of_beq_eq_true (by simpa [D.beq] using h)
      rw [e]
    | _ => simp [D.beq] at h
  | .fz a, b, h => by cases b <;> simp_all [D.beq]
  | .fn a, b, h => by cases b <;> simp_all [D.beq]
  | .kt a, b, h => by
    cases b with
    | kt b =>
      have e := D.beqs_eq a b (by simpa [D.beq] using h)
      rw [e]
    | _ => simp [D.beq] at h
theorem D.beqs_eq : ∀ a b : List D, D.beqs a b = true → a = b
  | [], b, h => by cases b <;> first | rfl | simp [D.beqs] at h
  | x :: r, b, h => by
    cases b with
    | nil => simp [D.beqs] at h
    | cons y s =>
      simp only [D.beqs, Bool.and_eq_true] at h
      rw [D.beq_eq x y h.1, D.beqs_eq r s h.2]
end
mutual
theorem D.beq_refl : ∀ a : D, D.beq a a = true
  | .non => rfl
  | .bl a => by simp [D.beq]
  | .int a => by simp [D.beq]
  | .str a => by simp [D.beq]
  | .tup a => by simpa [D.beq] using D.beqs_refl a
  | .ref a => by simp [D.beq]
  | .fz a => by simp [D.beq]
  | .fn a => by simp [D.beq]
  | .kt a => by simpa [D.beq] using D.beqs_refl a
theorem D.beqs_refl : ∀ a : List D, D.beqs a a = true
  | [] => rfl
  | x :: r => by simp [D.beqs, D.beq_refl x, D.beqs_refl r]
end
instance : DecidableEq D := fun a b => if h : D.beq a b = true then isTrue (D.beq_eq a b h) else isFalse fun e => h (e ▸ D.beq_refl a)

inductive Cell where
  | lst (xs : List D)
  | dct (kvs : List (D × D))
  | ins (c : Str) (fs : List (Str × D))
  deriving DecidableEq, Inhabited
abbrev HS := List Cell
abbrev En := List (Option D)

mutual
def D.lo (n : Nat) : D → Bool
  | .ref m => decide (m < n)
  | .tup xs => D.los n xs
  | .kt xs => D.los n xs
  | _ => true
def D.los (n : Nat) : List D → Bool
  | [] => true
  | x :: r => D.lo n x && D.los n r
end
def Cell.lo (n : Nat) : Cell → Bool
  | .lst xs => D.los n xs
  | .dct kvs => kvs.all fun kv => kv.1.lo n && kv.2.lo n
  | .ins _ fs => fs.all fun f => f.2.lo n

/-! ## results -/
inductive R (α : Type) where
  | ok (a : α) (h : HS) | exc (c : Str) (fs : List (Str × D)) (h : HS) | bad
namespace R
def bind {α β : Type} : R α → (α → HS → R β) → R β
  | .ok a h, f => f a h
  | .exc c fs h, _ => .exc c fs h
  | .bad, _ => .bad
@[simp] theorem bind_ok {α β : Type} (a : α) (h : HS) (f : α → HS → R β) : (R.ok a h).bind f = f a h := rfl
@[simp] theorem bind_bad {α β : Type} (f : α → HS → R β) : (R.bad : R α).bind f = .bad := rfl
@[simp] theorem bind_exc {α β : Type} (c fs h) (f : α → HS → R β) : (R.exc c fs h : R α).bind f = .exc c fs h := rfl
end R
/-- where an exception may not leave -/
def R.nx {α : Type} : R α → R α
  | .ok a h => .ok a h
  | _ => .bad
@[simp] theorem R.nx_ok {α : Type} (a : α) (h : HS) : (R.ok a h).nx = .ok a h := rfl
def LIM : Nat := 16777216

/-- cells that nobody needs are dropped, a new flat result takes the first new place -/
def trim (n : Nat) (d : D) (h : HS) : R D :=
  if h.length ≤ n then .ok d h
  else if (h.take n).all (Cell.lo n) then
    match d with
    | .ref m => if m < n then .ok d (h.take n) else match h[m]? with
      | some c => if c.lo n then .ok (.ref n) (h.take n ++ [c]) else .ok d h
      | none => .bad
    | d => if d.lo n then .ok d (h.take n) else .ok d h
  else .ok d h
def R.tr (n : Nat) : R D → R D
  | .ok d h => trim n d h
  | r => r

/-! ## syntax -/
inductive Bi where
  | len | any | all | sorted | list | tuple | sum | min | max | abs | int | str | set_
  deriving DecidableEq
inductive Me where
  | append | pop | extend | index | get | setdefault | values | count | remove
  deriving DecidableEq
inductive Ty where
  | int | bool | tuple | str | list
  deriving DecidableEq
/-- the targets of loops and comprehensions -/
inductive NT where
  | nm (i : Nat) | tp (is : List Nat)
mutual
inductive CE where
  | var (i : Nat)
  | lit (d : D)
  | bin (o : Operator) (a b : CE)
  | neg (a : CE)
  | cmp (o : CmpOp) (a b : CE)
  | chain (o o' : CmpOp) (a b c : CE)
  | andv (a b : CE) | orv (a b : CE) | notv (a : CE)
  | ife (c : CB) (a b : CE)
  | tup (es : CL) | lst (es : CL) | dct0 | dctL (es : CL)
  | ix (a b : CE)
  | slice (a : CE) (lo hi : CO)
  | rev (a : CE)
  | call (f : Str) (es : CL) | callv (i : Nat) (es : CL)
  | bi (b : Bi) (es : CL)
  | meth (m : Me) (o : CE) (es : CL)
  | isi (t : Ty) (a : CE)
  | lrg (es : CL) | trg (es : CL)
  | sset (e : CE) | kix (kvs : List (Str × D)) (e : CE)
  | lc (own : List Nat) (tg : NT) (it : CI) (t : CB) (e : CE)
  | lc2 (own own1 : List Nat) (tg : NT) (it : CI) (t : CB) (tg1 : NT) (it1 : CI) (t1 : CB) (e : CE)
inductive CB where
  | tru
  | val (e : CE)
  | cmp (o : CmpOp) (a b : CE)
  | chain (o o' : CmpOp) (a b c : CE)
  | and_ (a b : CB) | or_ (a b : CB) | not_ (a : CB)
inductive CL where
  | nil | cons (e : CE) (r : CL)
inductive CO where
  | no | so (e : CE)
inductive CI where
  | seq (e : CE) | rng (es : CL) | rng3 (es : CL) | enum (e : CE) | zip (a b : CE) | rev (e : CE)
end
inductive AT where
  | nm (i : Nat) | sub (o i : CE) | fld (o : CE) (f : Str)
/-- what an error class keeps: a field is an argument or a text -/
inductive XA where
  | ar (i : Nat) | st (x : Str)
/-- what an except suite may say of the error: its fields, its class; nothing else -/
inductive XE where
  | fld (f : Str) | lit (d : D) | tup (a b : XE) | isi (cs : List (Str × Bool)) | not_ (a : XE) | and_ (a b : XE) | or_ (a b : XE) | ife (c a b : XE) | ne (f : Str) (x : Str)
inductive XS where
  | ret (e : XE) | app (i : Nat) (e : XE) | ifr (c e : XE) (r : XS) | pass
mutual
inductive CS where
  | asg (t : AT) (e : CE)
  | asgT (ts : List AT) (e : CE)
  | par (is : List Nat) (es : CL)
  | aug (i : Nat) (o : Operator) (e : CE)
  | augS (o i : CE) (op : Operator) (e : CE)
  | ex (e : CE)
  | ret (e : CE) | retn
  | ifs (c : CB) (a b : CSs)
  | for_ (t : NT) (it : CI) (b : CSs)
  | while_ (c : CB) (b : CSs)
  | brk | cont | pass
  | raise_ (c : Str) (fl : List (Str × XA)) (e : CE)
  | try_ (b : CSs) (sl : Nat) (ks : List (Str × Bool)) (s : XS)
inductive CSs where
  | nil | cons (s : CS) (r : CSs)
end

/-! ## operations by values -/
def mkL (xs : List D) (h : HS) : R D := if xs.length ≤ LIM then .ok (.ref h.length) (h ++ [.lst xs]) else .bad
def mkT (xs : List D) (h : HS) : R D := if xs.length ≤ LIM then .ok (.tup xs) h else .bad
def ofO {α : Type} (o : Option α) (h : HS) : R α := match o with | some a => .ok a h | none => .bad

mutual
/-- data without cells, as the library's data -/
def D.py0 : D → Option PyData
  | .non => some .none
  | .bl b => some (.bool b)
  | .int i => some (.int i)
  | .str x => some (.str x)
  | .tup xs => (D.py0s xs).map .tuple
  | .fz ns => some (.list (ns.map .int))
  | .kt xs => (D.py0s xs).map .tuple
  | .ref _ => none
  | .fn _ => none
def D.py0s : List D → Option (List PyData)
  | [] => some []
  | x :: r => match D.py0 x, D.py0s r with
    | some y, some s => some (y :: s)
    | _, _ => none
end
def D.py (h : HS) : D → Option PyData
  | .ref n => match h[n]? with
    | some (.lst xs) => (D.py0s xs).map .list
    | _ => none
  | d => d.py0
def eqD (h : HS) (a b : D) : Option Bool := match a.py h, b.py h with
  | some x, some y => if SeqAt.shaped x && SeqAt.shaped y then some (PyData.eqv x y) else none
  | _, _ => none
/-- the items of a list, a tuple -/
def itemsD (h : HS) : D → Option (List D)
  | .tup xs => some xs
  | .kt xs => some xs
  | .fz ns => some (ns.map .int)
  | .ref n => match h[n]? with
    | some (.lst xs) => some xs
    | _ => none
  | _ => none
def flatD : D → Bool
  | .non | .bl _ | .int _ | .str _ => true
  | _ => false
def eqF : D → D → Bool
  | .non, .non => true
  | .bl a, .bl b => a == b
  | .bl a, .int b => (if a then 1 else 0) == b
  | .int a, .bl b => a == (if b then 1 else 0)
  | .int a, .int b => a == b
  | .str a, .str b => a == b
  | _, _ => false
def D.int? : D → Option Int
  | .int i => some i
  | _ => none
def D.bl? : D → Option Bool
  | .bl i => some i
  | _ => none
def intsD : List D → Option (List Int)
  | [] => some []
  | .int i :: r => (intsD r).map (i :: ·)
  | _ :: _ => none
def blsD : List D → Option (List Bool)
  | [] => some []
  | .bl i :: r => (blsD r).map (i :: ·)
  | _ :: _ => none
/-- may be a key of a dict of ints and texts -/
def keyD : D → Bool
  | .int _ | .str _ => true
  | _ => false
/-- .. of a dict of tuples -/
def tkeyD : D → Bool
  | .tup xs => (intsD xs).isSome
  | _ => false
def keyOk (kvs : List (D × D)) (k : D) : Bool :=
  (keyD k && kvs.all (fun kv => keyD kv.1)) || (tkeyD k && kvs.all (fun kv => tkeyD kv.1))
def getK (kvs : List (D × D)) (k : D) : Option D := (kvs.find? fun kv => decide (kv.1 = k)).map (·.2)
def putK (kvs : List (D × D)) (k v : D) : List (D × D) :=
  if kvs.any (fun kv => decide (kv.1 = k)) then kvs.map fun kv => if kv.1 = k then (kv.1, v) else kv else kvs ++ [(k, v)]

def truD (h : HS) : D → Option Bool
  | .non => some false
  | .bl b => some b
  | .int i => some (i != 0)
  | .str x => if x.length ≤ LIM then some ((x.length : Int) != 0) else none
  | .tup xs => some (!xs.isEmpty)
  | .kt xs => some (!xs.isEmpty)
  | .fz xs => some (!xs.isEmpty)
  | .fn _ => none
  | .ref n => match h[n]? with
    | some (.lst xs) => some (!xs.isEmpty)
    | _ => none
def cmpF (o : CmpOp) (x y : D) (h : HS) : Option Bool := match o with
  | .Eq => eqD h x y
  | .NotEq => (eqD h x y).map (!·)
  | .Lt => match x, y with
    | .int i, .int j => some (decide (i < j))
    | .tup xs, .tup ys => match intsD xs, intsD ys with
      | some ns, some ms => some (HT.lexLt ns ms)
      | _, _ => none
    | _, _ => none
  | .LtE => match x, y with
    | .int i, .int j => some (decide (i ≤ j))
    | _, _ => none
  | .Gt => match x, y with
    | .int i, .int j => some (decide (j < i))
    | _, _ => none
  | .GtE => match x, y with
    | .int i, .int j => some (decide (j ≤ i))
    | _, _ => none
  | .Is => match x, y with
    | x, .non => some (decide (x = .non))
    | .bl a, .bl b => some (decide (a = b))
    | _, _ => none
  | .IsNot => match x, y with
    | x, .non => some (!decide (x = .non))
    | .bl a, .bl b => some (!decide (a = b))
    | _, _ => none
  | .In => inF x y h
  | .NotIn => (inF x y h).map (!·)
where
  inF (x y : D) (h : HS) : Option Bool := match y with
    | .str b => match x with
      | .str a => some (!(Builtin.Str.occurrences b a 0 b.length 1).isEmpty)
      | _ => none
    | .ref n => match h[n]? with
      | some (.lst xs) => if flatD x && xs.all flatD then some (xs.any fun z => eqF z x) else none
      | some (.dct kvs) => if keyOk kvs x then some (getK kvs x).isSome else none
      | _ => none
    | .tup xs => if flatD x && xs.all flatD then some (xs.any fun z => eqF z x) else none
    | .kt xs => if flatD x && xs.all flatD then some (xs.any fun z => eqF z x) else none
    | _ => none
def mulOk (i j : Int) : Bool := (decide (-(2 ^ 64) < i) && decide (i < 2 ^ 64)) || (decide (-(2 ^ 64) < j) && decide (j < 2 ^ 64))
def binF (o : Operator) (x y : D) (h : HS) : R D := match o, x, y with
  | .Add, .int i, .int j => .ok (.int (i + j)) h
  | .Add, .str i, .str j => if i.length + j.length ≤ LIM then .ok (.str (i ++ j)) h else .bad
  | .Add, .tup xs, .tup ys => mkT (xs ++ ys) h
  | .Add, .ref a, .ref b => match h[a]?, h[b]? with
    | some (.lst xs), some (.lst ys) => mkL (xs ++ ys) h
    | _, _ => .bad
  | .Sub, .int i, .int j => .ok (.int (i - j)) h
  | .Mult, .int i, .int j => if mulOk i j then .ok (.int (i * j)) h else .bad
  | .Mult, .ref a, .int k => match h[a]? with
    | some (.lst xs) => if decide (-(2 ^ 63) ≤ k) && decide (k < 2 ^ 63) && decide (xs.length * k.toNat ≤ LIM) then .ok (.ref h.length) (h ++ [.lst (List.replicate k.toNat xs).flatten]) else .bad
    | _ => .bad
  | .Mult, .tup xs, .int k => if decide (2 ≤ k) && decide (k ≤ 100000) && decide (xs.length ≤ 100) && !xs.isEmpty then .ok (.tup (List.replicate k.toNat xs).flatten) h else .bad
  | .FloorDiv, .int i, .int j => if decide (0 < j) && decide (j < 1073741824) then .ok (.int (i / j)) h else .bad
  | .Mod, .int i, .int j => if decide (0 < j) then .ok (.int (i % j)) h else .bad
  | .Pow, .int i, .int j => if decide (0 ≤ j) && decide (j ≤ 1000000) && decide (i.natAbs < 2 ^ 64) then .ok (.int (i ^ j.toNat)) h else .bad
  | .BitXor, .int i, .int j => .ok (.int (Builtin.bitXor i j)) h
  | _, _, _ => .bad
/-- keys and values in turn -/
def pairsD : List D → Option (List (D × D))
  | [] => some []
  | k :: v :: r => (pairsD r).map fun l => (k, v) :: l
  | _ => none
def dispK (xs : List D) (h : HS) : R D := match pairsD xs with
  | some kvs => if kvs.all (fun kv => keyD kv.1) && decide (kvs.length ≤ 15) then .ok (.ref h.length) (h ++ [.dct (kvs.foldl (fun acc kv => putK acc kv.1 kv.2) [])]) else .bad
  | none => .bad
/-- one pair, the key a tuple -/
def dispT (xs : List D) (h : HS) : R D := match xs with
  | [k, v] => if tkeyD k then .ok (.ref h.length) (h ++ [.dct [(k, v)]]) else .bad
  | _ => .bad
def dispF (xs : List D) (h : HS) : R D := match xs with
  | .tup _ :: _ => dispT xs h
  | _ => dispK xs h
/-- the distinct ones, ascending -/
def insU (x : Int) : List Int → List Int
  | [] => [x]
  | y :: r => if x < y then x :: y :: r else if x = y then y :: r else y :: insU x r
def sdd (ns : List Int) : List Int := ns.foldr insU []
def ssetF (x : D) (h : HS) : R D := match itemsD h x with
  | some ys => match intsD ys with
    | some ns => if ns.length < 64 then mkL ((sdd ns).map .int) h else .bad
    | none => .bad
  | none => .bad
def lkD (kvs : List (Str × D)) (z : Str) : Option D := (kvs.find? fun kv => decide (kv.1 = z)).map (·.2)
def kixF (kvs : List (Str × D)) (x : D) (h : HS) : R D := match x with
  | .str z => ofO (lkD kvs z) h
  | _ => .bad
/-- x op= y -/
def augF (o : Operator) (x y : D) (h : HS) : R D := match o, x, y with
  | .Add, .int i, .int j => .ok (.int (i + j)) h
  | .Add, .str i, .str j => if i.length + j.length ≤ LIM then .ok (.str (i ++ j)) h else .bad
  | .Add, .ref a, .ref b => match h[a]?, h[b]? with
    | some (.lst xs), some (.lst ys) => if xs.length + ys.length ≤ LIM then .ok (.ref a) (h.set a (.lst (xs ++ ys))) else .bad
    | _, _ => .bad
  | .Sub, .int i, .int j => .ok (.int (i - j)) h
  | .Mult, .int i, .int j => if mulOk i j then .ok (.int (i * j)) h else .bad
  | .FloorDiv, .int i, .int j => if decide (0 < j) && decide (j < 1073741824) then .ok (.int (i / j)) h else .bad
  | .Mod, .int i, .int j => if decide (0 < j) then .ok (.int (i % j)) h else .bad
  | .BitXor, .int i, .int j => .ok (.int (Builtin.bitXor i j)) h
  | _, _, _ => .bad
def ixF (x y : D) (h : HS) : R D := match x with
  | .ref n => match h[n]? with
    | some (.lst xs) => match y with
      | .int i => ofO (L2.atI xs i) h
      | _ => .bad
    | some (.dct kvs) => if keyOk kvs y then ofO (getK kvs y) h else .bad
    | _ => .bad
  | .tup xs => match y with
    | .int i => ofO (L2.atI xs i) h
    | _ => .bad
  | .fz xs => match y with
    | .int i => ofO ((L2.atI xs i).map .int) h
    | _ => .bad
  | .kt xs => match y with
    | .int i => ofO (L2.atI xs i) h
    | _ => .bad
  | .str z => match y with
    | .int i => if z.length ≤ LIM then ofO ((L2.atI z.cps.toList i).map fun c => .str ⟨#[c]⟩) h else .bad
    | _ => .bad
  | _ => .bad
def cutD (xs : List D) (lo hi : Option Int) : List D := (xs.drop (HT.sIx xs.length 0 lo)).take (HT.sIx xs.length xs.length hi - HT.sIx xs.length 0 lo)
def slF (x : D) (lo hi : Option Int) (h : HS) : R D := match x with
  | .tup xs => .ok (.tup (cutD xs lo hi)) h
  | .ref n => match h[n]? with
    | some (.lst xs) => .ok (.ref h.length) (h ++ [.lst (cutD xs lo hi)])
    | _ => .bad
  | _ => .bad
/-- o[i] = v -/
def setF (x i v : D) (h : HS) : R Unit := match x with
  | .ref n => match h[n]? with
    | some (.lst xs) => match i with
      | .int k => match L2.ixN xs.length k with
        | some j => .ok () (h.set n (.lst (xs.set j v)))
        | none => .bad
      | _ => .bad
    | some (.dct kvs) => if keyOk kvs i && decide (kvs.length < LIM) then .ok () (h.set n (.dct (putK kvs i v))) else .bad
    | _ => .bad
  | _ => .bad
def leastI : List Int → Int
  | [] => 0
  | [i] => i
  | i :: r => let m := leastI r; if m < i then m else i
def greatI : List Int → Int
  | [] => 0
  | [i] => i
  | i :: r => let m := greatI r; if i < m then m else i
def biF (b : Bi) (xs : List D) (h : HS) : R D := match b, xs with
  | .len, [.str x] => if x.length ≤ LIM then .ok (.int x.length) h else .bad
  | .len, [.ref n] => match h[n]? with
    | some (.lst xs) => .ok (.int xs.length) h
    | some (.dct kvs) => if kvs.all (fun kv => keyD kv.1) || kvs.all (fun kv => tkeyD kv.1) then .ok (.int kvs.length) h else .bad
    | _ => .bad
  | .len, [x] => match itemsD h x with
    | some ys => .ok (.int ys.length) h
    | none => .bad
  | .any, [.ref n] => match h[n]? with
    | some (.lst xs) => match blsD xs with
      | some bs => .ok (.bl (bs.any id)) h
      | none => .bad
    | _ => .bad
  | .all, [.ref n] => match h[n]? with
    | some (.lst xs) => match blsD xs with
      | some bs => .ok (.bl (bs.all id)) h
      | none => .bad
    | _ => .bad
  | .sorted, [x] => match itemsD h x with
    | some ys => match intsD ys with
      | some ns => mkL ((ns.mergeSort (fun a b => decide (a ≤ b))).map .int) h
      | none => .bad
    | none => .bad
  | .list, [x] => match itemsD h x with
    | some ys => mkL ys h
    | none => .bad
  | .tuple, [.kt _] => .bad
  | .tuple, [x] => match itemsD h x with
    | some ys => mkT ys h
    | none => .bad
  | .sum, [.ref n] => match h[n]? with
    | some (.lst ys) => match intsD ys with
      | some ns => .ok (.int ns.sum) h
      | none => .bad
    | _ => .bad
  | .min, [.int i, .int j] => .ok (.int (if j < i then j else i)) h
  | .max, [.int i, .int j] => .ok (.int (if j > i then j else i)) h
  | .min, [.ref n] => match h[n]? with
    | some (.lst ys) => match intsD ys with
      | some ns => if ns.isEmpty then .bad else .ok (.int (leastI ns)) h
      | none => .bad
    | _ => .bad
  | .max, [.ref n] => match h[n]? with
    | some (.lst ys) => match intsD ys with
      | some ns => if ns.isEmpty then .bad else .ok (.int (greatI ns)) h
      | none => .bad
    | _ => .bad
  | .abs, [.int i] => .ok (.int (if i < 0 then -i else i)) h
  | .int, [.int i] => .ok (.int i) h
  | .int, [.bl k] => .ok (.int (if k then 1 else 0)) h
  | _, _ => .bad
/-- xs.index(k), whole numbers -/
def idxF (ys xs : List D) (h : HS) : R D := match intsD ys, xs with
  | some ns, [.int k] => if ns.contains k then .ok (.int (ns.idxOf k : Nat)) h else .bad
  | _, _ => .bad
def lstMe (m : Me) (n : Nat) (ys xs : List D) (h : HS) : R D := match m, xs with
  | .append, [y] => if ys.length < LIM then .ok .non (h.set n (.lst (ys ++ [y]))) else .bad
  | .pop, [] => match ys[ys.length - 1]? with
    | some y => .ok y (h.set n (.lst ys.dropLast))
    | none => .bad
  | .pop, [.int i] => if decide (-(2 ^ 63) ≤ i) && decide (i < 2 ^ 63) then match L2.ixN ys.length i with
      | some k => match ys[k]? with
        | some y => .ok y (h.set n (.lst (ys.eraseIdx k)))
        | none => .bad
      | none => .bad
    else .bad
  | .extend, [.ref b] => match h[b]? with
    | some (.lst zs) => if ys.length + zs.length ≤ LIM then .ok .non (h.set n (.lst (ys ++ zs))) else .bad
    | _ => .bad
  | .index, xs => idxF ys xs h
  | _, _ => .bad
def dctMe (m : Me) (kvs : List (D × D)) (xs : List D) (h : HS) : R D := match m, xs with
  | .get, [k] => if keyOk kvs k then .ok ((getK kvs k).getD .non) h else .bad
  | .get, [k, d] => if keyOk kvs k then .ok ((getK kvs k).getD d) h else .bad
  | _, _ => .bad
def meF (m : Me) (x : D) (xs : List D) (h : HS) : R D := match x with
  | .ref n => match h[n]? with
    | some (.lst ys) => lstMe m n ys xs h
    | some (.dct kvs) => dctMe m kvs xs h
    | _ => .bad
  | .tup ys => match m with
    | .index => idxF ys xs h
    | _ => .bad
  | _ => .bad
/-- the receiver is of the method's type -/
def rcvOk (m : Me) (x : D) (h : HS) : Bool := match x with
  | .ref n => match h[n]? with
    | some (.lst _) => match m with
      | .append | .pop | .extend | .index => true
      | _ => false
    | some (.dct _) => match m with
      | .get => true
      | _ => false
    | _ => false
  | .tup _ => match m with
    | .index => true
    | _ => false
  | _ => false
def isiF (t : Ty) (x : D) (h : HS) : Option Bool := match t, x with
  | _, .fz _ => none
  | _, .kt _ => none
  | _, .fn _ => none
  | .int, .int _ | .int, .bl _ | .bool, .bl _ | .tuple, .tup _ | .str, .str _ => some true
  | .list, .ref n => match h[n]? with
    | some (.lst _) => some true
    | some (.dct kvs) => if kvs.all (fun kv => keyD kv.1) then some false else none
    | _ => none
  | _, .ref n => match h[n]? with
    | some (.lst _) => some false
    | some (.dct kvs) => if kvs.all (fun kv => keyD kv.1) then some false else none
    | _ => none
  | _, _ => some false
/-- lo, hi of a range's arguments -/
def rngF : List D → Option (Int × Int)
  | [.int b] => if b.natAbs ≤ LIM then some (0, b) else none
  | [.int a, .int b] => if a.natAbs ≤ LIM ∧ b.natAbs ≤ LIM ∧ (b - a).toNat ≤ LIM then some (a, b) else none
  | _ => none
def rngL (p : Int × Int) : List D := (List.range (p.2 - p.1).toNat).map fun i => .int (p.1 + (i : Nat))
/-- range(i, j, c) -/
def rng3F : List D → Option (List D)
  | [.int i, .int j, .int c] => if decide (c ≠ 0) && decide (c.natAbs < 1073741824) && Builtin.Range.small i j c && decide (Builtin.Range.rangeSize i j c = ((Builtin.Range.rangeSize i j c).toNat : Int)) then
      some ((List.range (Builtin.Range.rangeSize i j c).toNat).map fun t => .int (i + (t : Nat) * c)) else none
  | _ => none
/-- what a loop walks: its items; the cell that must stay as it is -/
structure Its where
  items : List D
  live : Option (Nat × List D)
def liveOk (l : Option (Nat × List D)) (h : HS) : Bool := match l with
  | none => true
  | some (c, xs) => decide (h[c]? = some (.lst xs))
/-- a list is walked: a new one is nobody else's -/
def walkD (n : Nat) (d : D) (h : HS) : R Its := match d with
  | .tup xs => .ok ⟨xs, none⟩ h
  | .kt xs => .ok ⟨xs, none⟩ h
  | .fz ns => .ok ⟨ns.map .int, none⟩ h
  | .ref c => match h[c]? with
    | some (.lst xs) => if decide (n ≤ c) && (h.take n).all (Cell.lo n) && D.los n xs then .ok ⟨xs, none⟩ (h.take n) else .ok ⟨xs, some (c, xs)⟩ h
    | _ => .bad
  | _ => .bad
def enumL (i : Nat) : List D → List D
  | [] => []
  | x :: r => .kt [.int i, x] :: enumL (i + 1) r
def zipL : List D → List D → List D
  | x :: r, y :: s => .tup [x, y] :: zipL r s
  | _, _ => []
def setAll (δ : En) : List Nat → List D → En
  | i :: is, x :: xs => setAll (δ.set i (some x)) is xs
  | _, _ => δ
def bindN (t : NT) (v : D) (δ : En) : Option En := match t with
  | .nm i => if i < δ.length then some (δ.set i (some v)) else none
  | .tp is => match v with
    | .tup xs => if is.length = xs.length ∧ is.all (· < δ.length) then some (setAll δ is xs) else none
    | .kt xs => if is.length = xs.length ∧ is.all (· < δ.length) then some (setAll δ is xs) else none
    | _ => none
def wipeE (δ : En) : List Nat → En
  | [] => δ
  | v :: vs => (wipeE δ vs).set v none
def compD (live : HS → Bool) (f : D → HS → R (List D)) : List D → HS → R (List D)
  | [], h => if live h then .ok [] h else .bad
  | x :: r, h => if live h then (f x h).bind fun y h1 => (compD live f r h1).bind fun ys h2 => .ok (y ++ ys) h2 else .bad

/-! ## evaluation -/
abbrev Cl := Str → List D → HS → R D
mutual
def evalE (cl : Cl) : CE → En → HS → R D
  | .var i, δ, h => match δ[i]? with
    | some (some d) => .ok d h
    | _ => .bad
  | .lit d, _, h => .ok d h
  | .bin o a b, δ, h => ((evalE cl a δ h).bind fun x h1 => (evalE cl b δ h1).bind fun y h2 => binF o x y h2).tr h.length
  | .neg a, δ, h => (evalE cl a δ h).bind fun x h1 => match x with
    | .int i => .ok (.int (-i)) h1
    | _ => .bad
  | .cmp o a b, δ, h => ((evalE cl a δ h).bind fun x h1 => (evalE cl b δ h1).bind fun y h2 => ofO ((cmpF o x y h2).map .bl) h2).tr h.length
  | .chain o o' a b c, δ, h => ((evalE cl a δ h).bind fun x h1 => (evalE cl b δ h1).bind fun y h2 => match cmpF o x y h2 with
    | some true => (evalE cl c δ h2).bind fun z h3 => ofO ((cmpF o' y z h3).map .bl) h3
    | some false => .ok (.bl false) h2
    | none => .bad).tr h.length
  | .andv a b, δ, h => (evalE cl a δ h).bind fun x h1 => match x with
    | .bl true => evalE cl b δ h1
    | .bl false => .ok (.bl false) h1
    | _ => .bad
  | .orv a b, δ, h => (evalE cl a δ h).bind fun x h1 => match x with
    | .bl false => evalE cl b δ h1
    | .bl true => .ok (.bl true) h1
    | _ => .bad
  | .notv a, δ, h => (evalE cl a δ h).bind fun x h1 => match x with
    | .bl b => .ok (.bl !b) h1
    | _ => .bad
  | .ife c a b, δ, h => (evalB cl c δ h).bind fun t h1 => if t then evalE cl a δ h1 else evalE cl b δ h1
  | .tup es, δ, h => (evalL cl es δ h).bind mkT
  | .lst es, δ, h => (evalL cl es δ h).bind mkL
  | .dct0, δ, h => .ok (.ref h.length) (h ++ [.dct []])
  | .dctL es, δ, h => (evalL cl es δ h).nx.bind dispF
  | .ix a b, δ, h => ((evalE cl a δ h).bind fun x h1 => (evalE cl b δ h1).bind fun y h2 => ixF x y h2).tr h.length
  | .slice a lo hi, δ, h => ((evalE cl a δ h).bind fun x h1 => (evalO cl lo δ h1).bind fun l h2 => (evalO cl hi δ h2).bind fun u h3 => slF x l u h3).tr h.length
  | .rev a, δ, h => ((evalE cl a δ h).bind fun x h1 => match x with
    | .ref n => match h1[n]? with
      | some (.lst xs) => .ok (.ref h1.length) (h1 ++ [.lst xs.reverse])
      | _ => .bad
    | .tup xs => .ok (.tup xs.reverse) h1
    | _ => .bad).tr h.length
  | .call f es, δ, h => ((evalL cl es δ h).bind fun xs h1 => cl f xs h1).tr h.length
  | .callv i es, δ, h => match δ[i]? with
    | some (some (.fn f)) => (((evalL cl es δ h).nx.bind fun xs h1 => cl f xs h1)).tr h.length
    | _ => .bad
  | .bi b es, δ, h => ((evalL cl es δ h).bind fun xs h1 => biF b xs h1).tr h.length
  | .meth m o es, δ, h => ((evalE cl o δ h).bind fun x h1 => if rcvOk m x h1 then (evalL cl es δ h1).bind fun xs h2 => meF m x xs h2 else .bad).tr h.length
  | .isi t a, δ, h => ((evalE cl a δ h).bind fun x h1 => ofO ((isiF t x h1).map .bl) h1).tr h.length
  | .lrg es, δ, h => ((evalL cl es δ h).bind fun xs h1 => match rngF xs with
    | some p => mkL (rngL p) h1
    | none => .bad).tr h.length
  | .trg es, δ, h => ((evalL cl es δ h).bind fun xs h1 => match rngF xs with
    | some p => mkT (rngL p) h1
    | none => .bad).tr h.length
  | .sset e, δ, h => ((evalE cl e δ h).bind ssetF).tr h.length
  | .kix kvs e, δ, h => ((evalE cl e δ h).bind (kixF kvs)).tr h.length
  | .lc own tg it t e, δ, h => ((evalI cl it δ h).bind fun w h1 => ((compD (liveOk w.live) (fun x h2 => match bindN tg x (wipeE δ own) with
      | some δ1 => (evalB cl t δ1 h2).bind fun b h3 => if b then (evalE cl e δ1 h3).bind fun y h4 => .ok [y] h4 else .ok [] h3
      | none => .bad) w.items h1).nx).bind mkL).tr h.length
  | .lc2 own own1 tg it t tg1 it1 t1 e, δ, h => ((evalI cl it δ h).bind fun w h1 => ((compD (liveOk w.live) (fun x h2 => match bindN tg x (wipeE δ own) with
      | some δ1 => (evalB cl t δ1 h2).bind fun b h3 => if b then (evalI cl it1 δ1 h3).bind fun w1 h4 => compD (liveOk w1.live) (fun x1 h5 => match bindN tg1 x1 (wipeE δ1 own1) with
          | some δ2 => (evalB cl t1 δ2 h5).bind fun b1 h6 => if b1 then (evalE cl e δ2 h6).bind fun y h7 => .ok [y] h7 else .ok [] h6
          | none => .bad) w1.items h4 else .ok [] h3
      | none => .bad) w.items h1).nx).bind mkL).tr h.length
def evalB (cl : Cl) : CB → En → HS → R Bool
  | .tru, _, h => .ok true h
  | .val e, δ, h => (evalE cl e δ h).bind fun x h1 => ofO (truD h1 x) h1
  | .cmp o a b, δ, h => (evalE cl a δ h).bind fun x h1 => (evalE cl b δ h1).bind fun y h2 => match cmpF o x y h2 with
    | some k => match trim h.length (.bl k) h2 with
      | .ok _ h3 => .ok k h3
      | _ => .bad
    | none => .bad
  | .chain o o' a b c, δ, h => (evalE cl a δ h).bind fun x h1 => (evalE cl b δ h1).bind fun y h2 => match cmpF o x y h2 with
    | some true => (evalE cl c δ h2).bind fun z h3 => match cmpF o' y z h3 with
      | some k => match trim h.length (.bl k) h3 with
        | .ok _ h4 => .ok k h4
        | _ => .bad
      | none => .bad
    | some false => .ok false h2
    | none => .bad
  | .and_ a b, δ, h => (evalB cl a δ h).bind fun x h1 => if x then evalB cl b δ h1 else .ok false h1
  | .or_ a b, δ, h => (evalB cl a δ h).bind fun x h1 => if x then .ok true h1 else evalB cl b δ h1
  | .not_ a, δ, h => (evalB cl a δ h).bind fun x h1 => .ok (!x) h1
def evalL (cl : Cl) : CL → En → HS → R (List D)
  | .nil, _, h => .ok [] h
  | .cons e r, δ, h => (evalE cl e δ h).bind fun x h1 => (evalL cl r δ h1).bind fun xs h2 => .ok (x :: xs) h2
def evalO (cl : Cl) : CO → En → HS → R (Option Int)
  | .no, _, h => .ok none h
  | .so e, δ, h => (evalE cl e δ h).bind fun x h1 => match x with
    | .int i => .ok (some i) h1
    | _ => .bad
def evalI (cl : Cl) : CI → En → HS → R Its
  | .seq e, δ, h => (evalE cl e δ h).bind fun x h1 => walkD h.length x h1
  | .rng es, δ, h => (evalL cl es δ h).bind fun xs h1 => match rngF xs with
    | some p => .ok ⟨rngL p, none⟩ h1
    | none => .bad
  | .rng3 es, δ, h => (evalL cl es δ h).bind fun xs h1 => match rng3F xs with
    | some l => .ok ⟨l, none⟩ h1
    | none => .bad
  | .enum e, δ, h => (evalE cl e δ h).bind fun x h1 => (walkD h.length x h1).bind fun w h2 => .ok ⟨enumL 0 w.items, w.live⟩ h2
  | .zip a b, δ, h => .bad
  | .rev e, δ, h => (evalE cl e δ h).bind fun x h1 => (walkD h.length x h1).bind fun w h2 => .ok ⟨w.items.reverse, w.live⟩ h2
end

/-! ## statements -/
inductive Fl where
  | next (δ : En) (h : HS) | ret (d : D) (h : HS) | brk (δ : En) (h : HS) | cont (δ : En) (h : HS)
  | exc (c : Str) (fs : List (Str × D)) (δ : En) (h : HS) | bad
def R.fl {α : Type} : R α → En → (α → HS → Fl) → Fl
  | .ok a h, _, f => f a h
  | .exc c fs h, δ, _ => .exc c fs δ h
  | .bad, _, _ => .bad
def Fl.then_ : Fl → (En → HS → Fl) → Fl
  | .next δ h, f => f δ h
  | r, _ => r
@[simp] theorem R.fl_ok {α : Type} (a : α) (h : HS) (δ : En) (f : α → HS → Fl) : (R.ok a h).fl δ f = f a h := rfl
@[simp] theorem Fl.then_next (δ h f) : (Fl.next δ h).then_ f = f δ h := rfl
@[simp] theorem Fl.then_ret (δ h f) : (Fl.ret δ h).then_ f = .ret δ h := rfl
def asgA (cl : Cl) (t : AT) (v : D) (δ : En) (h : HS) : R En := match t with
  | .nm i => if i < δ.length then .ok (δ.set i (some v)) h else .bad
  | .sub o i => (evalE cl o δ h).bind fun x h1 => (evalE cl i δ h1).bind fun y h2 => (setF x y v h2).bind fun _ h3 => .ok δ h3
  | .fld o f => .bad
def asgAs (cl : Cl) : List AT → List D → En → HS → R En
  | [], [], δ, h => .ok δ h
  | t :: ts, v :: vs, δ, h => (asgA cl t v δ h).bind fun δ1 h1 => asgAs cl ts vs δ1 h1
  | _, _, _, _ => .bad
def forD (live : HS → Bool) (f : D → En → HS → Fl) : List D → En → HS → Fl
  | [], δ, h => if live h then .next δ h else .bad
  | x :: r, δ, h => if live h then match f x δ h with
    | .next δ1 h1 => forD live f r δ1 h1
    | .cont δ1 h1 => forD live f r δ1 h1
    | .brk δ1 h1 => .next δ1 h1
    | o => o
    else .bad
def whileD (c : En → HS → R Bool) (f : En → HS → Fl) : Nat → En → HS → Fl
  | 0, _, _ => .bad
  | n + 1, δ, h => (c δ h).fl δ fun t h1 => if t then match f δ h1 with
    | .next δ1 h2 => whileD c f n δ1 h2
    | .cont δ1 h2 => whileD c f n δ1 h2
    | .brk δ1 h2 => .next δ1 h2
    | o => o
    else .next δ h1
def mkFs (xs : List D) : List (Str × XA) → Option (List (Str × D))
  | [] => some []
  | (f, .ar i) :: r => match xs[i]?, mkFs xs r with
    | some d, some l => some ((f, d) :: l)
    | _, _ => none
  | (f, .st z) :: r => (mkFs xs r).map ((f, .str z) :: ·)
/-- what a list says of a name -/
def lkX {α : Type} : List (Str × α) → Str → Option α
  | [], _ => none
  | (g, d) :: r, f => if g = f then some d else lkX r f
/-- a suite's expression -/
def evX (c : Str) (fs : List (Str × D)) : XE → Option D
  | .fld f => lkX fs f
  | .lit d => some d
  | .tup a b => match evX c fs a, evX c fs b with
    | some x, some y => some (.tup [x, y])
    | _, _ => none
  | .isi cs => (lkX cs c).map .bl
  | .not_ a => match evX c fs a with
    | some (.bl b) => some (.bl !b)
    | _ => none
  | .and_ a b => match evX c fs a with
    | some (.bl true) => evX c fs b
    | some (.bl false) => some (.bl false)
    | _ => none
  | .or_ a b => match evX c fs a with
    | some (.bl false) => evX c fs b
    | some (.bl true) => some (.bl true)
    | _ => none
  | .ife t a b => match evX c fs t with
    | some (.bl true) => evX c fs a
    | some (.bl false) => evX c fs b
    | _ => none
  | .ne f x => match lkX fs f with
    | some (.str z) => some (.bl (z != x))
    | _ => none
def flatX : D → Bool
  | .non | .bl _ | .int _ | .str _ => true
  | .tup [a, b] => flatD a && flatD b
  | _ => false
def execX (c : Str) (fs : List (Str × D)) : XS → En → HS → Fl
  | .ret e, _, h => match evX c fs e with
    | some d => .ret d h
    | none => .bad
  | .app i e, δ, h => match δ[i]?, evX c fs e with
    | some (some (.ref n)), some d => match h[n]? with
      | some (.lst xs) => if xs.length < LIM then .next δ (h.set n (.lst (xs ++ [d]))) else .bad
      | _ => .bad
    | _, _ => .bad
  | .ifr t e r, δ, h => match evX c fs t with
    | some (.bl true) => match evX c fs e with
      | some d => .ret d h
      | none => .bad
    | some (.bl false) => execX c fs r δ h
    | _ => .bad
  | .pass, δ, h => .next δ h
/-- how many turns a while may take -/
def FUEL : Nat := 2 ^ 64
mutual
def execS (cl : Cl) : CS → En → HS → Fl
  | .asg t e, δ, h => (evalE cl e δ h).fl δ fun v h1 => (asgA cl t v δ h1).nx.fl δ fun δ1 h2 => .next δ1 h2
  | .asgT ts e, δ, h => (evalE cl e δ h).fl δ fun v h1 => match v with
    | .tup xs => if xs.length = ts.length then (asgAs cl ts xs δ h1).nx.fl δ fun δ1 h2 => .next δ1 h2 else .bad
    | .kt xs => if xs.length = ts.length then (asgAs cl ts xs δ h1).nx.fl δ fun δ1 h2 => .next δ1 h2 else .bad
    | _ => .bad
  | .par is es, δ, h => (evalL cl es δ h).fl δ fun xs h1 => match bindN (.tp is) (.tup xs) δ with
    | some δ1 => .next δ1 h1
    | none => .bad
  | .aug i o e, δ, h => match δ[i]? with
    | some (some x) => (((evalE cl e δ h).bind fun y h1 => augF o x y h1).tr h.length).fl δ fun z h2 => .next (δ.set i (some z)) h2
    | _ => .bad
  | .augS o i op e, δ, h => .bad
  | .ex e, δ, h => (evalE cl e δ h).fl δ fun _ h1 => .next δ h1
  | .ret e, δ, h => (evalE cl e δ h).fl δ fun v h1 => .ret v h1
  | .retn, _, h => .ret .non h
  | .ifs c a b, δ, h => (evalB cl c δ h).fl δ fun t h1 => if t then execB cl a δ h1 else execB cl b δ h1
  | .for_ t it b, δ, h => (evalI cl it δ h).fl δ fun w h1 => forD (liveOk w.live) (fun x δ1 h2 => match bindN t x δ1 with
    | some δ2 => execB cl b δ2 h2
    | none => .bad) w.items δ h1
  | .while_ c b, δ, h => whileD (evalB cl c) (execB cl b) FUEL δ h
  | .brk, δ, h => .brk δ h
  | .cont, δ, h => .cont δ h
  | .pass, δ, h => .next δ h
  | .raise_ c fl e, δ, h => (evalE cl e δ h).fl δ fun x h1 => match mkFs [x] fl with
    | some fs => .exc c fs δ h1
    | none => .bad
  | .try_ b sl ks s, δ, h => match execB cl b δ h with
    | .exc c fs δ1 h1 => match lkX ks c with
      | some true => if sl < δ1.length then execX c fs s (δ1.set sl none) h1 else .bad
      | some false => .exc c fs δ1 h1
      | none => .bad
    | r => r
def execB (cl : Cl) : CSs → En → HS → Fl
  | .nil, δ, h => .next δ h
  | .cons s r, δ, h => (execS cl s δ h).then_ fun δ1 h1 => execB cl r δ1 h1
end

/-! ## calls -/
structure Df where
  np : Nat
  n : Nat
  body : CSs
abbrev Tb := Str → Option Df
def startE (n : Nat) (args : List D) : En := args.map some ++ List.replicate (n - args.length) none
def callD (T : Tb) : Nat → Cl
  | 0, _, _, _ => .bad
  | k + 1, f, args, h => match T f with
    | none => .bad
    | some d => if args.length = d.np then match execB (callD T k) d.body (startE d.n args) h with
        | .ret v h1 => trim h.length v h1
        | .next _ h1 => trim h.length .non h1
        | .exc c fs _ h1 => .exc c fs h1
        | _ => .bad
      else .bad
end Mi

namespace Mi
open PySem PySem.Spec PyProof.Rows L2 HT
/-! ## tuples whose object is known to have no dict of its own: so their methods may be called -/
/-- a tuple that the program makes: its object stands in the small heap -/
def TupS (H : Hp) (a : Addr) (xs : List V) : Prop := ∃ ob : Obj, ob.dict = none ∧ H a = some (.frz ob (.tup xs))
theorem TupS.sq {K : PySem.W.Frag} {H : Hp} {a : Addr} {xs : List V} (h : TupS H a xs) : SqT K H a xs := let ⟨ob, _, e⟩ := h; .inl (.inr ⟨ob, e⟩)
theorem TupS.new {H : Hp} {p : Addr} {ob : Obj} {xs : List V} (h : ob.dict = none) : TupS (upd H p (.frz ob (.tup xs))) p xs := ⟨ob, h, upd_same⟩
/-- what is wished of a new tuple -/
def NewT (H : Hp) (xs : List V) (Q : VK) : Prop := ∀ (p : Addr) (ob : Obj), H p = none → ob.dict = none → Q (.ref p) (upd H p (.frz ob (.tup xs)))
section
variable {X : Cx} {pins : List (Addr × Obj)} {σ : L2.St} {H : Hp} {s : Shared}
/-- a new tuple is laid behind all the objects -/
theorem NewT.lay {h' : Heap} {t' : Nat} {xs : List V} {its : Array Value} {Q : VK} (I : Inv X pins σ H { s with heap := h', toks := t' }) (r : Vals xs its.toList) (z : xs.length ≤ sizeLine) (q : NewT H xs Q) :
    EP X pins σ Q (.ref h'.objs.size) { s with heap := h'.push { cls := .type "tuple", data := .seq its }, toks := t' } := by
  have g := Heap.get?_push_size h' (o := { cls := .type "tuple", data := .seq its }) rfl
  refine ⟨.ref h'.objs.size, _, I.laid (t' := t') (o := .frz { cls := .type "tuple", data := .seq its } (.tup xs)) (fun b ob e => Heap.get?_push_of_some _ e) (Nat.le_refl _) ⟨g, z, its.toList, r, ?_⟩, rfl, q _ _ (I.hok.fresh (Nat.le_refl _)) rfl⟩
  rw [Array.toArray_toList]; exact IsTup.new _ _
/-! ### written items -/
def tTupS (t : TA) : TE := fun σ H Q => t σ H fun xs H1 => xs.length ≤ sizeLine ∧ NewT H1 xs Q
theorem pe_tupS {es : List Expr} {t : TA} {x1 : Nat} {pos : Pos} (h : PA X es t) : PE X (.Tuple es x1 pos) (tTupS t) := by
  refine ⟨fun pins s σ H Q I hq => wpAny_Tuple_spliced (thn (h.run pos pins s σ H _ I hq) ?_)⟩
  rintro us s1 ⟨xs, H1, I1, r, z, q⟩
  exact ⟨by rw [← r.length]; exact z, NewT.lay (its := us.toArray) I1 (by simpa using r) z q⟩
/-! ### tuple(x) -/
theorem call_tupS : CallR X (.type "tuple") (fun xs H Q => ∃ p ys, xs = [.ref p] ∧ ((SqL X.K H p ys ∧ NewT H ys Q) ∨ (SqT X.K H p ys ∧ Q (.ref p) H))) := by
  rintro pins s σ H xs us Q I r ⟨p, ys, rfl, h⟩
  obtain ⟨u, rfl, rx⟩ := vals1 r
  cases rx
  rcases h with ⟨hq, q⟩ | ⟨hq, q⟩
  · obtain ⟨its, rv, pl, z⟩ := I.list hq
    refine call_tuple_list pl.isList (fun h2 kp => ?_) (by simp only [List.size_toArray]; rw [← rv.length]; exact z)
    exact NewT.lay (its := its.toArray) (I.kept (t' := s.toks) kp) (by simpa using rv) z q
  · obtain ⟨its, _, pl, _⟩ := I.tuple hq
    exact call_tuple_same pl ⟨.ref p, H, I, rfl, q⟩
/-! ### x + y -/
def rCatS (K : PySem.W.Frag) : R2 := fun x y H Q => ∃ a b xs ys, x = .ref a ∧ y = .ref b ∧ SqT K H a xs ∧ SqT K H b ys ∧ xs.length + ys.length ≤ sizeLine ∧
  (xs = [] → Q (.ref b) H) ∧ (xs ≠ [] → ys = [] → Q (.ref a) H) ∧ (xs ≠ [] → ys ≠ [] → NewT H (xs ++ ys) Q)
theorem op_catS : OpR X (binaryOp .Add) (rCatS X.K) := by
  rintro pins s σ H x y v u Q I rx ry ⟨a, b, xs, ys, rfl, rfl, ha, hb, z, q0, q1, q2⟩
  obtain ⟨is, ra, pa, _⟩ := I.tuple ha
  obtain ⟨js, rb, pb, _⟩ := I.tuple hb
  cases rx
  cases ry
  by_cases c : xs = []
  · subst c
    cases ra
    exact cat_tup0 pa pb ⟨.ref b, H, I, rfl, q0 rfl⟩
  · refine cat_tup pa pb (fun e => c (ra.nil_iff.mp e)) (fun e => ⟨.ref a, H, I, rfl, q1 c (rb.nil_iff.mp e)⟩) (fun e => ?_) (by rw [← ra.length, ← rb.length]; exact z)
    refine NewT.lay (s := s) (t' := s.toks) I ?_ (by rw [List.length_append]; exact z) (q2 c fun e2 => e (rb.nil_iff.mpr e2))
    simpa using ra.append rb
/-! ### x[i:j] -/
def rSlS (K : PySem.W.Frag) : V → Option Int → Option Int → Hp → VK → Prop := fun x lo hi H Q => ∃ a xs, x = .ref a ∧ SqT K H a xs ∧
  (sIx xs.length 0 lo = 0 ∧ sIx xs.length xs.length hi = xs.length → Q (.ref a) H) ∧ (¬ (sIx xs.length 0 lo = 0 ∧ sIx xs.length xs.length hi = xs.length) → NewT H (cutV xs lo hi) Q)
theorem sl_tupS : SlR X (rSlS X.K) := by
  rintro pins s σ H x v vl vu lo hi sl Q I rx hs pl pu ⟨a, xs, rfl, hx, q1, q2⟩
  by_cases c : sIx xs.length 0 lo = 0 ∧ sIx xs.length xs.length hi = xs.length
  · exact sl_tupA pins s σ H _ v vl vu lo hi sl Q I rx hs pl pu ⟨a, xs, rfl, hx, fun _ => q1 c, fun n => absurd c n⟩
  · obtain ⟨its, r, ht, z⟩ := I.tuple hx
    cases rx
    have len : its.toArray.size = xs.length := by rw [List.size_toArray]; exact r.length.symm
    refine ⟨"tuple", _, slot_tuple_getitem.lookup, ht.typeIs, getItem_tuple_cut ht hs pl pu (by rw [len]; exact c) ?_ (by rw [len]; exact z)⟩
    rw [len]
    refine NewT.lay (s := s) (t' := s.toks) I ?_ (Nat.le_trans (cutV_length xs lo hi) z) (q2 c)
    simpa [cutV] using (r.drop (sIx xs.length 0 lo)).take (sIx xs.length xs.length hi - sIx xs.length 0 lo)
/-! ### tuple(range(..)) -/
def tTupRgS (te : L2.St → Hp → (Int → Int → Hp → Prop) → Prop) : TE := fun σ H Q => te σ H fun a b H1 => RgOk a b ∧ NewT H1 (rgV a b) Q
theorem pe_tupRgS {e : Expr} {te : L2.St → Hp → (Int → Int → Hp → Prop) → Prop} {p pos : Pos} (hc : X.calm = true) (hg : Gl X "tuple") (hm : X.mg "tuple" = none) (he : PRg X e te) (na : starEach [e] X.env = (false, eval e X.env) :: starEach [] X.env := by rfl) :
    PE X (.Call (.Name "tuple" p) [e] [] pos) (tTupRgS te) := by
  refine ⟨fun pins s σ H Q I h => Call_ (ld_blt I hg hm boot_tuple (callWith_type1 (args_cons (thn (he pins s σ H _ I h) ?_) na) na))⟩
  rintro x s1 ⟨r, a, b, t, u, v, H1, rfl, hr, I1, ok, q⟩
  refine args_nil ?_
  have ok' := ok
  obtain ⟨b1, b2, b3, b4, b5⟩ := ok
  refine call_tuple_range (n := (b - a).toNat) (I1.ok.hd hc) hr (small_one b1 b2 b3 b4) (rangeSize_nat a b) b5 fun h' tk acc hk hi => ?_
  exact NewT.lay (s := s1) (I1.kept hk) (vals_rg hi) (by rw [rgV_length, sizeLine_eq]; omega) q
end
/-! ### x.index(k), x a list or a tuple -/
section
variable {X : Cx}
theorem tuple_ty {pins : List (Addr × Obj)} {σ : L2.St} {H : Hp} {s : Shared} {a : Addr} {xs : List V} (I : Inv X pins σ H s) (h : TupS H a xs) : s.TypeIs (.ref a) "tuple" ∧ ∀ b, Value.ref a = .ref b → ∃ ob, s.heap.get? b = some ob ∧ ob.dict = none := by
  obtain ⟨ob, hd, e⟩ := h
  obtain ⟨g, _, its, _, ⟨o, g2, hc, _⟩⟩ := I.hok a _ e
  refine ⟨⟨o, g2, hc⟩, fun b eb => ?_⟩
  cases eb
  exact ⟨ob, g, hd⟩
end
end Mi

namespace Mi
open PySem PySem.Spec PyProof.Rows L2
/-! ## dicts whose keys are tuples of whole numbers, by the addresses of these tuples -/
abbrev KA := List Int × Addr × V
def tHash (ks : List Int) : Int := reduceHash (Builtin.Tuple.tupleHashOf (ks.map hashInt))
def KwR (p : KA) (q : List Int × Addr × Value) : Prop := p.1 = q.1 ∧ p.2.1 = q.2.1 ∧ RelV p.2.2 q.2.2
/-- the object at a is such a dict -/
def TDict (a : Addr) (kas : List KA) (h : Heap) : Prop := kas.length ≤ sizeLine ∧ (a == sysModules) = false ∧ ∃ xs : List (List Int × Addr × Value), Paired KwR kas xs ∧
  ∃ o es ep, h.get? a = some o ∧ o.ExactDict ∧ o.data = .dict es ep ∧ es.toList = xs.map (fun x => (⟨tHash x.1, .ref x.2.1, x.2.2⟩ : DictEntry)) ∧ (xs.map (·.1)).Nodup
def tdO (a : Addr) (kas : List KA) : HO := .ext (TDict a kas)
/-- such a dict; or an empty dict, of no kind yet -/
def TDic (H : Hp) (a : Addr) (kas : List KA) : Prop := H a = some (tdO a kas) ∨ kas = [] ∧ H a = some (.dK [])
def KeysS (H : Hp) (kas : List KA) : Prop := ∀ x ∈ kas, TupS H x.2.1 (x.1.map V.int)
/-- the value at a key; a value put there -/
def atA (kas : List KA) (k : List Int) : Option V := (kas.find? fun x => decide (x.1 = k)).map (·.2.2)
def putA (kas : List KA) (k : List Int) (b : Addr) (v : V) : List KA := if (kas.any fun x => decide (x.1 = k)) then kas.map (fun x => if x.1 = k then (x.1, x.2.1, v) else x) else kas ++ [(k, b, v)]
section
variable {kas : List KA} {xs : List (List Int × Addr × Value)} {k : List Int}
theorem KwR.len (r : Paired KwR kas xs) : kas.length = xs.length := Paired.length r
theorem KwR.at (r : Paired KwR kas xs) : RelO (atA kas k) ((atKey xs k).map (·.2)) := by
  induction r with
  | nil => exact True.intro
  | @cons p q ps qs z t ih =>
    obtain ⟨z1, _, z3⟩ := z
    by_cases c : p.1 = k
    · have c2 : q.1 = k := z1.symm.trans c
      have e1 : atA (p :: ps) k = some p.2.2 := by simp [atA, List.find?_cons, c]
      have e2 : atKey (q :: qs) k = some q.2 := by simp [atKey, List.find?_cons, c2]
      rw [e1, e2]; exact z3
    · have c2 : ¬ q.1 = k := fun w => c (z1.trans w)
      have e1 : atA (p :: ps) k = atA ps k := by simp [atA, List.find?_cons, c]
      have e2 : atKey (q :: qs) k = atKey qs k := by simp [atKey, List.find?_cons, c2]
      rw [e1, e2]; exact ih
theorem any_at : (kas.any fun x => decide (x.1 = k)) = (atA kas k).isSome := by
  unfold atA
  rw [Option.isSome_map, List.isSome_find?]
theorem KwR.map (r : Paired KwR kas xs) {v : V} {u : Value} (rv : RelV v u) : Paired KwR (kas.map fun x => if x.1 = k then (x.1, x.2.1, v) else x) (xs.map (putAt k u)) := by
  induction r with
  | nil => exact .nil
  | @cons p q ps qs z t ih =>
    refine .cons ?_ ih
    obtain ⟨z1, z2, z3⟩ := z
    unfold putAt
    dsimp only
    by_cases c : p.1 = k
    · rw [if_pos c, if_pos (z1.symm.trans c)]; exact ⟨z1, z2, rv⟩
    · rw [if_neg c, if_neg fun w => c (z1.trans w)]; exact ⟨z1, z2, z3⟩
theorem paired_snoc {α β : Type} {F : α → β → Prop} {x : α} {y : β} (r : F x y) : ∀ {l : List α} {m : List β}, Paired F l m → Paired F (l ++ [x]) (m ++ [y])
  | _, _, .nil => .cons r .nil
  | _, _, .cons q t => .cons q (paired_snoc r t)
theorem KwR.put (r : Paired KwR kas xs) {b : Addr} {v : V} {u : Value} (rv : RelV v u) : Paired KwR (putA kas k b v) (storedH xs k b u) := by
  unfold putA storedH
  have e : (atKey xs k).isSome = (atA kas k).isSome := by
    have := (KwR.at (k := k) r).isSome_eq
    rw [Option.isSome_map] at this
    exact this.symm
  rw [any_at, e]
  split
  · exact KwR.map r rv
  · exact paired_snoc ⟨rfl, rfl, rv⟩ r
theorem putA_le {b : Addr} {v : V} : (putA kas k b v).length ≤ kas.length + 1 := by
  unfold putA
  split
  · rw [List.length_map]; omega
  · rw [List.length_append]; simp
theorem putA_keys {H : Hp} {b : Addr} {v : V} (h : KeysS H kas) (hb : TupS H b (k.map V.int)) : KeysS H (putA kas k b v) := fun x hx => by
  unfold putA at hx
  split at hx
  · obtain ⟨y, hy, rfl⟩ := List.mem_map.mp hx
    have := h y hy
    by_cases c : y.1 = k
    · rw [if_pos c]; exact this
    · rw [if_neg c]; exact this
  · rcases List.mem_append.mp hx with hx | hx
    · exact h x hx
    · simp at hx; subst hx; exact hb
end
section
variable {X : Cx} {pins : List (Addr × Obj)} {σ : L2.St} {H : Hp} {s : Shared} {a b : Addr} {kas : List KA} {k : List Int}
theorem ints_items {P : Program} {w : World} : ∀ {ks : List Int} {us : List Value}, Vals (ks.map V.int) us → ItemsAre (intKind P w) ks us
  | [], _, .nil => .nil
  | i :: r, _, .cons q t => by
    obtain ⟨t0, rfl⟩ := q
    exact .cons (show Value.isInt i (.int i t0) = true by simp [Value.isInt]) (ints_items t)
theorem key_ofS (I : Inv X pins σ H s) (e : TupS H b (k.map V.int)) : (tupleKind (intKind X.prog X.w)).is s.heap k b := by
  obtain ⟨ob, _, e⟩ := e
  obtain ⟨_, _, its, r, o, h1, h2, n, h3⟩ := I.hok b _ e
  exact ⟨o, its.toArray, n, h1, h2, h3, by simpa using ints_items r⟩
theorem td_of (I : Inv X pins σ H s) (e : TDic H a kas) (hk : KeysS H kas) : kas.length ≤ sizeLine ∧ (a == sysModules) = false ∧ ∃ xs, Paired KwR kas xs ∧ s.heap.DictOfH (tupleKind (intKind X.prog X.w)) a xs := by
  rcases e with e | ⟨rfl, e⟩
  · obtain ⟨⟨z, hd, xs, r, o, es, ep, h1, h2, h3, h4, h5⟩, -, -⟩ := I.hok a _ e
    refine ⟨z, hd, xs, r, o, es, ep, h1, h2, h3, h4, ?_, h5⟩
    clear h4 h5 e z
    induction r with
    | nil => intro x hx; exact nomatch hx
    | @cons p q ps qs z t ih =>
      intro x hx
      rcases List.mem_cons.mp hx with rfl | hx
      · have := key_ofS I (hk p (by simp))
        rw [z.2.1, z.1] at this; exact this
      · exact ih (fun y hy => hk y (by simp [hy])) x hx
  · obtain ⟨z, hd, vs, rel, o, es, ep, h1, h2, h3, _, h5, _⟩ := I.hok a _ e
    cases rel
    have el : es.toList = [] := by
      cases hh : es.toList with
      | nil => rfl
      | cons x r => rw [hh] at h5; cases h5
    exact ⟨Nat.zero_le _, hd, [], .nil, o, es, ep, h1, h2, h3, el, fun x hx => (nomatch hx), List.nodup_nil⟩
theorem TDic.mut (e : TDic H a kas) : Mut (H a) := by
  rcases e with e | ⟨_, e⟩ <;> rw [e] <;> exact True.intro
/-- such a dict is written anew -/
theorem td_write {h' : Heap} {t' : Nat} {xs : List (List Int × Addr × Value)} (I : Inv X pins σ H s) (mu : Mut (H a)) (hs : Heap.SameBut a s.heap h') (hd : (a == sysModules) = false) (z : kas.length ≤ sizeLine) (r : Paired KwR kas xs)
    (dd : h'.DictOfH (tupleKind (intKind X.prog X.w)) a xs) : Inv X pins σ (upd H a (tdO a kas)) { s with heap := h', toks := t' } := by
  obtain ⟨o, es, ep, h1, h2, h3, h4, _, h5⟩ := dd
  refine d_write I mu hs ⟨o, h1⟩ ⟨⟨z, hd, xs, r, o, es, ep, h1, h2, h3, h4, h5⟩, ⟨o, h1⟩, ?_⟩
  rintro g1 g2 ⟨z, hd, xs, r, o, es, ep, h1, h⟩ k
  exact ⟨z, hd, xs, r, o, es, ep, k o h1, h⟩
/-! ### what a dict of any kind holds -/
def GetS (H : Hp) (a : Addr) (y : V) (o : Option V) : Prop := DGet H a y o ∨ ∃ kas k b, y = .ref b ∧ TDic H a kas ∧ KeysS H kas ∧ TupS H b (k.map V.int) ∧ o = atA kas k
def PutS (H : Hp) (a : Addr) (y v : V) (H' : Hp) : Prop := DPut H a y v H' ∨ ∃ kas k b, y = .ref b ∧ TDic H a kas ∧ KeysS H kas ∧ TupS H b (k.map V.int) ∧ kas.length < sizeLine ∧ H' = upd H a (tdO a (putA kas k b v))
theorem gs_typeIs {y : V} {o : Option V} (I : Inv X pins σ H s) (g : GetS H a y o) : s.TypeIs (.ref a) "dict" := by
  rcases g with g | ⟨kas, k, b, _, e, hk, _⟩
  · exact dict_typeIs I g
  · obtain ⟨_, _, xs, _, dd⟩ := td_of I e hk
    exact dd.typeIs
variable {y v d : V} {u r : Value} {o : Option V} {A : Around} {E : Value → Shared → Prop}
theorem g_getItem {Q : Value → Shared → Prop} (hu : A.units + 1 < cLine) (I : Inv X pins σ H s) (g : GetS H a y (some v)) (ry : RelV y u) (h : ∀ w' s', Inv X pins σ H s' → RelV v w' → Q w' s') :
    wpAny (model X.prog X.w) A (getItem (.ref a) u) Q E s := by
  rcases g with g | ⟨kas, k, b, rfl, e, hk, eb, l⟩
  · exact d_getItem hu I g ry h
  · cases ry
    obtain ⟨z, hd, xs, rel, dd⟩ := td_of I e hk
    obtain ⟨w', hw, rw'⟩ := RelO.some_of (v := v) (o := (atKey xs k).map (·.2)) (by rw [l]; exact KwR.at rel)
    obtain ⟨p, hp, hp2⟩ := Option.map_eq_some_iff.mp hw
    refine wpAny_getItem_heap (tupleKind_room_in1 hu) (key_ofS I eb) dd hp ?_
    rw [hp2]
    exact h w' _ (I.tok _) rw'
theorem at_some {kas : List KA} {xs : List (List Int × Addr × Value)} {k : List Int} (rel : Paired KwR kas xs) : (atKey xs k).isSome = (atA kas k).isSome := by
  have := (KwR.at (k := k) rel).isSome_eq
  rw [Option.isSome_map] at this
  exact this.symm
theorem g_in {Q : Value → Shared → Prop} (hu : A.units + 1 < cLine) (I : Inv X pins σ H s) (g : GetS H a y o) (ry : RelV y u) (h : ∀ s', Inv X pins σ H s' → Q (.bool o.isSome) s') : wpAny (model X.prog X.w) A (compareOp .In u (.ref a)) Q E s := by
  rcases g with g | ⟨kas, k, b, rfl, e, hk, eb, l⟩
  · exact d_in hu I g ry h
  · cases ry
    obtain ⟨z, hd, xs, rel, dd⟩ := td_of I e hk
    refine wpAny_in_heap (tupleKind_room_in1 hu) (key_ofS I eb) hd dd ?_
    rw [at_some rel, ← l]
    exact h _ (I.tok _)
theorem g_notIn {Q : Value → Shared → Prop} (hu : A.units + 1 < cLine) (I : Inv X pins σ H s) (g : GetS H a y o) (ry : RelV y u) (h : ∀ s', Inv X pins σ H s' → Q (.bool (!o.isSome)) s') : wpAny (model X.prog X.w) A (compareOp .NotIn u (.ref a)) Q E s := by
  rcases g with g | ⟨kas, k, b, rfl, e, hk, eb, l⟩
  · exact d_notIn hu I g ry h
  · cases ry
    obtain ⟨z, hd, xs, rel, dd⟩ := td_of I e hk
    refine wpAny_notIn_heap (tupleKind_room_in1 hu) (key_ofS I eb) hd dd ?_
    rw [at_some rel, ← l]
    exact h _ (I.tok _)
theorem g_get1 {Q : Value → Shared → Prop} (hu : A.units + 1 < cLine) (I : Inv X pins σ H s) (g : GetS H a y o) (ry : RelV y u) (h : ∀ w' s', Inv X pins σ H s' → RelV (o.getD .non) w' → Q w' s') :
    wpAny (model X.prog X.w) A (call (.builtin "dict.get") [.ref a, u]) Q E s := by
  rcases g with g | ⟨kas, k, b, rfl, e, hk, eb, l⟩
  · exact d_get1 hu I g ry h
  · cases ry
    obtain ⟨z, hd, xs, rel, dd⟩ := td_of I e hk
    refine call_meetsIn PySem.F.slot_dict_get dd.typeIs PySem.F.entry_dict_get (PySem.F.args_dict_get_2 _ _) (meetsH_dict_get (tupleKind (intKind X.prog X.w)) a b hd) ⟨tupleKind_room_in1 hu, k, xs, key_ofS I eb, dd, h _ _ (I.tok _) ?_⟩
    rw [l]
    exact (KwR.at rel).getD rfl
theorem g_get2 {Q : Value → Shared → Prop} (hu : A.units + 1 < cLine) (I : Inv X pins σ H s) (g : GetS H a y o) (ry : RelV y u) (rd : RelV d r) (h : ∀ w' s', Inv X pins σ H s' → RelV (o.getD d) w' → Q w' s') :
    wpAny (model X.prog X.w) A (call (.builtin "dict.get") [.ref a, u, r]) Q E s := by
  rcases g with g | ⟨kas, k, b, rfl, e, hk, eb, l⟩
  · exact d_get2 hu I g ry rd h
  · cases ry
    obtain ⟨z, hd, xs, rel, dd⟩ := td_of I e hk
    refine call_meetsIn PySem.F.slot_dict_get dd.typeIs PySem.F.entry_dict_get (PySem.F.args_dict_get_3 _ _ _) (meetsH_dict_get_default (tupleKind (intKind X.prog X.w)) a b hd r) ⟨tupleKind_room_in1 hu, k, xs, key_ofS I eb, dd, h _ _ (I.tok _) ?_⟩
    rw [l]
    exact (KwR.at rel).getD rd
theorem g_setItem {H' : Hp} {Q : Unit → Shared → Prop} (hu : A.units + 1 < cLine) (I : Inv X pins σ H s) (g : PutS H a y v H') (ry : RelV y u) (rv : RelV v r) (h : ∀ s', Inv X pins σ H' s' → Q () s') :
    wpAny (model X.prog X.w) A (setItem (.ref a) u r) Q E s := by
  rcases g with g | ⟨kas, k, b, rfl, e, hk, eb, l, rfl⟩
  · exact d_setItem hu I g ry rv h
  · cases ry
    obtain ⟨z, hd, xs, rel, dd⟩ := td_of I e hk
    refine wpAny_setItem_heap (hsz := by rw [← KwR.len rel]; exact z) (tupleKind_room_in1 hu) (key_ofS I eb) dd fun h' dd' hs => h _ ?_
    exact td_write I e.mut hs hd (by have := putA_le (kas := kas) (k := k) (b := b) (v := v); omega) (KwR.put rel rv) dd'
theorem g_len {Q : Value → Shared → Prop} (I : Inv X pins σ H s) (e : TDic H a kas) (hk : KeysS H kas) (h : ∀ t s', Inv X pins σ H s' → Q (.int kas.length t) s') : wpAny (model X.prog X.w) A (call (.builtin "len") [.ref a]) Q E s := by
  obtain ⟨z, hd, xs, rel, dd⟩ := td_of I e hk
  refine call_len_dictH hd dd (by rw [← KwR.len rel]; rw [sizeLine_eq] at z; omega) ?_
  rw [← KwR.len rel]
  exact h _ _ (I.tok _)
theorem td_ty (I : Inv X pins σ H s) (e : TDic H a kas) (hk : KeysS H kas) : s.TypeIs (.ref a) "dict" ∧ ∀ b, Value.ref a = .ref b → ∃ ob, s.heap.get? b = some ob ∧ ob.dict = none := by
  obtain ⟨z, hd, xs, rel, o, es, ep, h1, h2, _⟩ := td_of I e hk
  refine ⟨⟨o, h1, h2.1⟩, fun b eb => ?_⟩
  cases eb
  exact ⟨o, h1, h2.2.1⟩
end
/-! ## the call of a method, the receiver's type known in one of two ways -/
/-- what the rules of methods ask of a receiver -/
def TyOk (X : Cx) (T : String) (ty : V → Hp → Prop) : Prop := ∀ (pins : List (Addr × Obj)) (σ : L2.St) (H : Hp) (s : Shared) (x : V) (v : Value), Inv X pins σ H s → RelV x v → ty x H →
  s.TypeIs v T ∧ ∀ a, v = .ref a → ∃ ob, s.heap.get? a = some ob ∧ ob.dict = none
theorem tyOk_V {X : Cx} {T : String} : TyOk X T (tyV X.K T) := fun _ _ _ _ _ _ I r ty => tyV_is I r ty
theorem tyOk_T {X : Cx} : TyOk X "tuple" (fun x H => ∃ a xs, x = .ref a ∧ TupS H a xs) := fun _ _ _ _ _ _ I r ⟨a, xs, e, h⟩ => by
  subst e; cases r
  exact tuple_ty I h
/-- a dict of any kind -/
def tyDic (K : PySem.W.Frag) (x : V) (H : Hp) : Prop := tyV K "dict" x H ∨ ∃ a kas, x = .ref a ∧ TDic H a kas ∧ KeysS H kas
theorem tyOk_D {X : Cx} : TyOk X "dict" (tyDic X.K) := fun pins σ H s x v I r ty => by
  rcases ty with ty | ⟨a, kas, e, h, hk⟩
  · exact tyV_is I r ty
  · subst e; cases r
    exact td_ty I h hk
section
variable {X : Cx} {o e : Expr} {es : List Expr} {to : TE} {t : TA} {name : Str} {apos cpos : Pos} {T1 T2 id1 id2 : String} {r1 r2 : V → List V → Hp → VK → Prop} {ty1 ty2 : V → Hp → Prop}
theorem pe_bmX0 (pa1 : PlainAttrs T1) (sl1 : Slot T1 name id1) (ht1 : typeOf (.builtin id1) = pure (.type "method_descriptor")) (ok1 : TyOk X T1 ty1) (hm1 : MtR X id1 r1) (ho : PE X o to)
    (hbase : attributeBase o name X.env (eval o X.env) = eval o X.env) (hline : (apos.endLine == cpos.line) = true) :
    PE X (.Call (.Attribute o name apos) [] [] cpos) (fun σ H Q => to σ H fun x H1 => ty1 x H1 ∧ r1 x [] H1 Q) := by
  refine ⟨fun pins s σ H Q I h => wpAny_Call_method0_late hbase hline (thn (ho.run pins s σ H _ I h) ?_)⟩
  rintro v s1 ⟨x, H1, I1, rx, ty, q⟩
  obtain ⟨a1, a2⟩ := ok1 _ _ _ _ _ _ I1 rx ty
  exact ⟨T1, id1, pa1, sl1, ht1, a1, a2, Calls.callWith_builtin rfl (PySem.evalArgs_none (hm1 pins s1 σ H1 x [] v [] Q I1 rx .nil q))⟩
theorem pe_bmX (pa1 : PlainAttrs T1) (sl1 : Slot T1 name id1) (ht1 : typeOf (.builtin id1) = pure (.type "method_descriptor")) (ok1 : TyOk X T1 ty1) (hm1 : MtR X id1 r1)
    (pa2 : PlainAttrs T2) (sl2 : Slot T2 name id2) (ht2 : typeOf (.builtin id2) = pure (.type "method_descriptor")) (ok2 : TyOk X T2 ty2) (hm2 : MtR X id2 r2) (ho : PE X o to) (ha : PA X (e :: es) t)
    (hbase : attributeBase o name X.env (eval o X.env) = eval o X.env)
    (hfew : ((backTo cpos (starEach (e :: es) X.env)).all (fun x => !x.1) && (backToKw cpos (keywordEach [] X.env)).all (fun x => x.1.isSome)
      && decide ((e :: es).length + ([] : List Keyword).length + (if ([] : List Keyword).isEmpty then 0 else 1) < 30)) = true)
    (hline : (apos.endLine == cpos.line) = true) (hs : starEach (e :: es) X.env = (false, eval e X.env) :: starEach es X.env) (hplain : (backTo cpos (starEach es X.env)).any (·.1) = false) :
    PE X (.Call (.Attribute o name apos) (e :: es) [] cpos) (fun σ H Q => to σ H fun x H1 => (ty1 x H1 ∧ t σ H1 fun xs H2 => r1 x xs H2 Q) ∨ (ty2 x H1 ∧ t σ H1 fun xs H2 => r2 x xs H2 Q)) := by
  refine ⟨fun pins s σ H Q I h => wpAny_Call_method_late hbase hfew hline rfl (thn (ho.run pins s σ H _ I h) ?_)⟩
  rintro v s1 ⟨x, H1, I1, rx, q⟩
  have no : (false || (backTo cpos (starEach es X.env)).any (·.1)) = false := by rw [hplain]; rfl
  rcases q with ⟨ty, q⟩ | ⟨ty, q⟩
  · obtain ⟨a1, a2⟩ := ok1 _ _ _ _ _ _ I1 rx ty
    refine ⟨T1, id1, pa1, sl1, ht1, a1, a2, ?_⟩
    have hA := ha.run cpos pins s1 σ H1 _ I1 q
    rw [hs] at hA ⊢
    exact Calls.callWith_builtin no (Calls.evalArgs_plain (thn hA fun us s2 ⟨vs, H2, I2, r2, q2⟩ => hm1 pins s2 σ H2 x vs v us Q I2 rx r2 q2))
  · obtain ⟨a1, a2⟩ := ok2 _ _ _ _ _ _ I1 rx ty
    refine ⟨T2, id2, pa2, sl2, ht2, a1, a2, ?_⟩
    have hA := ha.run cpos pins s1 σ H1 _ I1 q
    rw [hs] at hA ⊢
    exact Calls.callWith_builtin no (Calls.evalArgs_plain (thn hA fun us s2 ⟨vs, H2, I2, r2, q2⟩ => hm2 pins s2 σ H2 x vs v us Q I2 rx r2 q2))
end
end Mi

namespace Mi
open PySem L2

/-! ## the relation of the small heap to the abstract heap -/
def FzL (K : PySem.W.Frag) (H : Hp) (a : Addr) (xs : List V) : Prop :=
  (∃ o, H a = some (.frz o (.lst xs))) ∨
    ∃ (o : Obj) (its : Array Value) (n : Nat), K.lookup a = some o ∧ o.cls = .type "list" ∧ o.dict = none ∧ o.data = .seq its n ∧ its.size ≤ sizeLine ∧ Vals xs its.toList
theorem FzL.sq {K : PySem.W.Frag} {H : Hp} {a : Addr} {xs : List V} (h : FzL K H a xs) : SqL K H a xs := by
  rcases h with ⟨o, h⟩ | h
  · exact .inl (.inr ⟨o, h⟩)
  · exact .inr h
def KtT (K : PySem.W.Frag) (a : Addr) (xs : List V) : Prop := ∃ (o : Obj) (its : Array Value) (n : Nat), K.lookup a = some o ∧ o.cls = .type "tuple" ∧ o.data = .seq its n ∧ its.size ≤ sizeLine ∧ Vals xs its.toList
/-- a tuple of a module; or one that was made, of whose object nothing is known -/
def WkT (K : PySem.W.Frag) (H : Hp) (a : Addr) (xs : List V) : Prop := KtT K a xs ∨ H a = some (.tup xs)
theorem WkT.sq {K : PySem.W.Frag} {H : Hp} {a : Addr} {xs : List V} (h : WkT K H a xs) : SqT K H a xs := by
  rcases h with h | h
  · exact .inr h
  · exact SqT.of h
mutual
inductive Rp (K : PySem.W.Frag) (ι : List Addr) (H : Hp) : D → V → Prop
  | non : Rp K ι H .non .non
  | bl (b : Bool) : Rp K ι H (.bl b) (.bl b)
  | int (i : Int) : Rp K ι H (.int i) (.int i)
  | str (x : Str) : Rp K ι H (.str x) (.str x)
  | tup {xs : List D} {a : Addr} {vs : List V} : TupS H a vs → RpL K ι H xs vs → Rp K ι H (.tup xs) (.ref a)
  | kt {xs : List D} {a : Addr} {vs : List V} : WkT K H a vs → RpL K ι H xs vs → Rp K ι H (.kt xs) (.ref a)
  | ref {n : Nat} {a : Addr} : ι[n]? = some a → Rp K ι H (.ref n) (.ref a)
  | fz {ns : List Int} {a : Addr} : FzL K H a (ns.map V.int) → Rp K ι H (.fz ns) (.ref a)
  | fn {f : Str} {a : Addr} : PySem.W.nsIn K mainGlobals f = some (some (.ref a)) → Rp K ι H (.fn f) (.ref a)
inductive RpL (K : PySem.W.Frag) (ι : List Addr) (H : Hp) : List D → List V → Prop
  | nil : RpL K ι H [] []
  | cons {x : D} {v : V} {xs : List D} {vs : List V} : Rp K ι H x v → RpL K ι H xs vs → RpL K ι H (x :: xs) (v :: vs)
end
def keyOf : D → Option Key
  | .int i => some (.inl i)
  | .str x => some (.inr x)
  | _ => none
def tkeyOf : D → Option (List Int)
  | .tup xs => intsD xs
  | _ => none
def DctR (K : PySem.W.Frag) (ι : List Addr) (H : Hp) (kvs : List (D × D)) (a : Addr) : Prop :=
  (∃ ks : List (Key × V), H a = some (.dK ks) ∧ Paired (fun p q => keyOf p.1 = some q.1 ∧ Rp K ι H p.2 q.2) kvs ks) ∨
  (∃ kas : List KA, kas ≠ [] ∧ H a = some (tdO a kas) ∧ KeysS H kas ∧ Paired (fun p q => tkeyOf p.1 = some q.1 ∧ Rp K ι H p.2 q.2.2) kvs kas)
def CellRel (K : PySem.W.Frag) (ι : List Addr) (H : Hp) : Cell → Addr → Prop
  | .lst xs, a => ∃ vs, H a = some (.lst vs) ∧ RpL K ι H xs vs
  | .dct kvs, a => DctR K ι H kvs a
  | .ins _ _, _ => False
def isM : HO → Bool
  | .lst _ | .dK _ | .dT _ | .ins _ _ _ | .ext _ => true
  | _ => false
structure RelH (K : PySem.W.Frag) (ι : List Addr) (h : HS) (H : Hp) : Prop where
  len : ι.length = h.length
  nd : ι.Nodup
  cell : ∀ (n : Nat) (c : Cell) (a : Addr), h[n]? = some c → ι[n]? = some a → CellRel K ι H c a
/-- every cell's address is of a thing that may be written -/
def MutI (ι : List Addr) (H : Hp) : Prop := ∀ a ∈ ι, ∃ o, H a = some o ∧ isM o = true
structure Ext (ι : List Addr) (H : Hp) (ι1 : List Addr) (H1 : Hp) : Prop where
  pre : ∃ ex, ι1 = ι ++ ex ∧ ∀ a ∈ ex, H a = none
  fr : ∀ a o, H a = some o → a ∉ ι → H1 a = some o
section
variable {K : PySem.W.Frag} {ι ι1 ι2 : List Addr} {H H1 H2 : Hp} {h h1 : HS} {d : D} {v : V} {xs : List D} {vs : List V} {a p : Addr}
theorem CellRel.mut {c : Cell} (r : CellRel K ι H c a) : ∃ o, H a = some o ∧ isM o = true := by
  cases c with
  | lst xs => obtain ⟨vs, e, _⟩ := r; exact ⟨_, e, rfl⟩
  | dct kvs =>
    rcases r with ⟨ks, e, _⟩ | ⟨ks, _, e, _⟩
    · exact ⟨_, e, rfl⟩
    · exact ⟨_, e, rfl⟩
  | ins c fs => exact r.elim
theorem RelH.mut (r : RelH K ι h H) : MutI ι H := fun a ha => by
  obtain ⟨n, hn, e⟩ := List.mem_iff_getElem.mp ha
  have hn' : n < h.length := by rw [← r.len]; exact hn
  exact (r.cell n h[n] a (List.getElem?_eq_getElem hn') (by rw [List.getElem?_eq_getElem hn, e])).mut
theorem RelH.at {n : Nat} {c : Cell} (r : RelH K ι h H) (e : h[n]? = some c) : ∃ a, ι[n]? = some a ∧ CellRel K ι H c a := by
  obtain ⟨hn, _⟩ := List.getElem?_eq_some_iff.mp e
  have hn' : n < ι.length := by rw [r.len]; exact hn
  exact ⟨ι[n], List.getElem?_eq_getElem hn', r.cell n c _ e (List.getElem?_eq_getElem hn')⟩
theorem Ext.refl : Ext ι H ι H := ⟨⟨[], by simp, by simp⟩, fun _ _ e _ => e⟩
theorem Ext.same (s : Same H H1) : Ext ι H ι H1 := ⟨⟨[], by simp, by simp⟩, fun b o e _ => s b o e⟩
theorem Ext.trans (e1 : Ext ι H ι1 H1) (m : MutI ι1 H1) (e2 : Ext ι1 H1 ι2 H2) : Ext ι H ι2 H2 := by
  obtain ⟨ex, rfl, n1⟩ := e1.pre
  obtain ⟨ex2, rfl, n2⟩ := e2.pre
  refine ⟨⟨ex ++ ex2, by simp, fun a ha => ?_⟩, fun a o q hn => ?_⟩
  · rcases List.mem_append.mp ha with ha | ha
    · exact n1 a ha
    · cases q : H a with
      | none => rfl
      | some o =>
        have z := n2 a ha
        by_cases hi : a ∈ ι
        · obtain ⟨o', e', _⟩ := m a (List.mem_append_left _ hi)
          rw [z] at e'; cases e'
        · rw [e1.fr a o q hi] at z; cases z
  · refine e2.fr a o (e1.fr a o q hn) fun hi => ?_
    rcases List.mem_append.mp hi with hi | hi
    · exact hn hi
    · rw [n1 a hi] at q; cases q
theorem Ext.tup {xs : List V} (e : Ext ι H ι1 H1) (m : MutI ι H) (r : H a = some (.tup xs)) : H1 a = some (.tup xs) := e.fr a _ r fun hi => by
  obtain ⟨o', e', z'⟩ := m a hi
  rw [r] at e'; cases e'; cases z'
theorem TupS.ext {xs : List V} (e : Ext ι H ι1 H1) (m : MutI ι H) (r : TupS H a xs) : TupS H1 a xs := by
  obtain ⟨ob, hd, r⟩ := r
  refine ⟨ob, hd, e.fr a _ r fun hi => ?_⟩
  obtain ⟨o', e', z'⟩ := m a hi
  rw [r] at e'; cases e'; cases z'
theorem WkT.ext {xs : List V} (e : Ext ι H ι1 H1) (m : MutI ι H) (r : WkT K H a xs) : WkT K H1 a xs := by
  rcases r with r | r
  · exact .inl r
  · exact .inr (e.tup m r)
theorem KeysS.ext {kas : List KA} (e : Ext ι H ι1 H1) (m : MutI ι H) (r : KeysS H kas) : KeysS H1 kas := fun x hx => (r x hx).ext e m
theorem FzL.ext {xs : List V} (e : Ext ι H ι1 H1) (m : MutI ι H) (r : FzL K H a xs) : FzL K H1 a xs := by
  rcases r with ⟨o, r⟩ | r
  · refine .inl ⟨o, e.fr a _ r fun hi => ?_⟩
    obtain ⟨o', e', z'⟩ := m a hi
    rw [r] at e'; cases e'; cases z'
  · exact .inr r
theorem Ext.get (e : Ext ι H ι1 H1) {n : Nat} (q : ι[n]? = some a) : ι1[n]? = some a := by
  obtain ⟨ex, rfl, _⟩ := e.pre
  obtain ⟨hn, _⟩ := List.getElem?_eq_some_iff.mp q
  rw [List.getElem?_append_left hn]; exact q
mutual
theorem Rp.ext (e : Ext ι H ι1 H1) (m : MutI ι H) : ∀ {d : D} {v : V}, Rp K ι H d v → Rp K ι1 H1 d v
  | _, _, .non => .non
  | _, _, .bl b => .bl b
  | _, _, .int i => .int i
  | _, _, .str x => .str x
  | _, _, .tup s r => .tup (s.ext e m) (RpL.ext e m r)
  | _, _, .kt s r => .kt (s.ext e m) (RpL.ext e m r)
  | _, _, .ref q => .ref (e.get q)
  | _, _, .fz r => .fz (r.ext e m)
  | _, _, .fn r => .fn r
theorem RpL.ext (e : Ext ι H ι1 H1) (m : MutI ι H) : ∀ {xs : List D} {vs : List V}, RpL K ι H xs vs → RpL K ι1 H1 xs vs
  | _, _, .nil => .nil
  | _, _, .cons r s => .cons (Rp.ext e m r) (RpL.ext e m s)
end
theorem RpL.length : ∀ {xs : List D} {vs : List V}, RpL K ι H xs vs → xs.length = vs.length
  | _, _, .nil => rfl
  | _, _, .cons _ s => congrArg (· + 1) (RpL.length s)
theorem RpL.get : ∀ {xs : List D} {vs : List V} {i : Nat} {x : D}, RpL K ι H xs vs → xs[i]? = some x → ∃ v, vs[i]? = some v ∧ Rp K ι H x v
  | _, _, _, _, .nil, e => by simp at e
  | _, _, 0, _, .cons r _, e => by simp at e; subst e; exact ⟨_, rfl, r⟩
  | _, _, i + 1, x, .cons _ s, e => by
    obtain ⟨v, e1, r⟩ := RpL.get (i := i) (x := x) s (by simpa using e)
    exact ⟨v, by simpa using e1, r⟩
theorem RpL.getV : ∀ {xs : List D} {vs : List V} {i : Nat} {v : V}, RpL K ι H xs vs → vs[i]? = some v → ∃ x, xs[i]? = some x ∧ Rp K ι H x v
  | _, _, _, _, .nil, e => by simp at e
  | _, _, 0, _, .cons r _, e => by simp at e; subst e; exact ⟨_, rfl, r⟩
  | _, _, i + 1, x, .cons _ s, e => by
    obtain ⟨v, e1, r⟩ := RpL.getV (i := i) (v := x) s (by simpa using e)
    exact ⟨v, by simpa using e1, r⟩
theorem RpL.append : ∀ {xs ys : List D} {vs ws : List V}, RpL K ι H xs vs → RpL K ι H ys ws → RpL K ι H (xs ++ ys) (vs ++ ws)
  | _, _, _, _, .nil, s => s
  | _, _, _, _, .cons r t, s => .cons r (RpL.append t s)
theorem RpL.set {x : D} {v : V} (r : Rp K ι H x v) : ∀ {xs : List D} {vs : List V} (i : Nat), RpL K ι H xs vs → RpL K ι H (xs.set i x) (vs.set i v)
  | _, _, _, .nil => .nil
  | _, _, 0, .cons _ t => .cons r t
  | _, _, i + 1, .cons q t => .cons q (RpL.set r i t)
theorem RpL.take : ∀ {xs : List D} {vs : List V} (n : Nat), RpL K ι H xs vs → RpL K ι H (xs.take n) (vs.take n)
  | _, _, 0, _ => .nil
  | _, _, _ + 1, .nil => .nil
  | _, _, n + 1, .cons r t => .cons r (RpL.take n t)
theorem RpL.drop : ∀ {xs : List D} {vs : List V} (n : Nat), RpL K ι H xs vs → RpL K ι H (xs.drop n) (vs.drop n)
  | _, _, 0, r => r
  | _, _, _ + 1, .nil => .nil
  | _, _, n + 1, .cons _ t => RpL.drop n t
theorem RpL.dropLast {xs : List D} {vs : List V} (r : RpL K ι H xs vs) : RpL K ι H xs.dropLast vs.dropLast := by
  rw [List.dropLast_eq_take, List.dropLast_eq_take, ← r.length]; exact r.take _
theorem RpL.eraseIdx : ∀ {xs : List D} {vs : List V} (n : Nat), RpL K ι H xs vs → RpL K ι H (xs.eraseIdx n) (vs.eraseIdx n)
  | _, _, _, .nil => .nil
  | _, _, 0, .cons _ t => t
  | _, _, n + 1, .cons r t => .cons r (RpL.eraseIdx n t)
theorem RpL.reverse : ∀ {xs : List D} {vs : List V}, RpL K ι H xs vs → RpL K ι H xs.reverse vs.reverse
  | _, _, .nil => .nil
  | _, _, .cons r t => by
    rw [List.reverse_cons, List.reverse_cons]
    exact RpL.append (RpL.reverse t) (.cons r .nil)
theorem RpL.rep {xs : List D} {vs : List V} (r : RpL K ι H xs vs) : ∀ k : Nat, RpL K ι H (List.replicate k xs).flatten (List.replicate k vs).flatten
  | 0 => .nil
  | k + 1 => by
    rw [List.replicate_succ, List.replicate_succ, List.flatten_cons, List.flatten_cons]
    exact r.append (RpL.rep r k)
theorem RpL.ints : ∀ {ns : List Int}, RpL K ι H (ns.map D.int) (ns.map V.int)
  | [] => .nil
  | i :: r => .cons (.int i) (RpL.ints)
theorem RpL.intsD : ∀ {xs : List D} {vs : List V} {ns : List Int}, RpL K ι H xs vs → intsD xs = some ns → vs = ns.map V.int ∧ xs = ns.map D.int
  | _, _, ns, .nil, e => by simp [Mi.intsD] at e; subst e; exact ⟨rfl, rfl⟩
  | _, _, ns, .cons (x := x) r t, e => by
    cases r with
    | int i =>
      simp only [Mi.intsD, Option.map_eq_some_iff] at e
      obtain ⟨ms, e1, rfl⟩ := e
      obtain ⟨e2, e3⟩ := RpL.intsD t e1
      rw [e2, e3]; exact ⟨rfl, rfl⟩
    | _ => simp [Mi.intsD] at e
theorem RpL.blsD : ∀ {xs : List D} {vs : List V} {ns : List Bool}, RpL K ι H xs vs → blsD xs = some ns → vs = ns.map V.bl
  | _, _, ns, .nil, e => by simp [Mi.blsD] at e; subst e; rfl
  | _, _, ns, .cons (x := x) r t, e => by
    cases r with
    | bl i =>
      simp only [Mi.blsD, Option.map_eq_some_iff] at e
      obtain ⟨ms, e1, rfl⟩ := e
      rw [RpL.blsD t e1]; rfl
    | _ => simp [Mi.blsD] at e
theorem Paired.mapX {α β : Type} {F G : α → β → Prop} (f : ∀ a b, F a b → G a b) : ∀ {l₁ : List α} {l₂ : List β}, Paired F l₁ l₂ → Paired G l₁ l₂
  | _, _, .nil => .nil
  | _, _, .cons r t => .cons (f _ _ r) (Paired.mapX f t)
theorem CellRel.ext {c : Cell} (e : Ext ι H ι1 H1) (m : MutI ι H) (k : ∀ o, H a = some o → H1 a = some o) (r : CellRel K ι H c a) : CellRel K ι1 H1 c a := by
  cases c with
  | lst xs => obtain ⟨vs, q, r⟩ := r; exact ⟨vs, k _ q, r.ext e m⟩
  | dct kvs =>
    rcases r with ⟨ks, q, r⟩ | ⟨ks, ne, q, hk, r⟩
    · exact .inl ⟨ks, k _ q, Paired.mapX (fun _ _ z => ⟨z.1, z.2.ext e m⟩) r⟩
    · exact .inr ⟨ks, ne, k _ q, hk.ext e m, Paired.mapX (fun _ _ z => ⟨z.1, z.2.ext e m⟩) r⟩
  | ins c fs => exact r.elim
/-- more is tracked -/
theorem RelH.same (r : RelH K ι h H) (s : Same H H1) : RelH K ι h H1 :=
  ⟨r.len, r.nd, fun n c a e1 e2 => (r.cell n c a e1 e2).ext (Ext.same s) r.mut (s a)⟩
theorem same_new {o : HO} (n : H p = none) : Same H (upd H p o) := fun b u e => by
  rw [upd_ne (ne_of_none e n)]; exact e
/-- a new cell -/
theorem RelH.new {c : Cell} {o : HO} (r : RelH K ι h H) (n : H p = none) (rc : CellRel K (ι ++ [p]) (upd H p o) c p) : RelH K (ι ++ [p]) (h ++ [c]) (upd H p o) := by
  have pn : p ∉ ι := fun hi => by obtain ⟨_, e, _⟩ := r.mut p hi; rw [n] at e; cases e
  have e : Ext ι H (ι ++ [p]) (upd H p o) := ⟨⟨[p], rfl, fun a ha => by simp at ha; subst ha; exact n⟩, fun a u q _ => same_new n a u q⟩
  refine ⟨by simp [r.len], ?_, fun m c' a e1 e2 => ?_⟩
  · rw [List.nodup_append]
    refine ⟨r.nd, by simp, fun a ha b hb => ?_⟩
    simp at hb; subst hb; exact fun z => pn (z ▸ ha)
  · by_cases hm : m < h.length
    · rw [List.getElem?_append_left hm] at e1
      rw [List.getElem?_append_left (by rw [r.len]; exact hm)] at e2
      exact (r.cell m c' a e1 e2).ext e r.mut (same_new n a)
    · have hm' : m = h.length := by
        have := (List.getElem?_eq_some_iff.mp e1).1
        simp at this; omega
      subst hm'
      rw [List.getElem?_append_right (Nat.le_refl _)] at e1
      rw [← r.len, List.getElem?_append_right (Nat.le_refl _)] at e2
      simp at e1 e2; subst e1; subst e2
      exact rc
theorem Ext.new {o : HO} (n : H p = none) : Ext ι H (ι ++ [p]) (upd H p o) :=
  ⟨⟨[p], rfl, fun a ha => by simp at ha; subst ha; exact n⟩, fun a u q _ => same_new n a u q⟩
/-- a cell is written -/
theorem RelH.write {n : Nat} {c : Cell} {o : HO} (r : RelH K ι h H) (ha : ι[n]? = some a) (rc : CellRel K ι (upd H a o) c a) : RelH K ι (h.set n c) (upd H a o) := by
  have ai : a ∈ ι := List.mem_of_getElem? ha
  have e : Ext ι H ι (upd H a o) := ⟨⟨[], by simp, by simp⟩, fun b u q hb => by
    rw [upd_ne (fun z : b = a => hb (by rw [z]; exact ai))]; exact q⟩
  refine ⟨by simp [r.len], r.nd, fun m c' b e1 e2 => ?_⟩
  by_cases hm : m = n
  · subst hm
    rw [ha] at e2; cases e2
    have hl : m < h.length := by
      have := (List.getElem?_eq_some_iff.mp e1).1
      simpa using this
    rw [List.getElem?_set_self hl] at e1; cases e1
    exact rc
  · rw [List.getElem?_set_ne (Ne.symm hm)] at e1
    refine (r.cell m c' b e1 e2).ext e r.mut fun u q => ?_
    rw [upd_ne fun z => hm ?_]
    · exact q
    · subst z
      obtain ⟨h1, q1⟩ := List.getElem?_eq_some_iff.mp e2
      obtain ⟨h2, q2⟩ := List.getElem?_eq_some_iff.mp ha
      exact (List.getElem_inj r.nd).mp (q1.trans q2.symm)
theorem Ext.write {n : Nat} {o : HO} (ha : ι[n]? = some a) : Ext ι H ι (upd H a o) := ⟨⟨[], by simp, by simp⟩, fun b u q hb => by
    rw [upd_ne (fun z : b = a => hb (by rw [z]; exact List.mem_of_getElem? ha))]; exact q⟩
mutual
theorem Rp.more {ex : List Addr} : ∀ {d : D} {v : V}, Rp K ι H d v → Rp K (ι ++ ex) H d v
  | _, _, .non => .non
  | _, _, .bl b => .bl b
  | _, _, .int i => .int i
  | _, _, .str x => .str x
  | _, _, .tup s r => .tup s (RpL.more r)
  | _, _, .kt s r => .kt s (RpL.more r)
  | _, _, .ref q => .ref (by rw [List.getElem?_append_left (List.getElem?_eq_some_iff.mp q).1]; exact q)
  | _, _, .fz r => .fz r
  | _, _, .fn r => .fn r
theorem RpL.more {ex : List Addr} : ∀ {xs : List D} {vs : List V}, RpL K ι H xs vs → RpL K (ι ++ ex) H xs vs
  | _, _, .nil => .nil
  | _, _, .cons r s => .cons (Rp.more r) (RpL.more s)
end
theorem CellRel.more {ex : List Addr} {c : Cell} (r : CellRel K ι H c a) : CellRel K (ι ++ ex) H c a := by
  cases c with
  | lst xs => obtain ⟨vs, q, r⟩ := r; exact ⟨vs, q, r.more⟩
  | dct kvs =>
    rcases r with ⟨ks, q, r⟩ | ⟨ks, ne, q, hk, r⟩
    · exact .inl ⟨ks, q, Paired.mapX (fun _ _ z => ⟨z.1, z.2.more⟩) r⟩
    · exact .inr ⟨ks, ne, q, hk, Paired.mapX (fun _ _ z => ⟨z.1, z.2.more⟩) r⟩
  | ins c fs => exact r.elim
/-! ### what lies below -/
mutual
theorem Rp.low {n : Nat} : ∀ {d : D} {v : V}, Rp K ι H d v → d.lo n = true → Rp K (ι.take n) H d v
  | _, _, .non, _ => .non
  | _, _, .bl b, _ => .bl b
  | _, _, .int i, _ => .int i
  | _, _, .str x, _ => .str x
  | _, _, .tup s r, e => .tup s (RpL.low r (by simpa [D.lo] using e))
  | _, _, .kt s r, e => .kt s (RpL.low r (by simpa [D.lo] using e))
  | _, _, .ref (n := m) q, e => .ref (by
      have : m < n := by simpa [D.lo] using e
      rw [List.getElem?_take_of_lt this]; exact q)
  | _, _, .fz r, _ => .fz r
  | _, _, .fn r, _ => .fn r
theorem RpL.low {n : Nat} : ∀ {xs : List D} {vs : List V}, RpL K ι H xs vs → D.los n xs = true → RpL K (ι.take n) H xs vs
  | _, _, .nil, _ => .nil
  | _, _, .cons r s, e => by
    simp only [D.los, Bool.and_eq_true] at e
    exact .cons (Rp.low r e.1) (RpL.low s e.2)
end
theorem Paired.low {n : Nat} {κ : Type} {F : D → κ → Prop} {f : κ → V} : ∀ {kvs : List (D × D)} {ks : List κ}, Paired (fun p q => F p.1 q ∧ Rp K ι H p.2 (f q)) kvs ks → (kvs.all fun kv => kv.1.lo n && kv.2.lo n) = true →
    Paired (fun p q => F p.1 q ∧ Rp K (ι.take n) H p.2 (f q)) kvs ks
  | _, _, .nil, _ => .nil
  | _, _, .cons r s, e => by
    simp only [List.all_cons, Bool.and_eq_true] at e
    exact .cons ⟨r.1, r.2.low e.1.2⟩ (Paired.low s e.2)
theorem CellRel.low {n : Nat} {c : Cell} (r : CellRel K ι H c a) (e : c.lo n = true) : CellRel K (ι.take n) H c a := by
  cases c with
  | lst xs => obtain ⟨vs, q, r⟩ := r; exact ⟨vs, q, r.low e⟩
  | dct kvs =>
    rcases r with ⟨ks, q, r⟩ | ⟨ks, ne, q, hk, r⟩
    · exact .inl ⟨ks, q, Paired.low (F := fun x (y : Key × V) => keyOf x = some y.1) (f := fun y => y.2) r e⟩
    · exact .inr ⟨ks, ne, q, hk, Paired.low (F := fun x (y : KA) => tkeyOf x = some y.1) (f := fun y => y.2.2) r e⟩
  | ins c fs => exact r.elim
theorem RelH.take {n : Nat} (r : RelH K ι h H) (e : (h.take n).all (Cell.lo n) = true) : RelH K (ι.take n) (h.take n) H := by
  refine ⟨by simp [r.len], (List.take_sublist n ι).nodup r.nd, fun m c a e1 e2 => ?_⟩
  have hm : m < n := by
    have := (List.getElem?_eq_some_iff.mp e1).1
    simp at this; omega
  have hc := List.all_eq_true.mp e c (List.mem_of_getElem? e1)
  rw [List.getElem?_take_of_lt hm] at e1 e2
  exact (r.cell m c a e1 e2).low hc
theorem Ext.take {n : Nat} (e : Ext ι H ι1 H1) (hn : ι.length = n) : ι1.take n = ι := by
  obtain ⟨ex, rfl, _⟩ := e.pre
  rw [← hn, List.take_left']; rfl
theorem Ext.cut (e : Ext ι H ι1 H1) : Ext ι H ι H1 := ⟨⟨[], by simp, by simp⟩, e.fr⟩
theorem trim_ok {n : Nat} {h' : HS} {d' : D} (e : Ext ι H ι1 H1) (hn : ι.length = n) (r : RelH K ι1 h1 H1) (rp : Rp K ι1 H1 d v) (t : trim n d h1 = .ok d' h') :
    ∃ ι2, Ext ι H ι2 H1 ∧ RelH K ι2 h' H1 ∧ Rp K ι2 H1 d' v := by
  unfold trim at t
  by_cases c1 : h1.length ≤ n
  · rw [if_pos c1] at t; cases t; exact ⟨ι1, e, r, rp⟩
  rw [if_neg c1] at t
  by_cases hall : (h1.take n).all (Cell.lo n) = true
  case neg => rw [if_neg hall] at t; cases t; exact ⟨ι1, e, r, rp⟩
  rw [if_pos hall] at t
  have rt := r.take hall
  rw [e.take hn] at rt
  have other : ∀ d0 : D, d0 = d → (if d0.lo n = true then R.ok d0 (h1.take n) else R.ok d0 h1) = R.ok d' h' → ∃ ι2, Ext ι H ι2 H1 ∧ RelH K ι2 h' H1 ∧ Rp K ι2 H1 d' v := fun d0 ed t0 => by
    clear t
    subst ed
    by_cases hl : d0.lo n = true
    · rw [if_pos hl] at t0
      cases t0
      refine ⟨ι, e.cut, rt, ?_⟩
      have := rp.low hl
      rw [e.take hn] at this; exact this
    · rw [if_neg hl] at t0; cases t0; exact ⟨ι1, e, r, rp⟩
  cases d with
  | ref m =>
    have t : (if m < n then R.ok (.ref m) (h1.take n) else match h1[m]? with
      | some c => if c.lo n = true then .ok (.ref n) (h1.take n ++ [c]) else .ok (.ref m) h1
      | none => .bad) = R.ok d' h' := t
    by_cases hm : m < n
    · rw [if_pos hm] at t
      cases t
      refine ⟨ι, e.cut, rt, ?_⟩
      have := rp.low (n := n) (by simpa [D.lo] using hm)
      rw [e.take hn] at this; exact this
    rw [if_neg hm] at t
    cases hc : h1[m]? with
    | none => rw [hc] at t; cases t
    | some c =>
      rw [hc] at t
      have t : (if c.lo n = true then R.ok (.ref n) (h1.take n ++ [c]) else .ok (.ref m) h1) = R.ok d' h' := t
      by_cases hl : c.lo n = true
      case neg => rw [if_neg hl] at t; cases t; exact ⟨ι1, e, r, rp⟩
      rw [if_pos hl] at t
      cases t
      cases rp with
      | ref q =>
        rename_i b
        have rc := (r.cell m c b hc q).low hl
        rw [e.take hn] at rc
        obtain ⟨ex, rfl, hx⟩ := e.pre
        have bx : b ∈ ex := by
          rw [List.getElem?_append_right (by omega)] at q
          exact List.mem_of_getElem? q
        have bn : b ∉ ι := fun hb => by
          have := (List.nodup_append.mp r.nd).2.2 b hb b bx
          exact this rfl
        have e2 : Ext ι H (ι ++ [b]) H1 := ⟨⟨[b], rfl, fun a ha => by simp at ha; subst ha; exact hx _ bx⟩, e.fr⟩
        refine ⟨ι ++ [b], e2, ⟨by simp [rt.len], ?_, fun k c' a e1 e3 => ?_⟩, .ref (by rw [← hn]; simp)⟩
        · rw [List.nodup_append]
          refine ⟨rt.nd, by simp, fun a ha b' hb => ?_⟩
          simp at hb; subst hb; exact fun z => bn (z ▸ ha)
        · by_cases hk : k < n
          · rw [List.getElem?_append_left (by rw [← rt.len, hn]; exact hk)] at e1
            rw [List.getElem?_append_left (by rw [hn]; exact hk)] at e3
            exact (rt.cell k c' a e1 e3).more
          · have hk' : k = n := by
              have := (List.getElem?_eq_some_iff.mp e3).1
              simp at this; omega
            subst hk'
            rw [List.getElem?_append_right (by rw [← rt.len, hn]; exact Nat.le_refl _)] at e1
            rw [List.getElem?_append_right (by rw [hn]; exact Nat.le_refl _)] at e3
            rw [← rt.len, hn] at e1
            rw [hn] at e3
            simp at e1 e3; subst e1; subst e3
            exact rc.more
  | non => exact other _ rfl t
  | bl b => exact other _ rfl t
  | int b => exact other _ rfl t
  | str b => exact other _ rfl t
  | tup b => exact other _ rfl t
  | fz b => exact other _ rfl t
  | fn b => exact other _ rfl t
  | kt b => exact other _ rfl t
end
end Mi

namespace Mi
open PySem L2

theorem LIM_line : LIM = sizeLine := by rw [sizeLine_eq]; rfl
/-- what is wanted where an error leaves -/
abbrev XWi := List Addr → Hp → Str → List (Str × D) → Prop
variable {ω : XWi}
/-- nothing may be raised -/
def ωF : XWi := fun _ _ _ _ => False
/-- what is wanted behind an evaluation that began at ι, H -/
def Post {α β : Type} (ω : XWi) (RR : List Addr → Hp → α → β → Prop) (K : PySem.W.Frag) (ι : List Addr) (H : Hp) (r : R α) (Q : β → Hp → Prop) : Prop := match r with
  | .ok d h1 => ∀ ι1 v H1, Ext ι H ι1 H1 → RelH K ι1 h1 H1 → RR ι1 H1 d v → Q v H1
  | .exc c fs h1 => ∀ ι1 H1, Ext ι H ι1 H1 → RelH K ι1 h1 H1 → ω ι1 H1 c fs
  | .bad => False
abbrev PostE (ω : XWi) (K : PySem.W.Frag) (ι : List Addr) (H : Hp) (r : R D) (Q : VK) : Prop := Post ω (Rp K) K ι H r Q
theorem Post.into {α β γ ε : Type} {RR : List Addr → Hp → α → β → Prop} {R' : List Addr → Hp → γ → ε → Prop} {K : PySem.W.Frag} {ι : List Addr} {H : Hp} {r : R γ} {f : γ → HS → R α} {Q : β → Hp → Prop} {Q' : ε → Hp → Prop} (q : Post ω RR K ι H (r.bind f) Q)
    (k : ∀ a h1, Post ω RR K ι H (f a h1) Q → ∀ ι1 v H1, Ext ι H ι1 H1 → RelH K ι1 h1 H1 → R' ι1 H1 a v → Q' v H1) : Post ω R' K ι H r Q' := by
  cases r with
  | ok a h1 => exact fun ι1 v H1 e r rp => k a h1 q ι1 v H1 e r rp
  | exc c fs h1 => exact q
  | bad => exact q.elim
theorem Post.no {α β : Type} {RR : List Addr → Hp → α → β → Prop} {K : PySem.W.Frag} {ι : List Addr} {H : Hp} {r : R α} {Q : β → Hp → Prop} (hx : ∀ c fs h, r ≠ .exc c fs h) (q : Post ω RR K ι H r Q) : Post ωF RR K ι H r Q := by
  cases r with
  | ok a h1 => exact q
  | exc c fs h1 => exact absurd rfl (hx c fs h1)
  | bad => exact q
theorem trim_ne {n : Nat} {d : D} {h h' : HS} {c : Str} {fs : List (Str × D)} : trim n d h ≠ .exc c fs h' := by
  unfold trim
  split
  · intro z; cases z
  · split
    · split
      · split
        · intro z; cases z
        · split
          · split <;> (intro z; cases z)
          · intro z; cases z
      · split <;> (intro z; cases z)
    · intro z; cases z
section
variable {K : PySem.W.Frag} {ι ι1 ι2 : List Addr} {H H1 H2 : Hp} {h h1 : HS} {d : D} {v : V} {xs ys : List D} {vs ws : List V} {a p : Addr} {r : R D} {Q : VK}
theorem Post.shift {α β : Type} {RR : List Addr → Hp → α → β → Prop} {r : R α} {Q : β → Hp → Prop} (e : Ext ι H ι1 H1) (m : MutI ι1 H1) (q : Post ω RR K ι H r Q) : Post ω RR K ι1 H1 r Q := by
  cases r with
  | ok d h2 => exact fun ι2 v H2 e2 r2 rp => q ι2 v H2 (e.trans m e2) r2 rp
  | exc _ _ _ => exact fun ι2 H2 e2 r2 => q ι2 H2 (e.trans m e2) r2
  | bad => exact q
theorem PostE.tr {n : Nat} (q : PostE ω K ι H (r.tr n) Q) (hn : ι.length = n) : PostE ω K ι H r Q := by
  cases r with
  | ok d h1 =>
    have q : PostE _ K ι H (trim n d h1) Q := q
    intro ι1 v H1 e r1 rp
    cases t : trim n d h1 with
    | ok d' h' =>
      rw [t] at q
      obtain ⟨ι2, e2, r2, rp2⟩ := trim_ok e hn r1 rp t
      exact q ι2 v H1 e2 r2 rp2
    | exc _ _ _ => exact absurd t trim_ne
    | bad => rw [t] at q; exact q.elim
  | exc _ _ _ => exact q
  | bad => exact q
theorem PostE.val (q : PostE ω K ι H (.ok d h) Q) (r : RelH K ι h H) (rp : Rp K ι H d v) : Q v H := q ι v H Ext.refl r rp
theorem PostE.newT (q : PostE ω K ι H (.ok (.tup xs) h) Q) (r : RelH K ι h H) (rp : RpL K ι H xs vs) : NewT H vs Q := fun p ob n hd => by
  have e : Ext ι H ι (upd H p (.frz ob (.tup vs))) := Ext.same (same_new n)
  exact q ι _ _ e (r.same (same_new n)) (.tup (TupS.new hd) (rp.ext e r.mut))
theorem PostE.newL (q : PostE ω K ι H (.ok (.ref h.length) (h ++ [.lst xs])) Q) (r : RelH K ι h H) (rp : RpL K ι H xs vs) : ∀ p, H p = none → Q (.ref p) (upd H p (.lst vs)) := fun p n => by
  have e : Ext ι H (ι ++ [p]) (upd H p (.lst vs)) := Ext.new n
  exact q _ _ _ e (r.new n ⟨vs, upd_same, rp.ext e r.mut⟩) (.ref (by rw [← r.len]; simp))
theorem PostE.setL {n : Nat} {d : D} {v : V} (q : PostE ω K ι H (.ok d (h.set n (.lst xs))) Q) (r : RelH K ι h H) (ha : ι[n]? = some a) (rp : RpL K ι H xs vs) (rd : Rp K ι H d v) : Q v (upd H a (.lst vs)) := by
  have e : Ext ι H ι (upd H a (.lst vs)) := Ext.write ha
  exact q _ _ _ e (r.write ha ⟨vs, upd_same, rp.ext e r.mut⟩) (rd.ext e r.mut)
theorem mkL_some (q : PostE ω K ι H (mkL xs h) Q) : xs.length ≤ LIM ∧ PostE ω K ι H (.ok (.ref h.length) (h ++ [.lst xs])) Q := by
  unfold mkL at q
  by_cases c : xs.length ≤ LIM
  · rw [if_pos c] at q; exact ⟨c, q⟩
  · rw [if_neg c] at q; exact q.elim
theorem mkT_some (q : PostE ω K ι H (mkT xs h) Q) : xs.length ≤ LIM ∧ PostE ω K ι H (.ok (.tup xs) h) Q := by
  unfold mkT at q
  by_cases c : xs.length ≤ LIM
  · rw [if_pos c] at q; exact ⟨c, q⟩
  · rw [if_neg c] at q; exact q.elim
theorem RelH.lst {n : Nat} (r : RelH K ι h H) (e : h[n]? = some (.lst xs)) : ∃ a vs, ι[n]? = some a ∧ H a = some (.lst vs) ∧ RpL K ι H xs vs := by
  obtain ⟨a, ea, vs, e1, e2⟩ := r.at e
  exact ⟨a, vs, ea, e1, e2⟩
theorem Rp.lstOf {n : Nat} (rp : Rp K ι H (.ref n) v) (r : RelH K ι h H) (e : h[n]? = some (.lst xs)) : ∃ a vs, v = .ref a ∧ ι[n]? = some a ∧ H a = some (.lst vs) ∧ RpL K ι H xs vs := by
  cases rp with
  | ref q =>
    obtain ⟨a, vs, ea, e1, e2⟩ := r.lst e
    rw [q] at ea; cases ea
    exact ⟨_, vs, rfl, q, e1, e2⟩
/-- a list or tuple to be read -/
theorem Rp.itemsOf (rp : Rp K ι H d v) (r : RelH K ι h H) (e : itemsD h d = some xs) : ∃ a vs, v = .ref a ∧ (SqL K H a vs ∨ SqT K H a vs) ∧ RpL K ι H xs vs := by
  cases rp with
  | tup s q => simp [itemsD] at e; subst e; exact ⟨_, _, rfl, .inr (s.sq), q⟩
  | kt s q => simp [itemsD] at e; subst e; exact ⟨_, _, rfl, .inr s.sq, q⟩
  | fz f => simp [itemsD] at e; subst e; exact ⟨_, _, rfl, .inl f.sq, RpL.ints⟩
  | fn _ => simp [itemsD] at e
  | ref q =>
    rename_i n a
    simp only [itemsD] at e
    cases hc : h[n]? with
    | none => rw [hc] at e; cases e
    | some c =>
      rw [hc] at e
      cases c with
      | lst ys =>
        have e : some ys = some xs := e
        cases e
        obtain ⟨b, vs, ea, e1, e2⟩ := r.lst hc
        rw [q] at ea; cases ea
        exact ⟨a, vs, rfl, .inl (SqL.of e1), e2⟩
      | dct _ => cases e
      | ins _ _ => cases e
  | non => simp [itemsD] at e
  | bl _ => simp [itemsD] at e
  | int _ => simp [itemsD] at e
  | str _ => simp [itemsD] at e

/-! ## equality -/
mutual
theorem Rp.dp0 : ∀ {d : D} {v : V} {e : PyData}, Rp K ι H d v → d.py0 = some e → Dp K H v e
  | _, _, _, .non, e => by simp [D.py0] at e; subst e; exact .non
  | _, _, _, .bl b, e => by simp [D.py0] at e; subst e; exact .bl b
  | _, _, _, .int b, e => by simp [D.py0] at e; subst e; exact .int b
  | _, _, _, .str b, e => by simp [D.py0] at e; subst e; exact .str b
  | _, _, _, .tup s r, e => by
    simp only [D.py0, Option.map_eq_some_iff] at e
    obtain ⟨ds, e1, rfl⟩ := e
    exact .tup (s.sq) (RpL.dp0 r e1)
  | _, _, _, .kt s r, e => by
    simp only [D.py0, Option.map_eq_some_iff] at e
    obtain ⟨ds, e1, rfl⟩ := e
    exact .tup s.sq (RpL.dp0 r e1)
  | _, _, _, .ref _, e => by simp [D.py0] at e
  | _, _, _, .fz (ns := ns) f, e => by
    simp [D.py0] at e; subst e
    exact .lst f.sq (dpInts ns)
theorem RpL.dp0 : ∀ {xs : List D} {vs : List V} {es : List PyData}, RpL K ι H xs vs → D.py0s xs = some es → DpAll K H vs es
  | _, _, _, .nil, e => by simp [D.py0s] at e; subst e; exact .nil
  | _, _, _, .cons (x := x) (xs := xs) r s, e => by
    cases e1 : D.py0 x with
    | none => simp [D.py0s, e1] at e
    | some y =>
      cases e2 : D.py0s xs with
      | none => simp [D.py0s, e1, e2] at e
      | some t =>
        simp [D.py0s, e1, e2] at e
        subst e
        exact .cons (Rp.dp0 r e1) (RpL.dp0 s e2)
theorem dpInts : ∀ ns : List Int, DpAll K H (ns.map V.int) (ns.map PyData.int)
  | [] => .nil
  | i :: r => .cons (.int i) (dpInts r)
end
theorem Rp.dp {e : PyData} (rp : Rp K ι H d v) (r : RelH K ι h H) (q : d.py h = some e) : Dp K H v e := by
  cases rp with
  | ref s =>
    rename_i n a
    simp only [D.py] at q
    cases hc : h[n]? with
    | none => rw [hc] at q; cases q
    | some c =>
      rw [hc] at q
      cases c with
      | lst ys =>
        obtain ⟨b, vs, ea, e1, e2⟩ := r.lst hc
        rw [s] at ea; cases ea
        have q : (D.py0s ys).map .list = some e := q
        rw [Option.map_eq_some_iff] at q
        obtain ⟨ds, q1, rfl⟩ := q
        exact .lst (SqL.of e1) (e2.dp0 q1)
      | dct _ => cases q
      | ins _ _ => cases q
  | non => exact Rp.dp0 .non (ι := ι) q
  | bl b => exact Rp.dp0 (.bl b) (ι := ι) q
  | int b => exact Rp.dp0 (.int b) (ι := ι) q
  | str b => exact Rp.dp0 (.str b) (ι := ι) q
  | tup s t => exact Rp.dp0 (.tup s t) q
  | fn _ => cases q
  | fz f => exact Rp.dp0 (.fz f) (ι := ι) q
  | kt s t => exact Rp.dp0 (.kt s t) q
theorem eqD_some {b : D} {k : Bool} (e : eqD h d b = some k) : ∃ x y, d.py h = some x ∧ b.py h = some y ∧ SeqAt.shaped x = true ∧ SeqAt.shaped y = true ∧ k = PyData.eqv x y := by
  unfold eqD at e
  cases e1 : d.py h with
  | none => rw [e1] at e; cases e
  | some x =>
    cases e2 : b.py h with
    | none => rw [e1, e2] at e; cases e
    | some y =>
      rw [e1, e2] at e
      have e : (if (SeqAt.shaped x && SeqAt.shaped y) = true then some (PyData.eqv x y) else none) = some k := e
      by_cases c : (SeqAt.shaped x && SeqAt.shaped y) = true
      · rw [if_pos c] at e; cases e
        rw [Bool.and_eq_true] at c
        exact ⟨x, y, rfl, rfl, c.1, c.2, rfl⟩
      · rw [if_neg c] at e; cases e
end

/-! ## operators by values -/
def rM (f : D → D → HS → R D) (K : PySem.W.Frag) : R2 := fun x y H Q => ∃ ι h a b, RelH K ι h H ∧ Rp K ι H a x ∧ Rp K ι H b y ∧ PostE ωF K ι H (f a b h) Q
section
variable {X : Cx}
theorem OpR.imp {f : Value → Value → Sem Value} {r r' : R2} (h : OpR X f r) (i : ∀ x y H Q, r' x y H Q → r x y H Q) : OpR X f r' :=
  fun pins s σ H x y v u Q I rx ry q => h pins s σ H x y v u Q I rx ry (i x y H Q q)
theorem RpL.nilV {K : PySem.W.Frag} {ι : List Addr} {H : Hp} {xs : List D} : RpL K ι H xs [] → xs = [] := fun r => by cases r; rfl
theorem o_add : OpR X (binaryOp .Add) (rM (binF .Add) X.K) := by
  refine OpR.imp (L2.OpR.or op_add (L2.OpR.or op_add_str (L2.OpR.or op_catS op_cat))) ?_
  rintro x y H Q ⟨ι, h, a, b, rh, ra, rb, q⟩
  cases ra with
  | int i =>
    cases rb with
    | int j => exact .inl ⟨i, j, rfl, rfl, q.val rh (.int _)⟩
    | _ => exact q.elim
  | str i =>
    cases rb with
    | str j =>
      have q : PostE _ X.K ι H (if i.length + j.length ≤ LIM then .ok (.str (i ++ j)) h else .bad) Q := q
      by_cases c : i.length + j.length ≤ LIM
      · rw [if_pos c] at q
        exact .inr (.inl ⟨i, j, rfl, rfl, by rw [← LIM_line]; exact c, q.val rh (.str _)⟩)
      · rw [if_neg c] at q; exact q.elim
    | _ => exact q.elim
  | tup sa r =>
    cases rb with
    | tup sb r' =>
      rename_i xs a vs ys b ws
      obtain ⟨c, q⟩ := mkT_some (K := X.K) (ι := ι) (H := H) (Q := Q) (xs := xs ++ ys) (h := h) q
      refine .inr (.inr (.inl ⟨a, b, vs, ws, rfl, rfl, sa.sq, sb.sq, ?_, ?_, ?_, ?_⟩))
      · rw [← LIM_line, ← r.length, ← r'.length, ← List.length_append]; exact c
      · intro z; subst z
        have := r.nilV; subst this
        exact q.val rh (.tup sb r')
      · intro _ z; subst z
        have := r'.nilV; subst this
        rw [List.append_nil] at q
        exact q.val rh (.tup sa r)
      · intro _ _; exact q.newT rh (r.append r')
    | _ => exact q.elim
  | ref e =>
    rename_i n a
    cases rb with
    | ref e' =>
      rename_i m b
      simp only [binF] at q
      cases h1 : h[n]? with
      | none => rw [h1] at q; exact q.elim
      | some c1 =>
        rw [h1] at q
        cases c1 with
        | lst xs =>
          cases h2 : h[m]? with
          | none => rw [h2] at q; exact q.elim
          | some c2 =>
            rw [h2] at q
            cases c2 with
            | lst ys =>
              obtain ⟨c, q⟩ := mkL_some (K := X.K) (ι := ι) (H := H) (Q := Q) (xs := xs ++ ys) (h := h) q
              obtain ⟨_, vs, z, _, e1, r1⟩ := (Rp.ref e : Rp X.K ι H _ _).lstOf rh h1
              cases z
              obtain ⟨_, ws, z, _, e2, r2⟩ := (Rp.ref e' : Rp X.K ι H _ _).lstOf rh h2
              cases z
              refine .inr (.inr (.inr ⟨a, b, vs, ws, rfl, rfl, e1, e2, ?_, q.newL rh (r1.append r2)⟩))
              rw [← LIM_line, ← r1.length, ← r2.length, ← List.length_append]; exact c
            | _ => exact q.elim
        | _ => exact q.elim
    | _ => exact q.elim
  | non => exact q.elim
  | bl _ => exact q.elim
  | fz _ => exact q.elim
  | kt _ _ => exact q.elim
  | fn _ => exact q.elim
/-- an operator on two ints -/
theorem o_int {f : Value → Value → Sem Value} {C : Int → Int → Prop} {g : Int → Int → V} (ho : OpR X f (rI C g)) {F : D → D → HS → R D} (hF : ∀ a b h Q H ι, PostE ωF X.K ι H (F a b h) Q → RelH X.K ι h H → ∃ i j, a = .int i ∧ b = .int j ∧ C i j ∧ Q (g i j) H) : OpR X f (rM F X.K) := by
  refine OpR.imp ho ?_
  rintro x y H Q ⟨ι, h, a, b, rh, ra, rb, q⟩
  obtain ⟨i, j, rfl, rfl, c, q⟩ := hF a b h Q H ι q rh
  cases ra; cases rb
  exact ⟨i, j, rfl, rfl, c, q⟩
theorem o_sub : OpR X (binaryOp .Sub) (rM (binF .Sub) X.K) := by
  refine o_int (C := fun _ _ => True) (OpR.imp op_sub fun x y H Q ⟨i, j, e1, e2, _, q⟩ => ⟨i, j, e1, e2, q⟩) ?_
  intro a b h Q H ι q rh
  cases a <;> first | exact q.elim | skip
  cases b <;> first | exact q.elim | skip
  exact ⟨_, _, rfl, rfl, trivial, q.val rh (.int _)⟩
end
end Mi

namespace Mi
open PySem PySem.Spec PyProof.Rows L2
/-! ## (x, ..) * k, k up to a hundred thousand -/
def rRepBig (K : PySem.W.Frag) : R2 := fun x y H Q => ∃ l k xs, x = .ref l ∧ y = .int k ∧ SqT K H l xs ∧ xs ≠ [] ∧ 2 ≤ k ∧ k ≤ 100000 ∧ xs.length ≤ 100 ∧ NewT H (List.replicate k.toNat xs).flatten Q
theorem op_repBig {X : Cx} : OpR X (binaryOp .Mult) (rRepBig X.K) := by
  rintro pins s σ H _ _ v u Q I rx ry ⟨l, k, xs, rfl, rfl, hT, hne, k2, kB, xB, q⟩
  cases rx
  obtain ⟨tk, rfl⟩ := ry
  obtain ⟨its, r, ⟨⟨cls, dd, data, sl⟩, ho, ecl, cnt, eda⟩, _⟩ := I.tuple hT
  simp only at ecl eda
  subst ecl eda
  have len : its.length = xs.length := r.length.symm
  have pos : 0 < its.length := by rw [len]; exact List.length_pos_iff.mpr hne
  have emp : its.toArray.isEmpty = false := by
    rw [Array.isEmpty_eq_false_iff]
    intro z
    have := congrArg Array.size z
    simp at this
    rw [this] at pos; simp at pos
  have size : its.toArray.size = xs.length := by simpa using len
  have fl : (List.replicate k.toNat its).flatten.length ≤ 10000000 := by
    rw [PyProof.Rows.lm_len_rep_flat, len]
    exact Nat.le_trans (Nat.mul_le_mul (show k.toNat ≤ 100000 by omega) xB) (by decide)
  have prod : (((its.toArray.size : Nat) : Int)) * k ≤ 10000000 := by
    rw [size]
    have := Int.mul_le_mul_of_nonneg_right (show ((xs.length : Nat) : Int) ≤ 100 by omega) (show 0 ≤ k by omega)
    omega
  have a0 : (decide (k < -(2 ^ 63)) || decide (k ≥ 2 ^ 63)) = false := by simp; omega
  have a1 : (its.toArray.isEmpty || k == 1) = false := by rw [emp]; simp; omega
  have a2 : (decide (k ≤ 0) || its.toArray.isEmpty) = false := by rw [emp]; simp; omega
  have a4 : Builtin.Tuple.tupleTooMany (((its.toArray.size : Nat) : Int) * k) = false := by
    unfold Builtin.Tuple.tupleTooMany
    have sz := sizeLine_eq
    rw [decide_eq_false_iff_not]; omega
  have tw := tuple_mulW l its.toArray cnt dd sl k tk a0 a1 a2 (by omega) a4 (by rw [size_rep, List.size_toArray, sizeLine_eq]; omega)
  have iw := int_rmul_tuple k tk l its.toArray cnt dd sl
  have ti := typeIs_int s k tk
  refine wpAny_binaryOp_repeat_ref (T := "tuple") (U := "int") (by decide) ⟨_, ho, rfl⟩ (fun s' => typeIs_int s' k tk) noFill_tuple_mul F.fills_int_mul F.slot_int_rmul repeat_tuple F.slot_int_index.lookup ?_
  refine call_meets F.slot_int_rmul ti F.entry_int_rmul (F.args_int_rmul_2 _ _) iw ⟨ho, rfl, ⟨_, ho, rfl⟩, ?_⟩
  refine call_meets F.slot_tuple_mul ⟨_, ho, rfl⟩ F.entry_tuple_mul (F.args_tuple_mul_2 _ _) tw ⟨ho, ?_⟩
  rw [size_rep]
  have fr : H s.heap.objs.size = none := I.hok.fresh (Nat.le_refl _)
  have fl2 : (List.replicate k.toNat xs).flatten.length ≤ sizeLine := by
    rw [PyProof.Rows.lm_len_rep_flat, sizeLine_eq]
    exact Nat.le_trans (Nat.mul_le_mul (show k.toNat ≤ 100000 by omega) xB) (by decide)
  exact NewT.lay (s := s) (t' := s.toks) I (by simpa using r.rep k.toNat) (by rw [PyProof.Rows.lm_len_rep_flat] at fl2 ⊢; exact fl2) q
end Mi

namespace Mi
open PySem L2
section
variable {X : Cx}
theorem o_mul : OpR X (binaryOp .Mult) (rM (binF .Mult) X.K) := by
  refine OpR.imp (L2.OpR.or op_mul (L2.OpR.or op_rep op_repBig)) ?_
  rintro x y H Q ⟨ι, h, a, b, rh, ra, rb, q⟩
  cases ra with
  | int i =>
    cases rb with
    | int j =>
      have q : PostE ωF X.K ι H (if mulOk i j = true then .ok (.int (i * j)) h else .bad) Q := q
      by_cases c : mulOk i j = true
      · rw [if_pos c] at q
        refine .inl ⟨i, j, rfl, rfl, ?_, q.val rh (.int _)⟩
        simpa [mulOk, CMul] using c
      · rw [if_neg c] at q; exact q.elim
    | _ => exact q.elim
  | ref e =>
    rename_i n a
    cases rb with
    | int k =>
      simp only [binF] at q
      cases h1 : h[n]? with
      | none => rw [h1] at q; exact q.elim
      | some c1 =>
        rw [h1] at q
        cases c1 with
        | lst xs =>
          have q : PostE ωF X.K ι H (if (decide (-(2 ^ 63) ≤ k) && decide (k < 2 ^ 63) && decide (xs.length * k.toNat ≤ LIM)) = true then .ok (.ref h.length) (h ++ [.lst (List.replicate k.toNat xs).flatten]) else .bad) Q := q
          by_cases c : (decide (-(2 ^ 63) ≤ k) && decide (k < 2 ^ 63) && decide (xs.length * k.toNat ≤ LIM)) = true
          · rw [if_pos c] at q
            simp only [Bool.and_eq_true, decide_eq_true_eq] at c
            obtain ⟨_, vs, z, _, e1, r1⟩ := (Rp.ref e : Rp X.K ι H _ _).lstOf rh h1
            cases z
            exact .inr <| .inl ⟨a, k, vs, rfl, rfl, e1, c.1.1, c.1.2, by rw [← LIM_line, ← r1.length]; exact c.2, q.newL rh (r1.rep k.toNat)⟩
          · rw [if_neg c] at q; exact q.elim
        | _ => exact q.elim
    | _ => exact q.elim
  | tup sa r =>
    rename_i xs a vs
    cases rb with
    | int k =>
      have q : PostE ωF X.K ι H (if (decide (2 ≤ k) && decide (k ≤ 100000) && decide (xs.length ≤ 100) && !xs.isEmpty) = true then .ok (.tup (List.replicate k.toNat xs).flatten) h else .bad) Q := q
      by_cases c : (decide (2 ≤ k) && decide (k ≤ 100000) && decide (xs.length ≤ 100) && !xs.isEmpty) = true
      · rw [if_pos c] at q
        simp only [Bool.and_eq_true, decide_eq_true_eq, Bool.not_eq_true', List.isEmpty_eq_false_iff] at c
        refine .inr <| .inr ⟨a, k, vs, rfl, rfl, sa.sq, fun z => ?_, c.1.1.1, c.1.1.2, by rw [← r.length]; exact c.1.2, q.newT rh (r.rep k.toNat)⟩
        subst z
        exact c.2 r.nilV
      · rw [if_neg c] at q; exact q.elim
    | _ => exact q.elim
  | _ => exact q.elim
theorem o_fdiv : OpR X (binaryOp .FloorDiv) (rM (binF .FloorDiv) X.K) := by
  refine o_int op_fdiv ?_
  intro a b h Q H ι q rh
  cases a <;> first | exact q.elim | skip
  cases b <;> first | exact q.elim | skip
  rename_i i j
  have q : PostE ωF X.K ι H (if (decide (0 < j) && decide (j < 1073741824)) = true then .ok (.int (i / j)) h else .bad) Q := q
  by_cases c : (decide (0 < j) && decide (j < 1073741824)) = true
  · rw [if_pos c] at q
    simp only [Bool.and_eq_true, decide_eq_true_eq] at c
    exact ⟨i, j, rfl, rfl, c, q.val rh (.int _)⟩
  · rw [if_neg c] at q; exact q.elim
theorem o_mod : OpR X (binaryOp .Mod) (rM (binF .Mod) X.K) := by
  refine o_int op_mod ?_
  intro a b h Q H ι q rh
  cases a <;> first | exact q.elim | skip
  cases b <;> first | exact q.elim | skip
  rename_i i j
  have q : PostE ωF X.K ι H (if decide (0 < j) = true then .ok (.int (i % j)) h else .bad) Q := q
  by_cases c : decide (0 < j) = true
  · rw [if_pos c] at q
    exact ⟨i, j, rfl, rfl, of_decide_eq_true c, q.val rh (.int _)⟩
  · rw [if_neg c] at q; exact q.elim
theorem o_pow : OpR X (binaryOp .Pow) (rM (binF .Pow) X.K) := by
  refine o_int op_pow ?_
  intro a b h Q H ι q rh
  cases a <;> first | exact q.elim | skip
  cases b <;> first | exact q.elim | skip
  rename_i i j
  have q : PostE ωF X.K ι H (if (decide (0 ≤ j) && decide (j ≤ 1000000) && decide (i.natAbs < 2 ^ 64)) = true then .ok (.int (i ^ j.toNat)) h else .bad) Q := q
  by_cases c : (decide (0 ≤ j) && decide (j ≤ 1000000) && decide (i.natAbs < 2 ^ 64)) = true
  · rw [if_pos c] at q
    simp only [Bool.and_eq_true, decide_eq_true_eq] at c
    exact ⟨i, j, rfl, rfl, ⟨c.1.1, c.1.2, c.2⟩, q.val rh (.int _)⟩
  · rw [if_neg c] at q; exact q.elim
theorem o_xor : OpR X (binaryOp .BitXor) (rM (binF .BitXor) X.K) := by
  refine o_int (C := fun _ _ => True) (OpR.imp op_xor fun x y H Q ⟨i, j, e1, e2, _, q⟩ => ⟨i, j, e1, e2, q⟩) ?_
  intro a b h Q H ι q rh
  cases a <;> first | exact q.elim | skip
  cases b <;> first | exact q.elim | skip
  exact ⟨_, _, rfl, rfl, trivial, q.val rh (.int _)⟩
/-- the operators that are served -/
def opOk : Operator → Bool
  | .Add | .Sub | .Mult | .FloorDiv | .Mod | .Pow | .BitXor => true
  | _ => false
theorem o_bin {o : Operator} (e : opOk o = true) : OpR X (binaryOp o) (rM (binF o) X.K) := by
  cases o <;> first | exact o_add | exact o_sub | exact o_mul | exact o_fdiv | exact o_mod | exact o_pow | exact o_xor | cases e

/-! ## comparisons by values -/
def cmpR (o : CmpOp) (x y : D) (h : HS) : R D := ofO ((cmpF o x y h).map .bl) h
theorem cmpR_val {K : PySem.W.Frag} {o : CmpOp} {a b : D} {h : HS} {ι : List Addr} {H : Hp} {Q : VK} (q : PostE ωF K ι H (cmpR o a b h) Q) (rh : RelH K ι h H) : ∃ k, cmpF o a b h = some k ∧ Q (.bl k) H := by
  unfold cmpR at q
  cases e : cmpF o a b h with
  | none => rw [e] at q; exact q.elim
  | some k =>
    rw [e] at q
    have q : PostE ωF K ι H (.ok (.bl k) h) Q := q
    exact ⟨k, rfl, q.val rh (.bl k)⟩
theorem c_eq (hu : X.A.units + 64 < cLine) : OpR X (compareOp .Eq) (rM (cmpR .Eq) X.K) := by
  refine OpR.imp (op_eqD hu) ?_
  rintro x y H Q ⟨ι, h, a, b, rh, ra, rb, q⟩
  obtain ⟨k, e, q⟩ := cmpR_val q rh
  obtain ⟨d, e', e1, e2, s1, s2, rfl⟩ := eqD_some (show eqD h a b = some k from e)
  exact ⟨d, e', ra.dp rh e1, rb.dp rh e2, s1, s2, q⟩
theorem c_ne (hu : X.A.units + 64 < cLine) : OpR X (compareOp .NotEq) (rM (cmpR .NotEq) X.K) := by
  refine OpR.imp (op_neD hu) ?_
  rintro x y H Q ⟨ι, h, a, b, rh, ra, rb, q⟩
  obtain ⟨k, e, q⟩ := cmpR_val q rh
  have e0 : (eqD h a b).map (!·) = some k := e
  rw [Option.map_eq_some_iff] at e0
  obtain ⟨k', e3, rfl⟩ := e0
  obtain ⟨d, e', e1, e2, s1, s2, rfl⟩ := eqD_some e3
  exact ⟨d, e', ra.dp rh e1, rb.dp rh e2, s1, s2, q⟩
theorem c_int {o : CmpOp} {g : Int → Int → Bool} (ho : OpR X (compareOp o) (rI0 fun i j => .bl (g i j))) (hg : ∀ a b h k, cmpF o a b h = some k → ∃ i j, a = .int i ∧ b = .int j ∧ k = g i j) : OpR X (compareOp o) (rM (cmpR o) X.K) := by
  refine OpR.imp ho ?_
  rintro x y H Q ⟨ι, h, a, b, rh, ra, rb, q⟩
  obtain ⟨k, e, q⟩ := cmpR_val q rh
  obtain ⟨i, j, rfl, rfl, rfl⟩ := hg a b h k e
  cases ra; cases rb
  exact ⟨i, j, rfl, rfl, q⟩
theorem c_le : OpR X (compareOp .LtE) (rM (cmpR .LtE) X.K) := c_int op_le fun a b h k e => by
  cases a <;> cases b <;> simp [cmpF] at e
  exact ⟨_, _, rfl, rfl, e.symm⟩
theorem c_gt : OpR X (compareOp .Gt) (rM (cmpR .Gt) X.K) := c_int op_gt fun a b h k e => by
  cases a <;> cases b <;> simp [cmpF] at e
  exact ⟨_, _, rfl, rfl, e.symm⟩
theorem c_ge : OpR X (compareOp .GtE) (rM (cmpR .GtE) X.K) := c_int op_ge fun a b h k e => by
  cases a <;> cases b <;> simp [cmpF] at e
  exact ⟨_, _, rfl, rfl, e.symm⟩
theorem c_lt (hu : X.A.units < cLine) : OpR X (compareOp .Lt) (rM (cmpR .Lt) X.K) := by
  refine OpR.imp (L2.OpR.or op_lt (op_ltT hu)) ?_
  rintro x y H Q ⟨ι, h, a, b, rh, ra, rb, q⟩
  obtain ⟨k, e, q⟩ := cmpR_val q rh
  cases ra with
  | int i =>
    cases rb <;> simp [cmpF] at e
    subst e
    exact .inl ⟨_, _, rfl, rfl, q⟩
  | tup s r =>
    cases rb with
    | tup s' r' =>
      rename_i xs a vs ys b ws
      simp only [cmpF] at e
      cases e1 : intsD xs with
      | none => rw [e1] at e; cases e
      | some ns =>
        cases e2 : intsD ys with
        | none => rw [e1, e2] at e; cases e
        | some ms =>
          rw [e1, e2] at e
          have e : some (HT.lexLt ns ms) = some k := e
          cases e
          obtain ⟨z1, _⟩ := r.intsD e1
          obtain ⟨z2, _⟩ := r'.intsD e2
          subst z1; subst z2
          exact .inr ⟨a, b, ns, ms, rfl, rfl, s.sq, s'.sq, q⟩
    | _ => simp [cmpF] at e
  | _ => simp [cmpF] at e
theorem Rp.non_iff {K : PySem.W.Frag} {ι : List Addr} {H : Hp} {d : D} {v : V} (r : Rp K ι H d v) : decide (v = .non) = decide (d = .non) := by
  cases r <;> simp
theorem c_is : OpR X (compareOp .Is) (rM (cmpR .Is) X.K) := by
  refine OpR.imp (L2.OpR.or op_isN op_isBl) ?_
  rintro x y H Q ⟨ι, h, a, b, rh, ra, rb, q⟩
  obtain ⟨k, e, q⟩ := cmpR_val q rh
  cases rb with
  | non =>
    have e : some (decide (a = .non)) = some k := by cases a <;> exact e
    cases e
    rw [← ra.non_iff] at q
    exact .inl ⟨rfl, q⟩
  | bl t =>
    cases ra <;> simp [cmpF] at e
    subst e
    refine .inr ⟨_, _, rfl, rfl, ?_⟩
    simpa using q
  | _ => cases ra <;> simp [cmpF] at e
theorem c_isnot : OpR X (compareOp .IsNot) (rM (cmpR .IsNot) X.K) := by
  refine OpR.imp (L2.OpR.or op_notN op_notBl) ?_
  rintro x y H Q ⟨ι, h, a, b, rh, ra, rb, q⟩
  obtain ⟨k, e, q⟩ := cmpR_val q rh
  cases rb with
  | non =>
    have e : some (!decide (a = .non)) = some k := by cases a <;> exact e
    cases e
    rw [← ra.non_iff] at q
    exact .inl ⟨rfl, q⟩
  | bl t =>
    cases ra <;> first | (simp [cmpF] at e; done) | skip
    rename_i u
    have e : some (!decide (u = t)) = some k := e
    cases e
    exact .inr ⟨_, _, rfl, rfl, q⟩
  | _ => cases ra <;> simp [cmpF] at e
end
end Mi

namespace Mi
open PySem L2
section
variable {K : PySem.W.Frag} {ι : List Addr} {H : Hp} {h : HS} {a : Addr} {y v : V} {k d : D} {kvs : List (D × D)}
theorem keyD_of (e : keyD k = true) : ∃ kk, keyOf k = some kk := by
  cases k <;> first | exact ⟨_, rfl⟩ | (simp [keyD] at e)
theorem keyOf_D {kk : Key} (e : keyOf k = some kk) : keyD k = true := by
  cases k <;> first | rfl | (simp [keyOf] at e)
theorem keyOf_inj {k' : D} {kk : Key} (e : keyOf k = some kk) (e' : keyOf k' = some kk) : k = k' := by
  cases k <;> simp [keyOf] at e <;> cases k' <;> simp [keyOf] at e' <;> subst e <;> simp at e' <;> subst e' <;> rfl
theorem keyOf_rp {kk : Key} (e : keyOf k = some kk) (r : Rp K ι H k y) : y = kV kk := by
  cases r <;> simp [keyOf] at e <;> subst e <;> rfl
theorem intsD_map : ∀ {xs : List D} {ns : List Int}, intsD xs = some ns → xs = ns.map D.int
  | [], _, e => by simp [intsD] at e; subst e; rfl
  | x :: r, ns, e => by
    cases x <;> simp [intsD] at e
    obtain ⟨ms, e1, rfl⟩ := e
    rw [intsD_map e1]; rfl
theorem tkeyD_of (e : tkeyD k = true) : ∃ kk, tkeyOf k = some kk := by
  cases k <;> first | (simp [tkeyD] at e; done) | exact Option.isSome_iff_exists.mp e
theorem tkeyOf_inj {k' : D} {kk : List Int} (e : tkeyOf k = some kk) (e' : tkeyOf k' = some kk) : k = k' := by
  cases k <;> first | (simp [tkeyOf] at e; done) | skip
  cases k' <;> first | (simp [tkeyOf] at e'; done) | skip
  simp only [tkeyOf] at e e'
  rw [intsD_map e, intsD_map e']
theorem tkeyOf_rp {kk : List Int} (e : tkeyOf k = some kk) (r : Rp K ι H k y) : ∃ b, y = .ref b ∧ TupS H b (kk.map V.int) := by
  cases r <;> first | (simp [tkeyOf] at e; done) | skip
  rename_i s r
  rw [(RpL.intsD r e).1] at s
  exact ⟨_, rfl, s⟩
/-- the value at a key -/
def OptR (K : PySem.W.Frag) (ι : List Addr) (H : Hp) : Option D → Option V → Prop
  | none, none => True
  | some d, some v => Rp K ι H d v
  | _, _ => False
theorem get_rel {κ : Type} [DecidableEq κ] {F : D → Option κ} (inj : ∀ a b x, F a = some x → F b = some x → a = b) {kk : κ} (e : F k = some kk) :
    ∀ {kvs : List (D × D)} {ks : List (κ × V)}, Paired (fun p q => F p.1 = some q.1 ∧ Rp K ι H p.2 q.2) kvs ks → OptR K ι H (getK kvs k) (valV ks kk)
  | _, _, .nil => trivial
  | _, _, .cons (b := q) (a := p) (l₁ := r) (l₂ := s) z t => by
    have ih := get_rel inj e t
    by_cases c : p.1 = k
    · have c' : q.1 = kk := by have := z.1; rw [c, e] at this; exact (Option.some.inj this).symm
      rw [valV_pos c']
      have : getK (p :: r) k = some p.2 := by simp [getK, List.find?_cons, c]
      rw [this]; exact z.2
    · have c' : ¬ q.1 = kk := fun w => c (inj _ _ _ z.1 (by rw [w]; exact e))
      rw [valV_neg c']
      have : getK (p :: r) k = getK r k := by simp [getK, List.find?_cons, c]
      rw [this]; exact ih
theorem any_rel {κ : Type} [DecidableEq κ] {F : D → Option κ} (inj : ∀ a b x, F a = some x → F b = some x → a = b) {kk : κ} (e : F k = some kk) :
    ∀ {kvs : List (D × D)} {ks : List (κ × V)}, Paired (fun p q => F p.1 = some q.1 ∧ Rp K ι H p.2 q.2) kvs ks → (kvs.any fun kv => decide (kv.1 = k)) = ks.any fun kv => decide (kv.1 = kk)
  | _, _, .nil => rfl
  | _, _, .cons (b := q) (a := p) (l₁ := r) (l₂ := s) z t => by
    rw [List.any_cons, List.any_cons, any_rel inj e t]
    congr 1
    by_cases c : p.1 = k
    · have c' : q.1 = kk := by have := z.1; rw [c, e] at this; exact (Option.some.inj this).symm
      simp [c, c']
    · have c' : ¬ q.1 = kk := fun w => c (inj _ _ _ z.1 (by rw [w]; exact e))
      simp [c, c']
theorem map_rel {κ : Type} [DecidableEq κ] {F : D → Option κ} (inj : ∀ a b x, F a = some x → F b = some x → a = b) {kk : κ} (e : F k = some kk) (rd : Rp K ι H d v) :
    ∀ {kvs : List (D × D)} {ks : List (κ × V)}, Paired (fun p q => F p.1 = some q.1 ∧ Rp K ι H p.2 q.2) kvs ks →
      Paired (fun p q => F p.1 = some q.1 ∧ Rp K ι H p.2 q.2) (kvs.map fun kv => if kv.1 = k then (kv.1, d) else kv) (ks.map fun kv => if kv.1 = kk then (kv.1, v) else kv)
  | _, _, .nil => .nil
  | _, _, .cons (b := q) (a := p) (l₁ := r) (l₂ := s) z t => by
    refine .cons ?_ (map_rel inj e rd t)
    by_cases c : p.1 = k
    · have c' : q.1 = kk := by have := z.1; rw [c, e] at this; exact (Option.some.inj this).symm
      dsimp only; rw [if_pos c, if_pos c']; exact ⟨z.1, rd⟩
    · have c' : ¬ q.1 = kk := fun w => c (inj _ _ _ z.1 (by rw [w]; exact e))
      dsimp only; rw [if_neg c, if_neg c']; exact z
theorem Paired.snoc {α β : Type} {F : α → β → Prop} {x : α} {y : β} (r : F x y) : ∀ {l : List α} {m : List β}, Paired F l m → Paired F (l ++ [x]) (m ++ [y])
  | _, _, .nil => .cons r .nil
  | _, _, .cons q t => .cons q (Paired.snoc r t)
theorem put_rel {κ : Type} [DecidableEq κ] {F : D → Option κ} (inj : ∀ a b x, F a = some x → F b = some x → a = b) {kk : κ} (e : F k = some kk) (rd : Rp K ι H d v) {kvs : List (D × D)} {ks : List (κ × V)}
    (r : Paired (fun p q => F p.1 = some q.1 ∧ Rp K ι H p.2 q.2) kvs ks) : Paired (fun p q => F p.1 = some q.1 ∧ Rp K ι H p.2 q.2) (putK kvs k d) (L2.putK ks kk v) := by
  unfold putK L2.putK
  rw [any_rel inj e r]
  split
  · exact map_rel inj e rd r
  · exact Paired.snoc ⟨e, rd⟩ r
theorem Paired.len {α β : Type} {F : α → β → Prop} : ∀ {l : List α} {m : List β}, Paired F l m → l.length = m.length
  | _, _, .nil => rfl
  | _, _, .cons _ t => congrArg (· + 1) (Paired.len t)
theorem get_relA {kk : List Int} (e : tkeyOf k = some kk) : ∀ {kvs : List (D × D)} {kas : List KA}, Paired (fun p q => tkeyOf p.1 = some q.1 ∧ Rp K ι H p.2 q.2.2) kvs kas → OptR K ι H (getK kvs k) (atA kas kk)
  | _, _, .nil => trivial
  | _, _, .cons (b := q) (a := p) (l₁ := r) (l₂ := s) z t => by
    have ih := get_relA e t
    by_cases c : p.1 = k
    · have c' : q.1 = kk := by have := z.1; rw [c, e] at this; exact (Option.some.inj this).symm
      have e1 : getK (p :: r) k = some p.2 := by simp [getK, List.find?_cons, c]
      have e2 : atA (q :: s) kk = some q.2.2 := by simp [atA, List.find?_cons, c']
      rw [e1, e2]; exact z.2
    · have c' : ¬ q.1 = kk := fun w => c (tkeyOf_inj z.1 (by rw [w]; exact e))
      have e1 : getK (p :: r) k = getK r k := by simp [getK, List.find?_cons, c]
      have e2 : atA (q :: s) kk = atA s kk := by simp [atA, List.find?_cons, c']
      rw [e1, e2]; exact ih
theorem any_relA {kk : List Int} (e : tkeyOf k = some kk) : ∀ {kvs : List (D × D)} {kas : List KA}, Paired (fun p q => tkeyOf p.1 = some q.1 ∧ Rp K ι H p.2 q.2.2) kvs kas → (kvs.any fun kv => decide (kv.1 = k)) = kas.any fun x => decide (x.1 = kk)
  | _, _, .nil => rfl
  | _, _, .cons (b := q) (a := p) (l₁ := r) (l₂ := s) z t => by
    rw [List.any_cons, List.any_cons, any_relA e t]
    congr 1
    by_cases c : p.1 = k
    · have c' : q.1 = kk := by have := z.1; rw [c, e] at this; exact (Option.some.inj this).symm
      simp [c, c']
    · have c' : ¬ q.1 = kk := fun w => c (tkeyOf_inj z.1 (by rw [w]; exact e))
      simp [c, c']
theorem map_relA {kk : List Int} (e : tkeyOf k = some kk) (rd : Rp K ι H d v) : ∀ {kvs : List (D × D)} {kas : List KA}, Paired (fun p q => tkeyOf p.1 = some q.1 ∧ Rp K ι H p.2 q.2.2) kvs kas →
      Paired (fun p (q : KA) => tkeyOf p.1 = some q.1 ∧ Rp K ι H p.2 q.2.2) (kvs.map fun kv => if kv.1 = k then (kv.1, d) else kv) (kas.map fun x => if x.1 = kk then (x.1, x.2.1, v) else x)
  | _, _, .nil => .nil
  | _, _, .cons (b := q) (a := p) (l₁ := r) (l₂ := s) z t => by
    refine .cons ?_ (map_relA e rd t)
    by_cases c : p.1 = k
    · have c' : q.1 = kk := by have := z.1; rw [c, e] at this; exact (Option.some.inj this).symm
      dsimp only; rw [if_pos c, if_pos c']; exact ⟨z.1, rd⟩
    · have c' : ¬ q.1 = kk := fun w => c (tkeyOf_inj z.1 (by rw [w]; exact e))
      dsimp only; rw [if_neg c, if_neg c']; exact z
theorem put_relA {b : Addr} {kk : List Int} (e : tkeyOf k = some kk) (rd : Rp K ι H d v) {kvs : List (D × D)} {kas : List KA} (r : Paired (fun p q => tkeyOf p.1 = some q.1 ∧ Rp K ι H p.2 q.2.2) kvs kas) :
    Paired (fun p (q : KA) => tkeyOf p.1 = some q.1 ∧ Rp K ι H p.2 q.2.2) (putK kvs k d) (putA kas kk b v) := by
  unfold putK putA
  rw [any_relA e r]
  split
  · exact map_relA e rd r
  · exact Paired.snoc ⟨e, rd⟩ r
theorem putA_ne {kas : List KA} {kk : List Int} {b : Addr} : putA kas kk b v ≠ [] := by
  unfold putA
  split
  · rename_i c
    cases kas with
    | nil => simp at c
    | cons x r => simp
  · simp
theorem tkey_not {k : D} (e : tkeyD k = true) : keyOf k = none := by cases k <;> first | rfl | (simp [tkeyD] at e)
theorem key_not {k : D} (e : keyD k = true) : tkeyOf k = none := by cases k <;> first | rfl | (simp [keyD] at e)
end
section
variable {X : Cx} {pins : List (Addr × Obj)} {σ : St} {H : Hp} {s : Shared} {ι : List Addr} {h : HS} {a : Addr} {y : V} {k : D} {kvs : List (D × D)} {n : Nat}
/-- a dict of a kind that fits the key -/
def DctK (X : Cx) (ι : List Addr) (H : Hp) (kvs : List (D × D)) (a : Addr) (k : D) : Prop :=
  (∃ ks kk, H a = some (.dK ks) ∧ Paired (fun p q => keyOf p.1 = some q.1 ∧ Rp X.K ι H p.2 q.2) kvs ks ∧ keyOf k = some kk) ∨
  (∃ kas kk, TDic H a kas ∧ KeysS H kas ∧ Paired (fun p (q : KA) => tkeyOf p.1 = some q.1 ∧ Rp X.K ι H p.2 q.2.2) kvs kas ∧ tkeyOf k = some kk)
/-- (an empty dict may be either kind) -/
theorem dct_fit (rh : RelH X.K ι h H) (ha : ι[n]? = some a) (hc : h[n]? = some (.dct kvs)) (ok : keyOk kvs k = true) : DctK X ι H kvs a k := by
  have rc : DctR X.K ι H kvs a := rh.cell n _ a hc ha
  unfold keyOk at ok
  rw [Bool.or_eq_true, Bool.and_eq_true, Bool.and_eq_true] at ok
  rcases rc with ⟨ks, e, r⟩ | ⟨kas, ne, e, hk, r⟩
  · rcases ok with ⟨o1, o2⟩ | ⟨o1, o2⟩
    · obtain ⟨kk, e1⟩ := keyD_of o1
      exact .inl ⟨ks, kk, e, r, e1⟩
    · cases r with
      | nil =>
        obtain ⟨kk, e1⟩ := tkeyD_of o1
        exact .inr ⟨[], kk, .inr ⟨rfl, e⟩, fun _ h => (nomatch h), .nil, e1⟩
      | cons z t =>
        rw [List.all_cons, Bool.and_eq_true] at o2
        rw [tkey_not o2.1] at z; cases z.1
  · rcases ok with ⟨o1, o2⟩ | ⟨o1, o2⟩
    · cases r with
      | nil => exact absurd rfl ne
      | cons z t =>
        rw [List.all_cons, Bool.and_eq_true] at o2
        rw [key_not o2.1] at z; cases z.1
    · obtain ⟨kk, e1⟩ := tkeyD_of o1
      exact .inr ⟨kas, kk, .inl e, hk, r, e1⟩
theorem dctFit (I : Inv X pins σ H s) (rh : RelH X.K ι h H) (ha : ι[n]? = some a) (hc : h[n]? = some (.dct kvs)) (ok : keyOk kvs k = true) :
    ∃ H', Inv X pins σ H' s ∧ Ext ι H ι H' ∧ RelH X.K ι h H' ∧ DctK X ι H' kvs a k := ⟨H, I, Ext.refl, rh, dct_fit rh ha hc ok⟩
theorem DctK.get (r : DctK X ι H kvs a k) (rk : Rp X.K ι H k y) : ∃ o, GetS H a y o ∧ OptR X.K ι H (getK kvs k) o := by
  rcases r with ⟨ks, kk, e, r, e1⟩ | ⟨kas, kk, e, hk, r, e1⟩
  · have := keyOf_rp e1 rk; subst this
    exact ⟨_, .inl (DGet.k e), get_rel (fun a b x => keyOf_inj) e1 r⟩
  · obtain ⟨b, rfl, eb⟩ := tkeyOf_rp e1 rk
    exact ⟨_, .inr ⟨kas, kk, b, rfl, e, hk, eb, rfl⟩, get_relA e1 r⟩
theorem OptR.some {K : PySem.W.Frag} {o : Option D} {o' : Option V} (r : OptR K ι H o o') : o'.isSome = o.isSome := by
  cases o <;> cases o' <;> first | rfl | exact r.elim
theorem DctK.put {d : D} {v : V} (r : DctK X ι H kvs a k) (rk : Rp X.K ι H k y) (rd : Rp X.K ι H d v) (rh : RelH X.K ι h H) (ha : ι[n]? = Option.some a) (hl : kvs.length < LIM) :
    ∃ o, PutS H a y v (upd H a o) ∧ RelH X.K ι (h.set n (.dct (putK kvs k d))) (upd H a o) := by
  have ew : ∀ o, Ext ι H ι (upd H a o) := fun o => Ext.write ha
  rcases r with ⟨ks, kk, e, r, e1⟩ | ⟨kas, kk, e, hk, r, e1⟩
  · have := keyOf_rp e1 rk; subst this
    refine ⟨_, .inl (DPut.k e (by rw [← LIM_line, ← Paired.len r]; exact hl)), rh.write ha (.inl ⟨_, upd_same, ?_⟩)⟩
    exact Paired.mapX (fun p q z => ⟨z.1, z.2.ext (ew _) rh.mut⟩) (put_rel (fun a b x => keyOf_inj) e1 rd r)
  · obtain ⟨b, rfl, eb⟩ := tkeyOf_rp e1 rk
    refine ⟨_, .inr ⟨kas, kk, b, rfl, e, hk, eb, by rw [← LIM_line, ← Paired.len r]; exact hl, rfl⟩, rh.write ha (.inr ⟨_, putA_ne, upd_same, (putA_keys hk eb).ext (ew _) rh.mut, ?_⟩)⟩
    exact Paired.mapX (fun p q z => ⟨z.1, z.2.ext (ew _) rh.mut⟩) (put_relA e1 rd r)
end
end Mi

namespace Mi
open PySem L2
section
variable {K : PySem.W.Frag} {ι : List Addr} {H : Hp} {h : HS}
theorem flat_rp {d : D} {v : V} (e : flatD d = true) (r : Rp K ι H d v) : flatV v = true := by
  cases r <;> first | rfl | (simp [flatD] at e)
theorem flats_rp : ∀ {xs : List D} {vs : List V}, xs.all flatD = true → RpL K ι H xs vs → vs.all flatV = true
  | _, _, _, .nil => rfl
  | _, _, e, .cons r t => by
    rw [List.all_cons, Bool.and_eq_true] at e
    rw [List.all_cons, flat_rp e.1 r, flats_rp e.2 t]; rfl
theorem eqF_rp {a b : D} {v w : V} (ea : flatD a = true) (eb : flatD b = true) (ra : Rp K ι H a v) (rb : Rp K ι H b w) : eqV v w = eqF a b := by
  cases ra <;> first | (simp [flatD] at ea; done) | skip
  all_goals (cases rb <;> first | (simp [flatD] at eb; done) | rfl)
theorem in_rp {x : D} {v : V} (ex : flatD x = true) (rx : Rp K ι H x v) : ∀ {xs : List D} {vs : List V}, xs.all flatD = true → RpL K ι H xs vs → inV v vs = xs.any fun z => eqF z x
  | _, _, _, .nil => rfl
  | _, _, e, .cons r t => by
    rw [List.all_cons, Bool.and_eq_true] at e
    have ih := in_rp ex rx e.2 t
    unfold inV at ih ⊢
    rw [List.any_cons, List.any_cons, ih, eqF_rp e.1 ex r rx]
end
section
variable {X : Cx}
theorem c_inG (hu : X.A.units + 64 < cLine) (neg : Bool) : OpR X (compareOp (if neg then .NotIn else .In)) (rM (cmpR (if neg then .NotIn else .In)) X.K) := by
  intro pins s σ H x y v u Q I rx ry hq
  obtain ⟨ι, h, a, b, rh, ra, rb, q⟩ := hq
  obtain ⟨k, ek, qk⟩ := cmpR_val q rh
  have e : ∃ k', cmpF.inF a b h = some k' ∧ k = (if neg then !k' else k') := by
    cases neg
    · exact ⟨k, ek, rfl⟩
    · have e0 : (cmpF.inF a b h).map (!·) = some k := ek
      rw [Option.map_eq_some_iff] at e0
      obtain ⟨k', e3, rfl⟩ := e0
      exact ⟨k', e3, rfl⟩
  clear ek
  obtain ⟨k', e, rfl⟩ := e
  have seq : ∀ (xs : List D) (p : Addr) (vs : List V), (if flatD a && xs.all flatD then some (xs.any fun z => eqF z a) else none) = some k' → y = .ref p → (SqL X.K H p vs ∨ SqT X.K H p vs) → RpL X.K ι H xs vs →
      wpAny (model X.prog X.w) X.A (compareOp (if neg then .NotIn else .In) v u) (EP X pins σ Q) X.xe s := by
    intro xs p vs e ey sq r
    by_cases c : (flatD a && xs.all flatD) = true
    · rw [if_pos c] at e; cases e
      rw [Bool.and_eq_true] at c
      have hi := in_rp c.1 ra c.2 r
      cases neg
      · exact op_in_seq pins s σ H x y v u Q I rx ry ⟨p, vs, ey, sq, flat_rp c.1 ra, flats_rp c.2 r, by rw [hi]; exact qk⟩
      · exact op_notIn_seq pins s σ H x y v u Q I rx ry ⟨p, vs, ey, sq, flat_rp c.1 ra, flats_rp c.2 r, by rw [hi]; exact qk⟩
    · rw [if_neg c] at e; cases e
  cases rb with
  | str j =>
    cases ra with
    | str i =>
      have e : some (!(Builtin.Str.occurrences j i 0 j.length 1).isEmpty) = some k' := e
      cases e
      cases neg
      · exact op_in_str pins s σ H _ _ v u Q I rx ry ⟨i, j, rfl, rfl, qk⟩
      · exact L2.op_notIn_str pins s σ H _ _ v u Q I rx ry ⟨i, j, rfl, rfl, qk⟩
    | _ => cases e
  | tup sb r => exact seq _ _ _ e rfl (.inr (sb.sq)) r
  | kt sb r => exact seq _ _ _ e rfl (.inr sb.sq) r
  | ref er =>
    rename_i n p
    have e : (match h[n]? with
      | some (.lst xs) => if flatD a && xs.all flatD then some (xs.any fun z => eqF z a) else none
      | some (.dct kvs) => if keyOk kvs a then some (getK kvs a).isSome else none
      | _ => none) = some k' := e
    cases hc : h[n]? with
    | none => rw [hc] at e; cases e
    | some c =>
      rw [hc] at e
      cases c with
      | lst xs =>
        obtain ⟨_, vs, z, _, e1, r1⟩ := (Rp.ref er : Rp X.K ι H _ _).lstOf rh hc
        cases z
        exact seq xs p vs e rfl (.inl (SqL.of e1)) r1
      | dct kvs =>
        have e : (if keyOk kvs a = true then some (getK kvs a).isSome else none) = some k' := e
        by_cases c : keyOk kvs a = true
        · rw [if_pos c] at e; cases e
          obtain ⟨H', I', ex, rh', dk⟩ := dctFit I rh er hc c
          obtain ⟨o, g, ro⟩ := dk.get (ra.ext ex rh.mut)
          have qq : ∀ b, Q (.bl b) H → True := fun _ _ => trivial
          have q2 : PostE ωF X.K ι H' (.ok (.bl (if neg then !(getK kvs a).isSome else (getK kvs a).isSome)) h) Q := by
            have : cmpR (if neg then .NotIn else .In) a (.ref n) h = .ok (.bl (if neg then !(getK kvs a).isSome else (getK kvs a).isSome)) h := by
              have hin : cmpF.inF a (.ref n) h = some (getK kvs a).isSome := by
                show (match h[n]? with
                  | some (.lst xs) => if flatD a && xs.all flatD then some (xs.any fun z => eqF z a) else none
                  | some (.dct kvs) => if keyOk kvs a then some (getK kvs a).isSome else none
                  | _ => none) = _
                rw [hc]
                show (if keyOk kvs a = true then some (getK kvs a).isSome else none) = _
                rw [if_pos c]
              cases neg
              · show ofO ((cmpF.inF a (.ref n) h).map D.bl) h = _
                rw [hin]; rfl
              · show ofO (((cmpF.inF a (.ref n) h).map (!·)).map D.bl) h = _
                rw [hin]; rfl
            rw [this] at q
            exact q.shift ex rh'.mut
          have q3 := q2.val rh' (.bl _)
          rw [← ro.some] at q3
          cases ry
          cases neg
          · exact g_in (by omega) I' g rx fun s' I2 => ⟨V.bl o.isSome, H', I2, rfl, q3⟩
          · exact g_notIn (by omega) I' g rx fun s' I2 => ⟨V.bl (!o.isSome), H', I2, rfl, q3⟩
        · rw [if_neg c] at e; cases e
      | ins _ _ => cases e
  | non => cases e
  | bl _ => cases e
  | int _ => cases e
  | fz _ => cases e
  | fn _ => cases e
theorem c_in (hu : X.A.units + 64 < cLine) : OpR X (compareOp .In) (rM (cmpR .In) X.K) := c_inG hu false
theorem c_notin (hu : X.A.units + 64 < cLine) : OpR X (compareOp .NotIn) (rM (cmpR .NotIn) X.K) := c_inG hu true
theorem c_cmp (hu : X.A.units + 64 < cLine) (o : CmpOp) : OpR X (compareOp o) (rM (cmpR o) X.K) := by
  cases o
  · exact c_eq hu
  · exact c_ne hu
  · exact c_lt (by omega)
  · exact c_le
  · exact c_gt
  · exact c_ge
  · exact c_is
  · exact c_isnot
  · exact c_in hu
  · exact c_notin hu
/-! ## subscripts -/
theorem atI_rp {K : PySem.W.Frag} {ι : List Addr} {H : Hp} {xs : List D} {vs : List V} {i : Int} {d : D} (r : RpL K ι H xs vs) (e : atI xs i = some d) : ∃ v, atI vs i = some v ∧ Rp K ι H d v := by
  unfold atI at e ⊢
  rw [← r.length]
  cases hn : ixN xs.length i with
  | none => rw [hn] at e; cases e
  | some j =>
    rw [hn] at e
    obtain ⟨v, e1, r1⟩ := r.get (i := j) e
    exact ⟨v, e1, r1⟩
theorem ofO_some {K : PySem.W.Frag} {ι : List Addr} {H : Hp} {h : HS} {o : Option D} {Q : VK} (q : PostE ωF K ι H (ofO o h) Q) : ∃ d, o = some d ∧ PostE ωF K ι H (.ok d h) Q := by
  cases o with
  | none => exact q.elim
  | some d => exact ⟨d, rfl, q⟩
theorem x_ix (hu : X.A.units + 64 < cLine) : IxR X (rM ixF X.K) := by
  intro value slice pins s σ H x y v u Q I rx ry hq hs
  obtain ⟨ι, h, a, b, rh, ra, rb, q⟩ := hq
  cases ra with
  | tup sa r =>
    cases rb with
    | int i =>
      obtain ⟨d, e, q⟩ := ofO_some (K := X.K) (ι := ι) (H := H) (h := h) (Q := Q) q
      obtain ⟨w, e1, r1⟩ := atI_rp r e
      exact ix_tup value slice pins s σ H _ _ v u Q I rx ry ⟨_, _, _, w, rfl, rfl, sa.sq, e1, q.val rh r1⟩ hs
    | _ => exact q.elim
  | kt sa r =>
    cases rb with
    | int i =>
      obtain ⟨d, e, q⟩ := ofO_some (K := X.K) (ι := ι) (H := H) (h := h) (Q := Q) q
      obtain ⟨w, e1, r1⟩ := atI_rp r e
      exact ix_tup value slice pins s σ H _ _ v u Q I rx ry ⟨_, _, _, w, rfl, rfl, sa.sq, e1, q.val rh r1⟩ hs
    | _ => exact q.elim
  | fz f =>
    rename_i ns p
    cases rb with
    | int i =>
      obtain ⟨d, e, q⟩ := ofO_some (K := X.K) (ι := ι) (H := H) (h := h) (Q := Q) q
      have e : atI (ns.map D.int) i = some d := by
        unfold atI at e ⊢
        rw [List.length_map]
        rw [Option.map_eq_some_iff] at e
        obtain ⟨z, e, rfl⟩ := e
        cases hn : ixN ns.length i with
        | none => rw [hn] at e; cases e
        | some j =>
          rw [hn] at e
          show (ns.map D.int)[j]? = _
          rw [List.getElem?_map]
          have e : ns[j]? = some z := e
          rw [e]; rfl
      obtain ⟨w, e1, r1⟩ := atI_rp (K := X.K) (ι := ι) (H := H) RpL.ints e
      exact ix_list value slice pins s σ H _ _ v u Q I rx ry ⟨_, _, _, w, rfl, rfl, f.sq, e1, q.val rh r1⟩ hs
    | _ => exact q.elim
  | str z =>
    cases rb with
    | int i =>
      have q : PostE ωF X.K ι H (if z.length ≤ LIM then ofO ((atI z.cps.toList i).map fun c => .str ⟨#[c]⟩) h else .bad) Q := q
      by_cases c : z.length ≤ LIM
      · rw [if_pos c] at q
        obtain ⟨d, e, q⟩ := ofO_some q
        rw [Option.map_eq_some_iff] at e
        obtain ⟨w, e, rfl⟩ := e
        exact ix_str value slice pins s σ H _ _ v u Q I rx ry ⟨z, i, w, rfl, rfl, by rw [← LIM_line]; exact c, e, q.val rh (.str _)⟩ hs
      · rw [if_neg c] at q; exact q.elim
    | _ => exact q.elim
  | ref er =>
    rename_i n p
    simp only [ixF] at q
    cases hc : h[n]? with
    | none => rw [hc] at q; exact q.elim
    | some c =>
      rw [hc] at q
      cases c with
      | lst xs =>
        obtain ⟨_, vs, z, _, e1, r1⟩ := (Rp.ref er : Rp X.K ι H _ _).lstOf rh hc
        cases z
        cases rb with
        | int i =>
          obtain ⟨d, e, q⟩ := ofO_some (K := X.K) (ι := ι) (H := H) (h := h) (Q := Q) q
          obtain ⟨w, e2, r2⟩ := atI_rp r1 e
          exact ix_list value slice pins s σ H _ _ v u Q I rx ry ⟨_, _, _, w, rfl, rfl, SqL.of e1, e2, q.val rh r2⟩ hs
        | _ => exact q.elim
      | dct kvs =>
        have q : PostE ωF X.K ι H (if keyOk kvs b = true then ofO (getK kvs b) h else .bad) Q := q
        by_cases c : keyOk kvs b = true
        · rw [if_pos c] at q
          obtain ⟨d, e, q⟩ := ofO_some q
          obtain ⟨H', I', ex, rh', dk⟩ := dctFit I rh er hc c
          obtain ⟨o, g, ro⟩ := dk.get (rb.ext ex rh.mut)
          rw [e] at ro
          cases o with
          | none => exact ro.elim
          | some w =>
            have q3 := PostE.val (K := X.K) (q.shift ex rh'.mut) rh' ro
            cases rx
            unfold PyProof.Rows.subscriptTail
            refine wpAny_bind ?_
            have hT := gs_typeIs I' g
            rw [getitemInPython_of_ne hT.not_modules]
            refine wpAny_bind (wpAny_specialOf hT PySem.F.slot_dict_getitem.lookup ?_)
            have fin : wpAny (model X.prog X.w) X.A (subscripted slice false (.ref p) u) (fun r s₃ => wpAny (model X.prog X.w) X.A (letTemporaryGo value (.ref p) r >>= fun _ => pure r) (EP X pins σ Q) X.xe s₃) X.xe s := by
              rw [hs]
              exact wpAny_operating (wpAny_mono (g_getItem (Q := fun w' s' => EP X pins σ Q w' s') (by omega) I' g ry fun w' s' I2 rw' => ⟨w, H', I2, rw', q3⟩) (fun r s₃ h₃ => wpAny_bind (wpAny_letTemporaryGo (wpAny_pure h₃))) fun _ _ x => x)
            first
              | exact wpAny_pure (wpAny_bind fin)
              | exact wpAny_bind (wpAny_pure (wpAny_bind fin))
              | exact wpAny_bind fin
        · rw [if_neg c] at q; exact q.elim
      | ins _ _ => exact q.elim
  | non => exact q.elim
  | bl _ => exact q.elim
  | int _ => exact q.elim
  | fn _ => exact q.elim
/-! ## slices -/
def sM (f : D → Option Int → Option Int → HS → R D) (K : PySem.W.Frag) : V → Option Int → Option Int → Hp → VK → Prop := fun x lo hi H Q => ∃ ι h a, RelH K ι h H ∧ Rp K ι H a x ∧ PostE ωF K ι H (f a lo hi h) Q
theorem RpL.cut {K : PySem.W.Frag} {ι : List Addr} {H : Hp} {xs : List D} {vs : List V} (r : RpL K ι H xs vs) (lo hi : Option Int) : RpL K ι H (cutD xs lo hi) (cutV vs lo hi) := by
  unfold cutD cutV
  rw [← r.length]
  exact (r.drop _).take _
theorem cutD_whole {xs : List D} {lo hi : Option Int} (h : HT.sIx xs.length 0 lo = 0 ∧ HT.sIx xs.length xs.length hi = xs.length) : cutD xs lo hi = xs := by
  unfold cutD
  rw [h.1, h.2]; simp
theorem s_sl : SlR X (sM slF X.K) := by
  intro pins s σ H x v vl vu lo hi sl Q I rx hs pl pu hq
  obtain ⟨ι, h, a, rh, ra, q⟩ := hq
  cases ra with
  | tup sa r =>
    rename_i xs p vs
    refine sl_tupS pins s σ H _ v vl vu lo hi sl Q I rx hs pl pu ⟨p, vs, rfl, sa.sq, fun w => ?_, fun _ => ?_⟩
    · rw [← r.length] at w
      have q : PostE ωF X.K ι H (.ok (.tup (cutD xs lo hi)) h) Q := q
      rw [cutD_whole w] at q
      exact q.val rh (.tup sa r)
    · exact PostE.newT (K := X.K) q rh (r.cut lo hi)
  | ref er =>
    rename_i n p
    simp only [slF] at q
    cases hc : h[n]? with
    | none => rw [hc] at q; exact q.elim
    | some c =>
      rw [hc] at q
      cases c with
      | lst xs =>
        obtain ⟨_, vs, z, _, e1, r1⟩ := (Rp.ref er : Rp X.K ι H _ _).lstOf rh hc
        cases z
        exact sl_list pins s σ H _ v vl vu lo hi sl Q I rx hs pl pu ⟨p, vs, rfl, SqL.of e1, PostE.newL (K := X.K) q rh (r1.cut lo hi)⟩
      | _ => exact q.elim
  | _ => exact q.elim
/-! ## stores -/
def setM (K : PySem.W.Frag) : V → V → V → Hp → (Hp → Prop) → Prop := fun o i v H Q => ∃ ι h a b d h1, RelH K ι h H ∧ Rp K ι H a o ∧ Rp K ι H b i ∧ Rp K ι H d v ∧ setF a b d h = .ok () h1 ∧ ∀ H1, Ext ι H ι H1 → RelH K ι h1 H1 → Q H1
theorem set_any (hu : X.A.units + 64 < cLine) : PSet X (setM X.K) := by
  intro pins s σ H o i v ov iv u Q I ro ri rv hq
  obtain ⟨ι, h, a, b, d, h1, rh, ra, rb, rd, e, q⟩ := hq
  cases ra with
  | ref er =>
    rename_i n p
    simp only [setF] at e
    cases hc : h[n]? with
    | none => rw [hc] at e; cases e
    | some c =>
      rw [hc] at e
      cases c with
      | lst xs =>
        obtain ⟨_, vs, z, _, e1, r1⟩ := (Rp.ref er : Rp X.K ι H _ _).lstOf rh hc
        cases z
        cases rb with
        | int k =>
          cases hj : ixN xs.length k with
          | none => simp only [hj] at e; cases e
          | some j =>
            simp only [hj] at e
            cases e
            refine set_list pins s σ H _ _ v ov iv u Q I ro ri rv ⟨p, vs, k, j, rfl, rfl, e1, by rw [← r1.length]; exact hj, ?_⟩
            have ex : Ext ι H ι (upd H p (.lst (vs.set j v))) := Ext.write er
            exact q _ ex (rh.write er ⟨_, upd_same, (RpL.set rd j r1).ext ex rh.mut⟩)
        | _ => cases e
      | dct kvs =>
        have e : (if (keyOk kvs b && decide (kvs.length < LIM)) = true then R.ok () (h.set n (.dct (putK kvs b d))) else .bad) = R.ok () h1 := e
        by_cases c : (keyOk kvs b && decide (kvs.length < LIM)) = true
        · rw [if_pos c] at e; cases e
          rw [Bool.and_eq_true, decide_eq_true_eq] at c
          obtain ⟨H', I', ex, rh', dk⟩ := dctFit I rh er hc c.1
          obtain ⟨ob, g, rh2⟩ := dk.put (rb.ext ex rh.mut) (rd.ext ex rh.mut) rh' er c.2
          cases ro
          refine g_setItem (by omega) I' g ri rv fun s' I2 => ⟨_, I2, q _ (ex.trans rh'.mut (Ext.write er)) rh2⟩
        · rw [if_neg c] at e; cases e
      | ins _ _ => cases e
  | _ => cases e
end
end Mi

namespace MiS
open PySem PyProof.Rows Srt SrtO
section
variable {prog : Program} {w : World} {A : Around} {E : Value → Shared → Prop} {s : Shared}
theorem collect_tup {l : Addr} {vs : List Value} {Q : List Value → Shared → Prop} (hl : IsTup s.heap l vs.toArray)
    (h : Q vs { s with heap := (s.heap.push (seqObj "list" #[] 0)).update s.heap.objs.size (Obj.mapSeq (· ++ vs.toArray)) }) (hsz : vs.length ≤ sizeLine) :
    wpAny (model prog w) A (collect (.ref l)) Q E s := by
  obtain ⟨o, ho, hc, n, hd⟩ := id hl
  unfold collect
  refine wpAny_bind (wpAny_runValue (codeAny_builtin entry_proto_collect' ?_))
  show wpAny _ _ (do again (.builtin "list.__iadd__" ⟨[← newList [], .ref l], []⟩)) _ _ s
  refine wpAny_bind (wpAny_newList (wpAny_pure ⟨Code.quiet_builtin _ (by decide +kernel), codeAny_builtin entry_list_iadd' ?_⟩))
  show wpAny _ _ (Builtin.List.listExtendWith (.ref s.heap.objs.size) (.ref l) (.ref s.heap.objs.size)) _ _ { s with heap := s.heap.push (seqObj "list" #[] 0) }
  unfold Builtin.List.listExtendWith
  have ho' : (s.heap.push (seqObj "list" #[] 0)).get? l = some o := Heap.get?_push_of_some _ ho
  refine wpAny_bind (wpAny_typeOf (T := "tuple") ⟨o, ho', hc⟩ ?_)
  have ht : (Value.type "tuple" == Value.type "tuple") = true := by rfl
  rw [if_pos (by rw [ht]; simp)]
  refine wpAny_bind (listItems_at ho' hd ?_)
  refine wpAny_bind (listItems_at (xs := #[]) (n := 0) (Heap.get?_push_size _ rfl) rfl ?_)
  rw [if_neg (by simp)]
  refine wpAny_bind (listUpdate_at (xs := #[]) (n := 0) (Heap.get?_push_size _ rfl) rfl ?_ (Nat.zero_le _) (by show (#[] ++ vs.toArray).size ≤ sizeLine + 1; simp only [Array.size_append, List.size_toArray, List.length_nil]; omega))
  refine wpAny_pure ?_
  show wpAny (model prog w) A (do
      let o ← load s.heap.objs.size
      match o.data with
      | .seq xs _ => pure xs.toList
      | _ => unsupported "internal:collect") Q E { s with heap := (s.heap.push (seqObj "list" #[] 0)).update s.heap.objs.size (Obj.mapSeq (· ++ vs.toArray)) }
  refine wpAny_bind (wpAny_load (get?_update_seq (Heap.get?_push_size _ rfl) _) ?_)
  show wpAny _ _ (pure ((#[] : Array Value) ++ vs.toArray).toList) Q E _
  rw [show ((#[] : Array Value) ++ vs.toArray).toList = vs by simp]
  exact wpAny_pure h
theorem sorted_ordT {l : Addr} {vs : List Value} {ltv : Value → Value → Bool} {Q : Value → Shared → Prop} (O : Swo ltv) (hl : IsTup s.heap l vs.toArray) (hz : vs.length ≤ sizeLine)
    (hS : 2 ≤ vs.length → ∀ (h₁ : Heap) (a : Addr), h₁.get? a = some (seqObj "list" vs.toArray 0) → (∀ b o, s.heap.get? b = some o → b ≠ a ∧ h₁.get? b = some o) → SortableO prog w A.in1.in1 { s with heap := h₁ } a vs ltv)
    (h : ∀ out : List Value, Srtd ltv out → Stb ltv out vs → Q (.ref (s.heap.objs.size + 1)) { s with heap := sortedAll s.heap vs out.toArray }) :
    wpAny (model prog w) A (call (.builtin "sorted") [.ref l]) Q E s := by
  refine Calls.call_function_entry kind_sorted plain_sorted entry_sorted (args_sorted1 _) ?_
  unfold Builtin.«sorted»
  refine wpAny_bind (m := checkCount "sorted" 1 1 _) (wpAny_pure ?_)
  refine wpAny_bind (collect_tup hl ?_ hz)
  refine wpAny_bind (wpAny_newList ?_ hz)
  have hsz : ((s.heap.push (seqObj "list" #[] 0)).update s.heap.objs.size (Obj.mapSeq (· ++ vs.toArray))).objs.size = s.heap.objs.size + 1 := by
    rw [Heap.size_update, size_push']
  have hoL : (((s.heap.push (seqObj "list" #[] 0)).update s.heap.objs.size (Obj.mapSeq (· ++ vs.toArray))).push (seqObj "list" vs.toArray 0)).get? (s.heap.objs.size + 1) = some (seqObj "list" vs.toArray 0) := by
    rw [← hsz]; exact Heap.get?_push_size _ rfl
  have keep : ∀ b o, s.heap.get? b = some o → b ≠ s.heap.objs.size + 1 ∧ (((s.heap.push (seqObj "list" #[] 0)).update s.heap.objs.size (Obj.mapSeq (· ++ vs.toArray))).push (seqObj "list" vs.toArray 0)).get? b = some o := fun b o q => by
    have hlt : b < s.heap.objs.size := Heap.lt_size q
    refine ⟨Nat.ne_of_lt (Nat.lt_succ_of_lt hlt), Heap.get?_push_of_some _ ?_⟩
    rw [Heap.get?_update_ne _ _ _ _ (Nat.ne_of_lt hlt)]
    exact Heap.get?_push_of_some _ q
  show wpAny _ _ _ _ _ { s with heap := ((s.heap.push (seqObj "list" #[] 0)).update s.heap.objs.size (Obj.mapSeq (· ++ vs.toArray))).push (seqObj "list" vs.toArray 0) }
  rw [hsz]
  refine wpAny_bind (wpAny_holding (wpAny_call_entry slot_list_sort ⟨_, hoL, rfl⟩ entry_list_sort (list_sort_ord O hoL hz (fun h2 => hS h2 _ _ hoL keep) fun out hs hb => ⟨_, rfl, ?_⟩) (args_list_sort _)))
  exact wpAny_pure ⟨_, rfl, h out hs hb⟩
end
open L2 in
theorem cr_sortedIT {X : Cx} : CallR X (.builtin "sorted") (fun vs H Q => ∃ (a : Addr) (ns : List Int), vs = [V.ref a] ∧ SqT X.K H a (ns.map V.int) ∧ ∀ (ns' : List Int) (p : Addr), ns'.Perm ns → ns'.Pairwise (· ≤ ·) → H p = none → Q (.ref p) (upd H p (.lst (ns'.map V.int)))) := by
  intro pins s σ H vs us Q I r h
  obtain ⟨a, ns, rfl, hs, q⟩ := h
  obtain ⟨its, rv, hl, hz⟩ := I.tuple hs
  rw [Vals.ref1 r]
  have hi := rv.ints
  refine sorted_ordT SrtO.swo_int hl (by rw [← rv.length]; exact hz) (fun h2 h₁ a' _ _ => SrtO.ints_sortable hi h2) fun out h1 h2 => ?_
  obtain ⟨k1, k2, k3⟩ := SrtO.ints_out hi h1 h2
  obtain ⟨ep, he'⟩ := PyProof.Rows.sortedAll_at s.heap its out.toArray
  have hlen : ((out.map SrtO.iv).map V.int).length ≤ sizeLine := by
    rw [List.length_map, k2.length_eq]
    rw [List.length_map] at hz
    exact hz
  exact ⟨.ref _, upd H (s.heap.objs.size + 1) (.lst ((out.map SrtO.iv).map V.int)), I.laid (t' := s.toks) (fun _ _ => PyProof.Rows.sortedAll_old) (Nat.le_succ _) ⟨hlen, out, ep, vals_of_ints k1, he'⟩, rfl, q _ _ k2 k3 (I.hok.fresh (Nat.le_succ _))⟩
end MiS

namespace Mi
open PySem PySem.Spec PyProof.Rows L2
/-! ## a dict display of one pair, the key a tuple -/
theorem dict_disp1 {prog : Program} {w : World} {K : Type} [DecidableEq K] {knd : HeapKind prog w K} {A : Around} {E : Value → Shared → Prop} {s : Shared} {env : Env} {ks : List (Option Expr)} {vs : List Expr} {p : Pos} {prs : List (Sem Value × Sem Value)} {Q : Value → Shared → Prop} (hu : knd.room A)
    (hs : (evalEachOpt ks env).zip ((evalEach vs env).map fun v => do let x ← v; standAt p; pure x) = prs.map fun z => (some z.1, z.2)) (h0 : prs ≠ []) (hl : prs.length ≤ 15)
    (h : wpAny (model prog w) A (evalPairs prs) (fun us s₁ => ∃ ps, CarriesH knd s₁.heap us ps ∧ s₁.heap.DictOfH knd s.heap.objs.size [] ∧ ∀ h' tk, h'.DictOfH knd s.heap.objs.size (storedAllH [] ps) → Heap.SameBut s.heap.objs.size s₁.heap h' → Q (.ref s.heap.objs.size) { s₁ with heap := h', toks := tk }) E { s with heap := s.heap.push { cls := .type "dict", data := .dict #[] } }) :
    wpAny (model prog w) A (eval (.Dict ks vs p) env) Q E s := by
  rw [arm_eval_Dict, hs, dictDisplay_pairs prs h0 (by omega)]
  refine wpAny_bind (wpAny_standAt (wpAny_bind ?_))
  refine wpAny_subDictH (knd := knd) (Q := fun d s' => wpAny (model prog w) A (pure (Value.ref d)) Q E s') hu hl ?_
  refine wpAny_mono h (fun us s₁ h₁ => ?_) fun _ _ e => e
  obtain ⟨ps, hc, hm, hq⟩ := h₁
  exact ⟨ps, hc, hm, fun h' tk a b => wpAny_pure (hq h' tk a b)⟩
def tDispT (trs : List (TE × TE)) : TE := fun σ H Q => ∀ p, H p = none → tPairs trs σ (upd H p (.dK [])) fun ps H2 => H2 p = some (.dK []) ∧ ∃ (b : Addr) (k : List Int) (y : V), ps = [(.ref b, y)] ∧ TupS H2 b (k.map V.int) ∧ Q (.ref p) (upd H2 p (tdO p [(k, b, y)]))
theorem pe_dispT {X : Cx} {pos : Pos} {keys : List (Option Expr)} {values : List Expr} {trs : List (TE × TE)} (hu : X.A.units + 1 < cLine) (h : PPs X pos keys values trs) (hall : keys.all (·.isSome) = true) (hl : keys.length = values.length) (h0 : keys ≠ [])
    (h15 : keys.length ≤ 15) : PE X (.Dict keys values pos) (tDispT trs) := by
  refine ⟨fun pins s σ H Q I q => ?_⟩
  have hn := I.hok.fresh (Nat.le_refl s.heap.objs.size)
  have I1 := I.laid (a := s.heap.objs.size) (o := .dK []) (h' := s.heap.push { cls := .type "dict", data := .dict #[] }) (t' := s.toks) (fun _ _ q => Heap.get?_push_of_some _ q) (Nat.le_refl _) (dk_empty s.heap I.big)
  have hpl := pairTrees_length keys values X.env pos hall hl
  refine dict_disp1 (knd := tupleKind (intKind X.prog X.w)) (prs := pairTrees keys values X.env pos) (by show X.A.units < cLine; omega) (zip_pairTrees keys values X.env pos hall hl) ?_ (by rw [hpl]; exact h15)
    (thn (h.run pins _ σ _ _ I1 (q _ hn)) fun ws s2 ⟨ps, H2, I2, rel, e, b, k, y, ep, eb, q2⟩ => ?_)
  · intro he
    rw [he] at hpl
    exact h0 (List.length_eq_zero_iff.mp hpl.symm)
  subst ep
  cases rel with
  | @cons _ wp _ _ r t =>
    cases t
    obtain ⟨wk, wv⟩ := wp
    obtain ⟨rk, rv⟩ := r
    cases (show wk = Value.ref b from rk)
    obtain ⟨_, hd, xs, rel0, dd⟩ := td_of (kas := []) I2 (.inr ⟨rfl, e⟩) (fun _ h => (nomatch h))
    cases rel0
    refine ⟨[(k, b, wv)], ⟨rfl, rfl, key_ofS I2 eb, trivial⟩, dd, fun h' tk dd' hs => ⟨.ref s.heap.objs.size, _, ?_, rfl, q2⟩⟩
    exact td_write (kas := [(k, b, y)]) I2 (by rw [e]; exact True.intro) hs hd (by rw [sizeLine_eq]; show 1 ≤ _; omega) (.cons ⟨rfl, rfl, rv⟩ .nil) dd'
end Mi

namespace Mi
open PySem L2
theorem sorted_uniq : ∀ (l m : List Int), l.Perm m → l.Pairwise (· ≤ ·) → m.Pairwise (· ≤ ·) → l = m
  | [], m, p, _, _ => (List.Perm.nil_eq p)
  | a :: l, m, p, s, t => by
    cases m with
    | nil => exact absurd p.length_eq (by simp)
    | cons b m =>
      have hb : b ∈ a :: l := p.mem_iff.mpr List.mem_cons_self
      have ha : a ∈ b :: m := p.mem_iff.mp List.mem_cons_self
      have e1 : a ≤ b := by
        rcases List.mem_cons.mp hb with z | z
        · omega
        · exact List.rel_of_pairwise_cons s z
      have e2 : b ≤ a := by
        rcases List.mem_cons.mp ha with z | z
        · omega
        · exact List.rel_of_pairwise_cons t z
      have e : a = b := by omega
      subst e
      rw [sorted_uniq l m (List.Perm.cons_inv p) (List.pairwise_cons.mp s).2 (List.pairwise_cons.mp t).2]
abbrev srt (ns : List Int) : List Int := ns.mergeSort (fun a b => decide (a ≤ b))
theorem srt_perm (ns : List Int) : (srt ns).Perm ns := List.mergeSort_perm _ _
theorem srt_pw (ns : List Int) : (srt ns).Pairwise (· ≤ ·) := by
  have := List.pairwise_mergeSort (le := fun a b : Int => decide (a ≤ b)) (fun a b c h1 h2 => by simp at *; omega) (fun a b => by simp; omega) ns
  exact this.imp fun h => by simpa using h
theorem srt_eq {ns ns' : List Int} (p : ns'.Perm ns) (s : ns'.Pairwise (· ≤ ·)) : ns' = srt ns :=
  sorted_uniq _ _ (p.trans (srt_perm ns).symm) s (srt_pw ns)
theorem leastI_mem : ∀ {ns : List Int}, ns ≠ [] → leastI ns ∈ ns ∧ ∀ y ∈ ns, leastI ns ≤ y
  | [], h => absurd rfl h
  | [i], _ => by simp [leastI]
  | i :: j :: r, _ => by
    obtain ⟨h1, h2⟩ := leastI_mem (ns := j :: r) (by simp)
    show (let m := leastI (j :: r); if m < i then m else i) ∈ i :: j :: r ∧ ∀ y ∈ i :: j :: r, (let m := leastI (j :: r); if m < i then m else i) ≤ y
    dsimp only
    by_cases c : leastI (j :: r) < i
    · rw [if_pos c]
      refine ⟨List.mem_cons_of_mem _ h1, fun y hy => ?_⟩
      rcases List.mem_cons.mp hy with z | z
      · omega
      · exact h2 y z
    · rw [if_neg c]
      refine ⟨List.mem_cons_self, fun y hy => ?_⟩
      rcases List.mem_cons.mp hy with z | z
      · omega
      · have := h2 y z; omega
theorem greatI_mem : ∀ {ns : List Int}, ns ≠ [] → greatI ns ∈ ns ∧ ∀ y ∈ ns, y ≤ greatI ns
  | [], h => absurd rfl h
  | [i], _ => by simp [greatI]
  | i :: j :: r, _ => by
    obtain ⟨h1, h2⟩ := greatI_mem (ns := j :: r) (by simp)
    show (let m := greatI (j :: r); if i < m then m else i) ∈ i :: j :: r ∧ ∀ y ∈ i :: j :: r, y ≤ (let m := greatI (j :: r); if i < m then m else i)
    dsimp only
    by_cases c : i < greatI (j :: r)
    · rw [if_pos c]
      refine ⟨List.mem_cons_of_mem _ h1, fun y hy => ?_⟩
      rcases List.mem_cons.mp hy with z | z
      · omega
      · exact h2 y z
    · rw [if_neg c]
      refine ⟨List.mem_cons_self, fun y hy => ?_⟩
      rcases List.mem_cons.mp hy with z | z
      · omega
      · have := h2 y z; omega
/-! ## calls of built-ins by values -/
def bM (f : List D → HS → R D) (K : PySem.W.Frag) : List V → Hp → VK → Prop := fun vs H Q => ∃ ι h xs, RelH K ι h H ∧ RpL K ι H xs vs ∧ PostE ωF K ι H (f xs h) Q
theorem CallR.imp {X : Cx} {f : Value} {r r' : List V → Hp → VK → Prop} (h : CallR X f r) (i : ∀ x H Q, r' x H Q → r x H Q) : CallR X f r' :=
  fun pins s σ H x us Q I rx q => h pins s σ H x us Q I rx (i x H Q q)
section
variable {K : PySem.W.Frag} {ι : List Addr} {H : Hp} {h : HS} {Q : VK}
theorem RpL.one {x : D} {vs : List V} (r : RpL K ι H [x] vs) : ∃ v, vs = [v] ∧ Rp K ι H x v := by
  cases r with
  | cons r s => cases s; exact ⟨_, rfl, r⟩
theorem RpL.two {x y : D} {vs : List V} (r : RpL K ι H [x, y] vs) : ∃ v w, vs = [v, w] ∧ Rp K ι H x v ∧ Rp K ι H y w := by
  cases r with
  | cons r s =>
    obtain ⟨w, rfl, r2⟩ := s.one
    exact ⟨_, w, rfl, r, r2⟩
/-- a function of one list that the walk has made or been given -/
theorem lst_arg {vs : List V} {n : Nat} {F : List D → R D} (r : RpL K ι H [D.ref n] vs) (rh : RelH K ι h H) (q : PostE ωF K ι H (match h[n]? with | some (.lst xs) => F xs | _ => .bad) Q) :
    ∃ a xs ws, vs = [.ref a] ∧ h[n]? = some (.lst xs) ∧ H a = some (.lst ws) ∧ RpL K ι H xs ws ∧ PostE ωF K ι H (F xs) Q := by
  obtain ⟨v, rfl, rv⟩ := r.one
  cases hc : h[n]? with
  | none => rw [hc] at q; exact q.elim
  | some c =>
    rw [hc] at q
    cases c with
    | lst xs =>
      obtain ⟨a, ws, rfl, _, e1, r1⟩ := rv.lstOf rh hc
      exact ⟨a, xs, ws, rfl, rfl, e1, r1, q⟩
    | _ => exact q.elim
theorem items_arg {x : D} {vs : List V} {F : List D → R D} (r : RpL K ι H [x] vs) (rh : RelH K ι h H) (q : PostE ωF K ι H (match itemsD h x with | some ys => F ys | none => .bad) Q) :
    ∃ a xs ws, vs = [.ref a] ∧ (SqL K H a ws ∨ SqT K H a ws) ∧ RpL K ι H xs ws ∧ PostE ωF K ι H (F xs) Q := by
  obtain ⟨v, rfl, rv⟩ := r.one
  cases hc : itemsD h x with
  | none => rw [hc] at q; exact q.elim
  | some ys =>
    rw [hc] at q
    obtain ⟨a, ws, rfl, s, r1⟩ := rv.itemsOf rh hc
    exact ⟨a, ys, ws, rfl, s, r1, q⟩
theorem ints_arg {ys : List D} {ws : List V} {F : List Int → R D} (r : RpL K ι H ys ws) (q : PostE ωF K ι H (match intsD ys with | some ns => F ns | none => .bad) Q) : ∃ ns, ws = ns.map V.int ∧ PostE ωF K ι H (F ns) Q := by
  cases hc : intsD ys with
  | none => rw [hc] at q; exact q.elim
  | some ns => rw [hc] at q; exact ⟨ns, (r.intsD hc).1, q⟩
end
section
variable {X : Cx}
theorem b_any (hc : X.calm = true) : CallR X (.builtin "any") (bM (biF .any) X.K) := by
  refine CallR.imp (cr_any hc) ?_
  rintro vs H Q ⟨ι, h, xs, rh, r, q⟩
  match xs, r, q with
  | [.ref n], r, q =>
    obtain ⟨a, ys, ws, rfl, _, e1, r1, q⟩ := lst_arg r rh q
    cases hb : blsD ys with
    | none => simp only [hb] at q; exact q.elim
    | some bs =>
      simp only [hb] at q
      exact ⟨a, bs, rfl, by rw [← r1.blsD hb]; exact SqL.of e1, q.val rh (.bl _)⟩
theorem b_all (hc : X.calm = true) : CallR X (.builtin "all") (bM (biF .all) X.K) := by
  refine CallR.imp (cr_all hc) ?_
  rintro vs H Q ⟨ι, h, xs, rh, r, q⟩
  match xs, r, q with
  | [.ref n], r, q =>
    obtain ⟨a, ys, ws, rfl, _, e1, r1, q⟩ := lst_arg r rh q
    cases hb : blsD ys with
    | none => simp only [hb] at q; exact q.elim
    | some bs =>
      simp only [hb] at q
      exact ⟨a, bs, rfl, by rw [← r1.blsD hb]; exact SqL.of e1, q.val rh (.bl _)⟩
theorem itemsD_ref {h : HS} {n : Nat} {ys : List D} (e : itemsD h (.ref n) = some ys) : h[n]? = some (.lst ys) := by
  simp only [itemsD] at e
  cases hh : h[n]? with
  | none => rw [hh] at e; cases e
  | some c =>
    rw [hh] at e
    cases c with
    | lst zs => cases e; rfl
    | _ => cases e
theorem b_sum (hc : X.calm = true) : CallR X (.builtin "sum") (bM (biF .sum) X.K) := by
  refine CallR.imp (cr_sum hc) ?_
  rintro vs H Q ⟨ι, h, xs, rh, r, q⟩
  match xs, r, q with
  | [.ref n], r, q =>
    obtain ⟨a, ys, ws, rfl, _, e1, r1, q⟩ := lst_arg r rh q
    obtain ⟨ns, rfl, q⟩ := ints_arg r1 q
    exact ⟨a, ns, rfl, SqL.of e1, q.val rh (.int _)⟩
theorem nonE {K : PySem.W.Frag} {ι : List Addr} {H : Hp} {Q : VK} {ns : List Int} {r : R D} (q : PostE ωF K ι H (if ns.isEmpty = true then .bad else r) Q) : ns ≠ [] ∧ PostE ωF K ι H r Q := by
  cases ns with
  | nil => exact q.elim
  | cons a b => exact ⟨by simp, q⟩
theorem b_min (hc : X.calm = true) : CallR X (.builtin "min") (bM (biF .min) X.K) := by
  refine CallR.imp (L2.CallR.or (call_min2 hc) (cr_min hc)) ?_
  rintro vs H Q ⟨ι, h, xs, rh, r, q⟩
  match xs, r, q with
  | [.int i, .int j], r, q =>
    obtain ⟨v, w, rfl, r1, r2⟩ := r.two
    cases r1; cases r2
    exact .inl ⟨i, j, rfl, PostE.val (K := X.K) (h := h) q rh (.int _)⟩
  | [.ref n], r, q =>
    obtain ⟨a, ys, ws, rfl, _, e1, r1, q⟩ := lst_arg r rh q
    obtain ⟨ns, rfl, q⟩ := ints_arg r1 q
    obtain ⟨ne, q⟩ := nonE q
    refine .inr ⟨a, ns, rfl, SqL.of e1, List.length_pos_iff.mpr ne, fun m hm hle => ?_⟩
    obtain ⟨g1, g2⟩ := leastI_mem ne
    have e : m = leastI ns := by
      have := hle _ g1; have := g2 _ hm; omega
    rw [e]; exact q.val rh (.int _)
theorem b_max (hc : X.calm = true) : CallR X (.builtin "max") (bM (biF .max) X.K) := by
  refine CallR.imp (L2.CallR.or (call_max2 hc) (cr_max hc)) ?_
  rintro vs H Q ⟨ι, h, xs, rh, r, q⟩
  match xs, r, q with
  | [.int i, .int j], r, q =>
    obtain ⟨v, w, rfl, r1, r2⟩ := r.two
    cases r1; cases r2
    exact .inl ⟨i, j, rfl, PostE.val (K := X.K) (h := h) q rh (.int _)⟩
  | [.ref n], r, q =>
    obtain ⟨a, ys, ws, rfl, _, e1, r1, q⟩ := lst_arg r rh q
    obtain ⟨ns, rfl, q⟩ := ints_arg r1 q
    obtain ⟨ne, q⟩ := nonE q
    refine .inr ⟨a, ns, rfl, SqL.of e1, List.length_pos_iff.mpr ne, fun m hm hle => ?_⟩
    obtain ⟨g1, g2⟩ := greatI_mem ne
    have e : m = greatI ns := by
      have := hle _ g1; have := g2 _ hm; omega
    rw [e]; exact q.val rh (.int _)
theorem b_sorted : CallR X (.builtin "sorted") (bM (biF .sorted) X.K) := by
  refine CallR.imp (L2.CallR.or cr_sortedI MiS.cr_sortedIT) ?_
  rintro vs H Q ⟨ι, h, xs, rh, r, q⟩
  match xs, r, q with
  | [x], r, q =>
    obtain ⟨a, ys, ws, rfl, sq, r1, q⟩ := items_arg r rh q
    obtain ⟨ns, rfl, q⟩ := ints_arg r1 q
    obtain ⟨c, q⟩ := mkL_some q
    have fin : ∀ (ns' : List Int) (p : Addr), ns'.Perm ns → ns'.Pairwise (· ≤ ·) → H p = none → Q (.ref p) (upd H p (.lst (ns'.map V.int))) := fun ns' p hp hs np => by
      rw [srt_eq hp hs]; exact q.newL rh RpL.ints p np
    rcases sq with sq | sq
    · exact .inl ⟨a, ns, rfl, sq, fin⟩
    · exact .inr ⟨a, ns, rfl, sq, fin⟩
theorem b_list : CallR X (.type "list") (bM (biF .list) X.K) := by
  refine CallR.imp call_list_of ?_
  rintro vs H Q ⟨ι, h, xs, rh, r, q⟩
  match xs, r, q with
  | [x], r, q =>
    obtain ⟨a, ys, ws, rfl, sq, r1, q⟩ := items_arg r rh q
    obtain ⟨c, q⟩ := mkL_some q
    exact ⟨a, ws, rfl, sq, q.newL rh r1⟩
theorem b_tuple : CallR X (.type "tuple") (bM (biF .tuple) X.K) := by
  refine CallR.imp call_tupS ?_
  rintro vs H Q ⟨ι, h, xs, rh, r, q⟩
  match xs, r, q with
  | [x], r, q =>
    obtain ⟨v, rfl, rv⟩ := r.one
    cases rv with
    | tup sa r1 =>
      obtain ⟨c, q⟩ := mkT_some (K := X.K) q
      exact ⟨_, _, rfl, .inr ⟨sa.sq, q.val rh (.tup sa r1)⟩⟩
    | fz f =>
      obtain ⟨c, q⟩ := mkT_some (K := X.K) q
      exact ⟨_, _, rfl, .inl ⟨f.sq, q.newT rh RpL.ints⟩⟩
    | kt sa r1 => exact q.elim
    | @ref n a e =>
      have q : PostE ωF X.K ι H (match itemsD h (.ref n) with | some ys => mkT ys h | none => .bad) Q := q
      cases hc : itemsD h (.ref n) with
      | none => rw [hc] at q; exact q.elim
      | some ys =>
        rw [hc] at q
        obtain ⟨c, q⟩ := mkT_some (K := X.K) q
        obtain ⟨_, ws, z, _, e1, r1⟩ := (Rp.ref e : Rp X.K ι H _ _).lstOf rh (itemsD_ref hc)
        cases z
        exact ⟨_, _, rfl, .inl ⟨SqL.of e1, q.newT rh r1⟩⟩
    | non => exact q.elim
    | fn _ => exact q.elim
    | bl _ => exact q.elim
    | int _ => exact q.elim
    | str _ => exact q.elim
  | x :: y :: z, r, q => cases x <;> exact q.elim
theorem b_abs : CallR X (.builtin "abs") (bM (biF .abs) X.K) := by
  refine CallR.imp call_abs ?_
  rintro vs H Q ⟨ι, h, xs, rh, r, q⟩
  match xs, r, q with
  | [.int i], r, q =>
    obtain ⟨v, rfl, rv⟩ := r.one
    cases rv
    exact ⟨i, rfl, PostE.val (K := X.K) (h := h) q rh (.int _)⟩
theorem b_int : CallR X (.type "int") (bM (biF .int) X.K) := by
  refine CallR.imp call_int1 ?_
  rintro vs H Q ⟨ι, h, xs, rh, r, q⟩
  match xs, r, q with
  | [.int i], r, q =>
    obtain ⟨v, rfl, rv⟩ := r.one
    cases rv
    exact .inl ⟨i, rfl, PostE.val (K := X.K) (h := h) q rh (.int _)⟩
  | [.bl i], r, q =>
    obtain ⟨v, rfl, rv⟩ := r.one
    cases rv
    exact .inr ⟨i, rfl, PostE.val (K := X.K) (h := h) q rh (.int _)⟩
  | x :: y :: z, r, q => cases x <;> exact q.elim
theorem b_len : CallR X (.builtin "len") (bM (biF .len) X.K) := by
  intro pins s σ H vs us Q I rx hq
  obtain ⟨ι, h, xs, rh, r, q⟩ := hq
  match xs, r, q with
  | [x], r, q =>
    obtain ⟨v, rfl, rv⟩ := r.one
    cases rv with
    | str z =>
      have q : PostE ωF X.K ι H (if z.length ≤ LIM then .ok (.int z.length) h else .bad) Q := q
      by_cases c : z.length ≤ LIM
      · rw [if_pos c] at q
        exact call_len pins s σ H _ us Q I rx ⟨_, z.length, rfl, ⟨by rw [← LIM_line]; exact c, rfl⟩, q.val rh (.int _)⟩
      · rw [if_neg c] at q; exact q.elim
    | tup sa r1 =>
      have q : PostE ωF X.K ι H (.ok (.int _) h) Q := q
      exact call_len pins s σ H _ us Q I rx ⟨_, _, rfl, .inr ⟨_, sa.sq, rfl⟩, by have z := q.val rh (.int _); rw [r1.length] at z; exact z⟩
    | kt sa r1 =>
      have q : PostE ωF X.K ι H (.ok (.int _) h) Q := q
      exact call_len pins s σ H _ us Q I rx ⟨_, _, rfl, .inr ⟨_, sa.sq, rfl⟩, by have z := q.val rh (.int _); rw [r1.length] at z; exact z⟩
    | fz f =>
      have q : PostE ωF X.K ι H (.ok (.int _) h) Q := q
      exact call_len pins s σ H _ us Q I rx ⟨_, _, rfl, .inl ⟨_, f.sq, rfl⟩, by
        have := q.val rh (.int _)
        simpa using this⟩
    | @ref n a e =>
      simp only [biF] at q
      cases hc : h[n]? with
      | none => rw [hc] at q; exact q.elim
      | some c =>
        rw [hc] at q
        cases c with
        | lst ys =>
          obtain ⟨_, ws, z, _, e1, r1⟩ := (Rp.ref e : Rp X.K ι H _ _).lstOf rh hc
          cases z
          exact call_len pins s σ H _ us Q I rx ⟨_, _, rfl, .inl ⟨_, SqL.of e1, rfl⟩, by have z := q.val rh (.int _); rw [r1.length] at z; exact z⟩
        | dct kvs =>
          have q : PostE ωF X.K ι H (if ((kvs.all fun kv => keyD kv.1) || kvs.all fun kv => tkeyD kv.1) = true then .ok (.int kvs.length) h else .bad) Q := q
          by_cases c : (kvs.all fun kv => keyD kv.1) = true
          · rw [if_pos (by rw [c]; rfl)] at q
            obtain ⟨H', I', ex, rh', dk⟩ := dctFit (k := .int 0) I rh e hc (by unfold keyOk; rw [c]; rfl)
            rcases dk with ⟨ks, kk, e1, r1, _⟩ | ⟨_, _, _, _, _, e2⟩
            · have q3 := PostE.val (K := X.K) (q.shift ex rh'.mut) rh' (.int _)
              have eu := Vals.ref1 rx
              subst eu
              refine d_len I' (.inl e1) fun t s' I2 => ⟨.int ks.length, H', I2, ⟨t, rfl⟩, ?_⟩
              rw [← Paired.len r1]; exact q3
            · cases e2
          · by_cases c2 : (kvs.all fun kv => tkeyD kv.1) = true
            · rw [if_pos (by rw [c2, Bool.or_true])] at q
              obtain ⟨H', I', ex, rh', dk⟩ := dctFit (k := .tup []) I rh e hc (by unfold keyOk; rw [c2]; simp [tkeyD, intsD])
              rcases dk with ⟨_, _, _, _, e2⟩ | ⟨kas, kk, e1, hk, r1, _⟩
              · cases e2
              · have q3 := PostE.val (K := X.K) (q.shift ex rh'.mut) rh' (.int _)
                have eu := Vals.ref1 rx
                subst eu
                exact g_len I' e1 hk fun t s' I2 => ⟨.int kas.length, H', I2, ⟨t, rfl⟩, by rw [← Paired.len r1]; exact q3⟩
            · rw [if_neg (by simp [c, c2])] at q; exact q.elim
        | ins _ _ => exact q.elim
    | non => exact q.elim
    | fn _ => exact q.elim
    | bl _ => exact q.elim
    | int _ => exact q.elim
  | x :: y :: z, r, q => cases x <;> exact q.elim
end
end Mi

namespace Mi
open PySem PySem.Spec PyProof.Rows L2 HT
/-! ## t[::-1], t.index(x) -/
section
variable {prog : Program} {w : World} {A : Around} {E : Value → Shared → Prop} {s : Shared}
theorem places_rev (n : Nat) : Builtin.Slice.slicePlaces ((n : Int) - 1) (-1) (-1) = n := by
  unfold Builtin.Slice.slicePlaces
  rw [if_neg (by decide)]
  by_cases h : (n : Int) - 1 > -1
  · rw [if_pos h, show (-(-1) : Int) = 1 by decide, Int.ediv_one]; omega
  · rw [if_neg h]; omega
theorem sliceApplied_rev {sl : Addr} {vl vu vs : Value} {n : Nat} {Q : Int × Int × Nat → Shared → Prop} (hs : s.heap.IsSliceOf sl vl vu vs) (pl : IsPart vl none) (pu : IsPart vu none) (ps : IsPart vs (some (-1)))
    (h : Q ((n : Int) - 1, -1, n) s) : wpAny (model prog w) A (Builtin.Slice.sliceApplied (.ref sl) (pure (n : Int))) Q E s := by
  obtain ⟨os, hos, hcs, hds⟩ := id hs
  unfold Builtin.Slice.sliceApplied Builtin.Slice.sliceFields
  refine wpAny_bind (wpAny_bind (wpAny_field hos hds (x := vl) rfl (wpAny_bind (wpAny_field hos hds (x := vu) rfl (wpAny_bind (wpAny_field hos hds (x := vs) rfl (wpAny_pure ?_)))))))
  refine wpAny_bind (slicePart_ ps ?_)
  show wpAny _ _ (if ((-1 : Int) == 0) = true then _ else _) _ _ s
  rw [if_neg (by decide)]
  refine wpAny_bind (slicePart_ pl (wpAny_bind (slicePart_ pu (wpAny_bind (wpAny_pure ?_)))))
  show wpAny _ _ (pure ((n : Int) - 1, (-1 : Int), Builtin.Slice.slicePlaces ((n : Int) - 1) (-1) (-1))) _ _ s
  rw [places_rev]
  exact wpAny_pure h
theorem pick_rev (xs : Array Value) : ((List.range xs.size).filterMap fun (m : Nat) => xs[((xs.size : Int) - 1 + (m : Int) * -1).toNat]?).toArray = xs.toList.reverse.toArray := by
  have e : (fun (m : Nat) => xs[((xs.size : Int) - 1 + (m : Int) * -1).toNat]?) = (fun m => xs[m]?) ∘ fun m => xs.size - 1 - m := by
    funext m
    have : ((xs.size : Int) - 1 + (m : Int) * -1).toNat = xs.size - 1 - m := by omega
    simp only [Function.comp]
    rw [this]
  rw [e, ← List.filterMap_map, PySem.W.krv_range, List.filterMap_reverse, PySem.W.krv_all]
theorem getItem_tuple_rev {t sl : Addr} {items : Array Value} {vl vu vs : Value} {Q : Value → Shared → Prop} (ht : IsTup s.heap t items) (hs : s.heap.IsSliceOf sl vl vu vs) (pl : IsPart vl none) (pu : IsPart vu none) (ps : IsPart vs (some (-1)))
    (h : Q (.ref s.heap.objs.size) { s with heap := s.heap.push { cls := .type "tuple", data := .seq items.toList.reverse.toArray } })
    (hsz : items.size ≤ sizeLine) : wpAny (model prog w) A (getItem (.ref t) (.ref sl)) Q E s := by
  have htake : sizeOk (.seq items.toList.reverse.toArray) := by
    show items.toList.reverse.toArray.size ≤ sizeLine
    rw [List.size_toArray, List.length_reverse, Array.length_toList]
    exact hsz
  obtain ⟨os, hos, hcs, hds⟩ := id hs
  have hTs : s.TypeIs (.ref sl) "slice" := ⟨os, hos, hcs⟩
  unfold getItem
  try with_reducible refine wpAny_holding ?_
  first | refine wpAny_bind (wpAny_pure ?_) | skip
  refine wpAny_bind (wpAny_sequenceKey ht.typeIs (by decide) ?_)
  refine wpAny_bind (wpAny_callSpecial?_slot (name := Str.ofString "__getitem__") ht.typeIs PyProof.Rows.slot_tuple_getitem
    (wpAny_call_entry PyProof.Rows.slot_tuple_getitem ht.typeIs entry_tuple_getitem ?_ (args_tuple_getitem _ _)))
  show wpAny _ _ (Builtin.Tuple.tupleItemsOf (.ref t) >>= _) _ _ s
  refine wpAny_bind (tupleItemsOf_ ht ?_)
  refine wpAny_bind (wpAny_typeOf hTs ?_)
  rw [if_pos (by decide)]
  refine wpAny_bind (sliceApplied_rev hs pl pu ps ?_)
  have hno : ¬ (((items.size : Int) - 1 == 0 && (-1 : Int) == 1 && items.size == items.size) = true) := by simp
  show wpAny _ _ (if ((items.size : Int) - 1 == 0 && (-1 : Int) == 1 && items.size == items.size) = true then _ else _) _ _ s
  rw [if_neg hno, pick_rev]
  first
    | exact wpAny_bind (m := Builtin.Tuple.tupleExact _) (wpAny_newObj_type (wpAny_pure ⟨_, rfl, wpAny_pure h⟩) htake)
    | exact wpAny_bind (m := Builtin.Tuple.tupleExact _) (wpAny_newObj_type (wpAny_bind (wpAny_pure (wpAny_pure ⟨_, rfl, wpAny_pure h⟩))) htake)
    | exact wpAny_bind (wpAny_bind (m := Builtin.Tuple.tupleExact _) (wpAny_newObj_type (wpAny_pure (wpAny_pure ⟨_, rfl, wpAny_pure h⟩)) htake))
    | exact wpAny_bind (wpAny_bind (m := Builtin.Tuple.tupleExact _) (wpAny_newObj_type (wpAny_pure ⟨_, rfl, wpAny_pure h⟩) htake))
end
section
variable {X : Cx}
/-- x[::-1], x a list or a tuple -/
def tRevA (K : PySem.W.Frag) (te : TE) : TE := fun σ H Q => te σ H fun x H1 => ∃ a xs, x = .ref a ∧ ((SqL K H1 a xs ∧ ∀ p, H1 p = none → Q (.ref p) (upd H1 p (.lst xs.reverse))) ∨ (SqT K H1 a xs ∧ NewT H1 xs.reverse Q))
theorem pe_revA {e : Expr} {te : TE} {k : Nat} {p1 p2 p3 pos : Pos} (he : PE X e te) : PE X (.Subscript e (.Slice none none (some (.UnaryOp .USub (.Constant (.int 1) k p1) p2)) p3) pos) (tRevA X.K te) := by
  refine ⟨fun pins s σ H Q I h => ?_⟩
  refine Subscript_ (thn (he.run pins s σ H _ I h) fun v s1 ⟨x, H1, I1, r1, q1⟩ => ?_)
  obtain ⟨a, xs, ex, hq⟩ := q1
  subst ex
  cases r1
  have hst : PO X (some (.UnaryOp .USub (.Constant (.int 1) k p1) p2)) (tPart (tUn (rU fun i => .int (-i)) (tC (.int 1)))) := po_some (pe_un un_neg pe_int)
  refine wpAny_Slice (thn (po_none.run pins s1 σ H1 (fun o H2 => o = none ∧ H2 = H1) I1 ⟨rfl, rfl⟩) fun vl s2 ⟨l, H2, I2, pl, el, e2⟩ => ?_)
  subst el e2
  refine thn (po_none.run pins s2 σ H2 (fun o H3 => o = none ∧ H3 = H2) I2 ⟨rfl, rfl⟩) fun vu s3 ⟨u, H3, I3, pu, eu, e3⟩ => ?_
  subst eu e3
  refine thn (hst.run pins s3 σ H3 (fun o H4 => o = some (-1) ∧ H4 = H3) I3 ⟨1, rfl, -1, rfl, rfl, rfl⟩) fun vs s4 ⟨o, H4, I4, ps, eo, e4⟩ => ?_
  subst eo e4
  have I5 : Inv X pins σ H4 { s4 with heap := s4.heap.push { cls := .type "slice", data := .fields #[vl, vu, vs] } } := I4.kept (t' := s4.toks) fun b ob q => Heap.get?_push_of_some _ q
  rcases hq with ⟨hx, q⟩ | ⟨hx, q⟩
  · obtain ⟨its, r, ht, hz⟩ := I5.list hx
    have hlen := r.length
    show wpAny (model X.prog X.w) X.A (subscriptTail e (.Slice none none (some (.UnaryOp .USub (.Constant (.int 1) k p1) p2)) p3) (.ref a) (.ref s4.heap.objs.size)) (EP X pins σ Q) X.xe { s4 with heap := s4.heap.push { cls := .type "slice", data := .fields #[vl, vu, vs] } }
    refine tail_any (ops := [.ref a, .ref s4.heap.objs.size]) ht.isList.typeIs (PySem.slot_list_getitem.lookup) ?_ (by with_unfolding_all rfl)
    refine wpAny_getItem_list_slice ht.isList (Heap.IsSliceOf.new _ vl vu vs) pl pu ps (by decide) ?_ (by rw [List.size_toArray]; omega)
    rw [PySem.W.krv_pick]
    refine ⟨.ref _, _, I5.laid (t' := s4.toks) (o := .lst xs.reverse) (fun b ob q => Heap.get?_push_of_some _ q) (Nat.le_refl _) ?_, rfl, q _ (I5.hok.fresh (Nat.le_refl _))⟩
    exact ⟨by rw [List.length_reverse]; exact hz, _, 0, r.reverse, Heap.get?_push_size _ rfl⟩
  · obtain ⟨its, r, ht, hz⟩ := I5.tuple hx
    have hlen := r.length
    show wpAny (model X.prog X.w) X.A (subscriptTail e (.Slice none none (some (.UnaryOp .USub (.Constant (.int 1) k p1) p2)) p3) (.ref a) (.ref s4.heap.objs.size)) (EP X pins σ Q) X.xe { s4 with heap := s4.heap.push { cls := .type "slice", data := .fields #[vl, vu, vs] } }
    refine tail_any (ops := [.ref a, .ref s4.heap.objs.size]) ht.typeIs (PyProof.Rows.slot_tuple_getitem.lookup) ?_ (by with_unfolding_all rfl)
    refine getItem_tuple_rev ht (Heap.IsSliceOf.new _ vl vu vs) pl pu ps ?_ (by rw [List.size_toArray]; omega)
    exact NewT.lay (s := s4) (t' := s4.toks) I5 (by simpa using r.reverse) (by rw [List.length_reverse]; exact hz) q
theorem mt_tup_indexI : MtR X "tuple.index" (fun x xs H Q => ∃ p, ∃ ns : List Int, ∃ k, x = .ref p ∧ xs = [.int k] ∧ SqT X.K H p (ns.map V.int) ∧ k ∈ ns ∧ Q (.int (ns.idxOf k : Nat)) H) := by
  intro pins s σ H x xs v us Q I rx rs h
  obtain ⟨p, ns, k, rfl, rfl, hq, hk, q⟩ := h
  cases rx
  obtain ⟨u, rfl, t, rfl⟩ := vals1 rs
  obtain ⟨its, r, pl, hz⟩ := I.tuple hq
  obtain ⟨o, ho, hc, hd⟩ := pl
  exact SeqAt.tuple_index_ints ⟨o, ho, hc, hd⟩ (intsAre_of r) hk ⟨.int (ns.idxOf k : Nat), H, I.tok _, ⟨_, rfl⟩, q⟩
theorem mt_lst_indexI : MtR X "list.index" (fun x xs H Q => ∃ p, ∃ ns : List Int, ∃ k, x = .ref p ∧ xs = [.int k] ∧ SqL X.K H p (ns.map V.int) ∧ k ∈ ns ∧ Q (.int (ns.idxOf k : Nat)) H) := by
  intro pins s σ H x xs v us Q I rx rs h
  obtain ⟨p, ns, k, rfl, rfl, hq, hk, q⟩ := h
  cases rx
  obtain ⟨u, rfl, t, rfl⟩ := vals1 rs
  obtain ⟨its, r, pl, hz⟩ := I.list hq
  have hl := r.length
  rw [List.length_map] at hl
  rw [List.length_map] at hz
  exact SeqAt.list_index_ints pl.isList (intsAre_of r) hz hk ⟨.int (ns.idxOf k : Nat), H, I.tok _, ⟨_, rfl⟩, q⟩
end
end Mi

namespace Mi
open PySem L2
/-! ## methods by values -/
section
variable {X : Cx}
def mM (m : Me) (K : PySem.W.Frag) : V → List V → Hp → VK → Prop := fun x vs H Q => ∃ ι h a xs, RelH K ι h H ∧ Rp K ι H a x ∧ RpL K ι H xs vs ∧ PostE ωF K ι H (meF m a xs h) Q
theorem MtR.imp {id : String} {r r' : V → List V → Hp → VK → Prop} (h : MtR X id r) (i : ∀ x vs H Q, r' x vs H Q → r x vs H Q) : MtR X id r' :=
  fun pins s σ H x xs v us Q I rx rs q => h pins s σ H x xs v us Q I rx rs (i x xs H Q q)
theorem me_lst {K : PySem.W.Frag} {ι : List Addr} {H : Hp} {h : HS} {Q : VK} {a : D} {x : V} {m : Me} {xs : List D} (hm : ∀ kvs xs h, dctMe m kvs xs h = .bad) (ht : ∀ ys, a = .tup ys → meF m (.tup ys) xs h = .bad) (q : PostE ωF K ι H (meF m a xs h) Q) (ra : Rp K ι H a x) (rh : RelH K ι h H) :
    ∃ n p ys ws, a = .ref n ∧ x = .ref p ∧ ι[n]? = some p ∧ h[n]? = some (.lst ys) ∧ H p = some (.lst ws) ∧ RpL K ι H ys ws ∧ PostE ωF K ι H (lstMe m n ys xs h) Q := by
  cases ra with
  | @ref n p e =>
    unfold meF at q
    cases hc : h[n]? with
    | none => simp only [hc] at q; exact q.elim
    | some c =>
      cases c with
      | lst ys =>
        simp only [hc] at q
        obtain ⟨_, ws, z, _, e1, r1⟩ := (Rp.ref e : Rp K ι H _ _).lstOf rh hc
        cases z
        exact ⟨n, p, ys, ws, rfl, rfl, e, hc, e1, r1, q⟩
      | dct kvs => simp only [hc, hm] at q; exact q.elim
      | ins _ _ => simp only [hc] at q; exact q.elim
  | tup sa r => rw [ht _ rfl] at q; exact q.elim
  | _ => exact q.elim
theorem m_get (hu : X.A.units + 64 < cLine) : MtR X "dict.get" (mM .get X.K) := by
  intro pins s σ H x vs v us Q I rx rs hq
  obtain ⟨ι, h, a, xs, rh, ra, ry, q⟩ := hq
  cases ra with
  | @ref n p er =>
    unfold meF at q
    cases hc : h[n]? with
    | none => simp only [hc] at q; exact q.elim
    | some c =>
      cases c with
      | dct kvs =>
        simp only [hc] at q
        cases rx
        have key : ∀ (k : D) (y : V) (u : Value), Rp X.K ι H k y → RelV y u → keyOk kvs k = true → ∀ (d : D) (z : V) (w : Value), Rp X.K ι H d z → RelV z w → PostE ωF X.K ι H (.ok ((getK kvs k).getD d) h) Q →
            ∃ H' o, Inv X pins σ H' s ∧ GetS H' p y o ∧ Q (o.getD z) H' := fun k y u rk ru c d z w rd rw' q => by
          obtain ⟨H', I', ex, rh', dk⟩ := dctFit I rh er hc c
          obtain ⟨o, g, ro⟩ := dk.get (rk.ext ex rh.mut)
          refine ⟨H', o, I', g, q ι _ H' ex rh' ?_⟩
          cases eg : getK kvs k with
          | none => rw [eg] at ro; cases o with
            | none => exact rd.ext ex rh.mut
            | some _ => exact ro.elim
          | some g => rw [eg] at ro; cases o with
            | none => exact ro.elim
            | some _ => exact ro
        match xs, ry, q with
        | [k], ry, q =>
          obtain ⟨y, rfl, rk⟩ := ry.one
          cases rs with
          | @cons _ u _ _ ru rr =>
            cases rr
            have q : PostE ωF X.K ι H (if keyOk kvs k = true then .ok ((getK kvs k).getD .non) h else .bad) Q := q
            by_cases c : keyOk kvs k = true
            · rw [if_pos c] at q
              obtain ⟨H', o, I', g, q'⟩ := key k y u rk ru c .non .non .none .non rfl q
              exact g_get1 (by omega) I' g ru fun w' s' I2 rw' => ⟨_, H', I2, rw', q'⟩
            · rw [if_neg c] at q; exact q.elim
        | [k, d], .cons rk (.cons rd .nil), q =>
          cases rs with
          | @cons _ u _ _ ru rr =>
            cases rr with
            | @cons _ u2 _ _ ru2 rr2 =>
              cases rr2
              have q : PostE ωF X.K ι H (if keyOk kvs k = true then .ok ((getK kvs k).getD d) h else .bad) Q := q
              by_cases c : keyOk kvs k = true
              · rw [if_pos c] at q
                obtain ⟨H', o, I', g, q'⟩ := key k _ u rk ru c d _ u2 rd ru2 q
                exact g_get2 (by omega) I' g ru ru2 fun w' s' I2 rw' => ⟨_, H', I2, rw', q'⟩
              · rw [if_neg c] at q; exact q.elim
        | [], _, q => exact q.elim
        | _ :: _ :: _ :: _, _, q => exact q.elim
      | lst ys =>
        simp only [hc] at q
        match xs, q with
        | [], q => exact q.elim
        | _ :: _, q => exact q.elim
      | ins _ _ => simp only [hc] at q; exact q.elim
  | _ => exact q.elim
theorem m_append : MtR X "list.append" (mM .append X.K) := by
  refine MtR.imp mt_append ?_
  rintro x vs H Q ⟨ι, h, a, xs, rh, ra, rx, q⟩
  obtain ⟨n, p, ys, ws, rfl, rfl, en, hc, e1, r1, q⟩ := me_lst (fun _ _ _ => rfl) (fun _ _ => rfl) q ra rh
  match xs, rx, q with
  | [y], rx, q =>
    obtain ⟨w, rfl, ry⟩ := rx.one
    have q : PostE ωF X.K ι H (if ys.length < LIM then .ok .non (h.set n (.lst (ys ++ [y]))) else .bad) Q := q
    by_cases c : ys.length < LIM
    · rw [if_pos c] at q
      exact ⟨p, ws, w, rfl, rfl, e1, by rw [← LIM_line, ← r1.length]; exact c, q.setL rh en (r1.append (.cons ry .nil)) .non⟩
    · rw [if_neg c] at q; exact q.elim
theorem m_extend : MtR X "list.extend" (mM .extend X.K) := by
  refine MtR.imp mt_extend ?_
  rintro x vs H Q ⟨ι, h, a, xs, rh, ra, rx, q⟩
  obtain ⟨n, p, ys, ws, rfl, rfl, en, hc, e1, r1, q⟩ := me_lst (fun _ _ _ => rfl) (fun _ _ => rfl) q ra rh
  match xs, rx, q with
  | [y], rx, q =>
    obtain ⟨w, rfl, ry⟩ := rx.one
    cases ry with
    | @ref b pb eb =>
      simp only [lstMe] at q
      cases hb : h[b]? with
      | none => simp only [hb] at q; exact q.elim
      | some c =>
        cases c with
        | lst zs =>
          simp only [hb] at q
          obtain ⟨_, us, z, _, e2, r2⟩ := (Rp.ref eb : Rp X.K ι H _ _).lstOf rh hb
          cases z
          by_cases c : ys.length + zs.length ≤ LIM
          · rw [if_pos c] at q
            exact ⟨p, pb, ws, us, rfl, rfl, e1, e2, by rw [← LIM_line, ← r1.length, ← r2.length]; exact c, q.setL rh en (r1.append r2) .non⟩
          · rw [if_neg c] at q; exact q.elim
        | _ => simp only [hb] at q; exact q.elim
    | _ => exact q.elim
  | x :: y :: z, rx, q => cases x <;> exact q.elim
def mIdxL (K : PySem.W.Frag) : V → List V → Hp → VK → Prop := fun x vs H Q => ∃ ι h n xs, RelH K ι h H ∧ Rp K ι H (.ref n) x ∧ RpL K ι H xs vs ∧ PostE ωF K ι H (meF .index (.ref n) xs h) Q
def mIdxT (K : PySem.W.Frag) : V → List V → Hp → VK → Prop := fun x vs H Q => ∃ ι h ys xs, RelH K ι h H ∧ Rp K ι H (.tup ys) x ∧ RpL K ι H xs vs ∧ PostE ωF K ι H (meF .index (.tup ys) xs h) Q
theorem idx_ok {K : PySem.W.Frag} {ι : List Addr} {H : Hp} {h : HS} {ys xs : List D} {ws vs : List V} {Q : VK} (rh : RelH K ι h H) (r1 : RpL K ι H ys ws) (rx : RpL K ι H xs vs) (q : PostE ωF K ι H (idxF ys xs h) Q) :
    ∃ ns : List Int, ∃ k, vs = [.int k] ∧ ws = ns.map V.int ∧ k ∈ ns ∧ Q (.int (ns.idxOf k : Nat)) H := by
  unfold idxF at q
  cases e : intsD ys with
  | none => simp only [e] at q; exact q.elim
  | some ns =>
    simp only [e] at q
    split at q
    · rename_i ns1 k en1
      cases en1
      by_cases c : ns.contains k = true
      · rw [if_pos c] at q
        cases rx with
        | cons r t =>
          cases r; cases t
          exact ⟨ns, k, rfl, (RpL.intsD r1 e).1, by simpa using c, q.val rh (.int _)⟩
      · rw [if_neg c] at q; exact q.elim
    · exact q.elim
theorem m_index : MtR X "list.index" (mIdxL X.K) := by
  refine MtR.imp mt_lst_indexI ?_
  rintro x vs H Q ⟨ι, h, a, xs, rh, ra, rx, q⟩
  obtain ⟨n, p, ys, ws, e0, rfl, en, hc, e1, r1, q⟩ := me_lst (fun _ _ _ => rfl) (fun _ e => by cases e) q ra rh
  obtain ⟨ns, k, e2, e3, hk, q⟩ := idx_ok rh r1 rx q
  subst e3
  exact ⟨p, ns, k, rfl, e2, SqL.of e1, hk, q⟩
theorem m_indexT : MtR X "tuple.index" (mIdxT X.K) := by
  refine MtR.imp mt_tup_indexI ?_
  rintro x vs H Q ⟨ι, h, ys, xs, rh, ra, rx, q⟩
  cases ra with
  | tup sa r1 =>
    obtain ⟨ns, k, e2, e3, hk, q⟩ := idx_ok rh r1 rx q
    subst e3
    exact ⟨_, ns, k, rfl, e2, sa.sq, hk, q⟩
theorem m_pop : MtR X "list.pop" (mM .pop X.K) := by
  refine MtR.imp (L2.MtR.or mt_pop mt_popAt) ?_
  rintro x vs H Q ⟨ι, h, a, xs, rh, ra, rx, q⟩
  obtain ⟨n, p, ys, ws, rfl, rfl, en, hc, e1, r1, q⟩ := me_lst (fun _ _ _ => rfl) (fun _ _ => rfl) q ra rh
  match xs, rx, q with
  | [], rx, q =>
    cases rx
    have q : PostE ωF X.K ι H (match ys[ys.length - 1]? with | some y => .ok y (h.set n (.lst ys.dropLast)) | none => .bad) Q := q
    cases hy : ys[ys.length - 1]? with
    | none => rw [hy] at q; exact q.elim
    | some y =>
      rw [hy] at q
      obtain ⟨w, ew, rw'⟩ := r1.get hy
      exact .inl ⟨p, ws, w, rfl, rfl, e1, by rw [← r1.length]; exact ew, PostE.setL (K := X.K) q rh en r1.dropLast rw'⟩
  | [.int i], rx, q =>
    obtain ⟨w, rfl, ry⟩ := rx.one
    cases ry
    have q : PostE ωF X.K ι H (if (decide (-(2 ^ 63) ≤ i) && decide (i < 2 ^ 63)) = true then (match ixN ys.length i with
          | some k => match ys[k]? with
            | some y => .ok y (h.set n (.lst (ys.eraseIdx k)))
            | none => .bad
          | none => .bad)
        else .bad) Q := q
    by_cases c : (decide (-(2 ^ 63) ≤ i) && decide (i < 2 ^ 63)) = true
    · rw [if_pos c] at q
      rw [Bool.and_eq_true, decide_eq_true_eq, decide_eq_true_eq] at c
      cases hk : ixN ys.length i with
      | none => simp only [hk] at q; exact q.elim
      | some k =>
        simp only [hk] at q
        cases hy : ys[k]? with
        | none => simp only [hy] at q; exact q.elim
        | some y =>
          simp only [hy] at q
          obtain ⟨w, ew, rw'⟩ := r1.get hy
          refine .inr ⟨p, ws, i, k, w, rfl, rfl, e1, c.1, c.2, ?_, ew, q.setL rh en (r1.eraseIdx k) rw'⟩
          rw [← r1.length]; exact (ixN_seq hk).1
    · rw [if_neg c] at q; exact q.elim
  | x :: y :: z, rx, q => cases x <;> exact q.elim
/-! ## truth -/
theorem t_tru : TruR X (fun x H Q => ∃ ι h a k, RelH X.K ι h H ∧ Rp X.K ι H a x ∧ truD h a = some k ∧ Q k H) := by
  intro pins s σ H x v Q I rx hq
  obtain ⟨ι, h, a, k, rh, ra, e, q⟩ := hq
  refine tru_ok pins s σ H x v Q I rx ⟨k, ?_, q⟩
  cases ra with
  | non => cases e; rfl
  | fn _ => cases e
  | bl b => cases e; rfl
  | int i => cases e; rfl
  | str z =>
    have e : (if z.length ≤ LIM then some ((z.length : Int) != 0) else none) = some k := e
    by_cases c : z.length ≤ LIM
    · rw [if_pos c] at e; cases e; exact ⟨by rw [← LIM_line]; exact c, rfl⟩
    · rw [if_neg c] at e; cases e
  | tup sa r =>
    cases e
    refine .inr (.inl ⟨_, sa.sq, ?_⟩)
    cases r <;> rfl
  | kt sa r =>
    cases e
    refine .inr (.inl ⟨_, sa.sq, ?_⟩)
    cases r <;> rfl
  | fz f =>
    cases e
    rename_i ns _
    refine .inl ⟨_, f.sq, ?_⟩
    cases ns <;> rfl
  | @ref n p er =>
    simp only [truD] at e
    cases hc : h[n]? with
    | none => rw [hc] at e; cases e
    | some c =>
      rw [hc] at e
      cases c with
      | lst ys =>
        obtain ⟨_, ws, z, _, e1, r1⟩ := (Rp.ref er : Rp X.K ι H _ _).lstOf rh hc
        cases z
        cases e
        refine .inl ⟨_, SqL.of e1, ?_⟩
        cases r1 <;> rfl
      | _ => cases e
/-! ## isinstance by values -/
def tyS : Ty → String
  | .int => "int" | .bool => "bool" | .tuple => "tuple" | .str => "str" | .list => "list"
theorem kt_all : ∀ a ∈ ["int", "bool", "tuple", "str", "list", "dict", "NoneType"], ∀ t : Ty, kitB a (tyS t) = some (a == tyS t || (a == "bool" && tyS t == "int")) := by
  intro a ha t
  simp only [List.mem_cons, List.not_mem_nil, or_false] at ha
  rcases ha with rfl | rfl | rfl | rfl | rfl | rfl | rfl <;> cases t <;> decide +kernel
end
end Mi

namespace Mi
open PySem L2
/-! ## expressions -/
structure RelE (K : PySem.W.Frag) (ι : List Addr) (δ : En) (h : HS) (σ : St) (H : Hp) : Prop where
  rel : RelH K ι h H
  len : δ.length = σ.length
  env : ∀ (i : Nat) (d : D), δ[i]? = some (some d) → ∃ v, σ[i]? = some (some v) ∧ Rp K ι H d v
theorem RelE.ext {K : PySem.W.Frag} {ι ι1 : List Addr} {δ : En} {h h1 : HS} {σ : St} {H H1 : Hp} (re : RelE K ι δ h σ H) (e : Ext ι H ι1 H1) (r : RelH K ι1 h1 H1) : RelE K ι1 δ h1 σ H1 :=
  ⟨r, re.len, fun i d q => let ⟨v, e1, r1⟩ := re.env i d q; ⟨v, e1, r1.ext e re.rel.mut⟩⟩
/-- the names of the module, and what is wished about errors at the slots -/
structure XI where
  mg : Str → Option Value
  W : WX
/-- an error's fields -/
inductive FldR (K : PySem.W.Frag) (ι : List Addr) (H : Hp) : List (Str × D) → List (Str × V) → Prop
  | nil : FldR K ι H [] []
  | cons {f : Str} {d : D} {v : V} {r : List (Str × D)} {s : List (Str × V)} (h : Rp K ι H d v) (t : FldR K ι H r s) : FldR K ι H ((f, d) :: r) ((f, v) :: s)
def wX (mg : Str → Option Value) (E : XK) (K : PySem.W.Frag) : XWi := fun ι H c fs => ∀ cls dd fvs, mg c = some cls → H dd = some (.xd fvs) → FldR K ι H fs fvs → E cls (some dd) H
def XI.at (Z : XI) (K : PySem.W.Frag) (σ : St) : XWi := wX Z.mg (fun cls d H => Z.W cls d σ H) K
def tE (Z : XI) (K : PySem.W.Frag) (cl : Cl) (c : CE) : TE := fun σ H Q => ∃ ι δ h, RelE K ι δ h σ H ∧ PostE (Z.at K σ) K ι H (evalE cl c δ h) Q
def tB (Z : XI) (K : PySem.W.Frag) (cl : Cl) (c : CB) : TT := fun σ H Q => ∃ ι δ h, RelE K ι δ h σ H ∧ Post (Z.at K σ) (fun _ _ a b => a = b) K ι H (evalB cl c δ h) Q
def tL (Z : XI) (K : PySem.W.Frag) (cl : Cl) (c : CL) : TA := fun σ H Q => ∃ ι δ h, RelE K ι δ h σ H ∧ Post (Z.at K σ) (RpL K) K ι H (evalL cl c δ h) Q
def tO (Z : XI) (K : PySem.W.Frag) (cl : Cl) (c : CO) : TO := fun σ H Q => ∃ ι δ h, RelE K ι δ h σ H ∧ Post (Z.at K σ) (fun _ _ a b => a = b) K ι H (evalO cl c δ h) Q
/-! what never raises -/
theorem ofO_ne {α : Type} {o : Option α} {h h' : HS} {c : Str} {fs : List (Str × D)} : ofO o h ≠ .exc c fs h' := by cases o <;> (intro z; cases z)
theorem mkL_ne {xs : List D} {h h' : HS} {c : Str} {fs : List (Str × D)} : mkL xs h ≠ .exc c fs h' := by unfold mkL; split <;> (intro z; cases z)
theorem mkT_ne {xs : List D} {h h' : HS} {c : Str} {fs : List (Str × D)} : mkT xs h ≠ .exc c fs h' := by unfold mkT; split <;> (intro z; cases z)
theorem cmpR_ne {o : CmpOp} {x y : D} {h h' : HS} {c : Str} {fs : List (Str × D)} : cmpR o x y h ≠ .exc c fs h' := ofO_ne
theorem binF_ne {o : Operator} {x y : D} {h h' : HS} {c : Str} {fs : List (Str × D)} : binF o x y h ≠ .exc c fs h' := by
  unfold binF
  repeat' split
  all_goals first | (intro z; cases z; done) | exact mkT_ne | exact mkL_ne
theorem ixF_ne {x y : D} {h h' : HS} {c : Str} {fs : List (Str × D)} : ixF x y h ≠ .exc c fs h' := by
  unfold ixF
  repeat' split
  all_goals first | (intro z; cases z; done) | exact ofO_ne
theorem slF_ne {x : D} {l u : Option Int} {h h' : HS} {c : Str} {fs : List (Str × D)} : slF x l u h ≠ .exc c fs h' := by
  unfold slF
  repeat' split
  all_goals (intro z; cases z)
theorem biF_ne {b : Bi} {xs : List D} {h h' : HS} {c : Str} {fs : List (Str × D)} : biF b xs h ≠ .exc c fs h' := by
  unfold biF
  repeat' split
  all_goals first | (intro z; cases z; done) | exact mkL_ne | exact mkT_ne
theorem idxF_ne {ys xs : List D} {h h' : HS} {c : Str} {fs : List (Str × D)} : idxF ys xs h ≠ .exc c fs h' := by
  unfold idxF
  repeat' split
  all_goals (intro z; cases z)
theorem lstMe_ne {m : Me} {n : Nat} {ys xs : List D} {h h' : HS} {c : Str} {fs : List (Str × D)} : lstMe m n ys xs h ≠ .exc c fs h' := by
  unfold lstMe
  repeat' split
  all_goals first | exact idxF_ne | (intro z; cases z)
theorem dctMe_ne {m : Me} {ys : List (D × D)} {xs : List D} {h h' : HS} {c : Str} {fs : List (Str × D)} : dctMe m ys xs h ≠ .exc c fs h' := by
  unfold dctMe
  repeat' split
  all_goals (intro z; cases z)
theorem meF_ne {m : Me} {x : D} {xs : List D} {h h' : HS} {c : Str} {fs : List (Str × D)} : meF m x xs h ≠ .exc c fs h' := by
  unfold meF
  repeat' split
  all_goals first | exact lstMe_ne | exact dctMe_ne | exact idxF_ne | (intro z; cases z)
theorem augF_ne {o : Operator} {x y : D} {h h' : HS} {c : Str} {fs : List (Str × D)} : augF o x y h ≠ .exc c fs h' := by
  unfold augF
  repeat' split
  all_goals (intro z; cases z)
theorem setF_ne {x y v : D} {h h' : HS} {c : Str} {fs : List (Str × D)} : setF x y v h ≠ .exc c fs h' := by
  unfold setF
  repeat' split
  all_goals (intro z; cases z)
theorem dispF_ne {xs : List D} {h h' : HS} {c : Str} {fs : List (Str × D)} : dispF xs h ≠ .exc c fs h' := by
  unfold dispF dispK dispT
  repeat' split
  all_goals (intro z; cases z)
theorem ssetF_ne {x : D} {h h' : HS} {c : Str} {fs : List (Str × D)} : ssetF x h ≠ .exc c fs h' := by
  unfold ssetF
  repeat' split
  all_goals first | (intro z; cases z; done) | exact mkL_ne
theorem kixF_ne {kvs : List (Str × D)} {x : D} {h h' : HS} {c : Str} {fs : List (Str × D)} : kixF kvs x h ≠ .exc c fs h' := by
  unfold kixF
  split
  · exact ofO_ne
  · intro z; cases z
theorem walkD_ne {n : Nat} {x : D} {h h' : HS} {c : Str} {fs : List (Str × D)} : walkD n x h ≠ .exc c fs h' := by
  unfold walkD
  repeat' split
  all_goals (intro z; cases z)
section
variable {X : Cx} {Z : XI} {cl : Cl} {e a b c : Expr} {t t' : TE} {ca cb cc ce : CE} {pos : Pos}
theorem pe_imp (h : PE X e t) (i : ∀ σ H Q, t' σ H Q → t σ H Q) : PE X e t' := ⟨fun pins s σ H Q I q => h.run pins s σ H Q I (i σ H Q q)⟩
theorem pt_imp {t t' : TT} (h : PT X e t) (i : ∀ σ H Q, t' σ H Q → t σ H Q) : PT X e t' := ⟨fun pins s σ H Q I q => h.run pins s σ H Q I (i σ H Q q)⟩
theorem pa_imp {es : List Expr} {t t' : TA} (h : PA X es t) (i : ∀ σ H Q, t' σ H Q → t σ H Q) : PA X es t' := ⟨fun pos pins s σ H Q I q => h.run pos pins s σ H Q I (i σ H Q q)⟩
theorem po_imp {e : Option Expr} {t t' : TO} (h : PO X e t) (i : ∀ σ H Q, t' σ H Q → t σ H Q) : PO X e t' := ⟨fun pins s σ H Q I q => h.run pins s σ H Q I (i σ H Q q)⟩
section
variable {K : PySem.W.Frag} {ω : XWi} {ι : List Addr} {δ : En} {h : HS} {σ : St} {H : Hp} {α β : Type} {RR : List Addr → Hp → α → β → Prop} {Q : β → Hp → Prop}
/-- one evaluation, then the rest -/
theorem step_E {f : D → HS → R α} {R' : VK} (re : RelE K ι δ h σ H) (q : Post (Z.at K σ) RR K ι H ((evalE cl ce δ h).bind f) Q)
    (k : ∀ x h1 ι1 v H1, Ext ι H ι1 H1 → RelE K ι1 δ h1 σ H1 → Rp K ι1 H1 x v → Post (Z.at K σ) RR K ι1 H1 (f x h1) Q → R' v H1) : tE Z K cl ce σ H R' := by
  exact ⟨ι, δ, h, re, q.into fun x h1 q1 ι1 v H1 ex r1 rp => k x h1 ι1 v H1 ex (re.ext ex r1) rp (q1.shift ex r1.mut)⟩
theorem step_L {c : CL} {f : List D → HS → R α} {R' : List V → Hp → Prop} (re : RelE K ι δ h σ H) (q : Post (Z.at K σ) RR K ι H ((evalL cl c δ h).bind f) Q)
    (k : ∀ x h1 ι1 v H1, Ext ι H ι1 H1 → RelE K ι1 δ h1 σ H1 → RpL K ι1 H1 x v → Post (Z.at K σ) RR K ι1 H1 (f x h1) Q → R' v H1) : tL Z K cl c σ H R' := by
  exact ⟨ι, δ, h, re, q.into fun x h1 q1 ι1 v H1 ex r1 rp => k x h1 ι1 v H1 ex (re.ext ex r1) rp (q1.shift ex r1.mut)⟩
theorem step_B {c : CB} {f : Bool → HS → R α} {R' : Bool → Hp → Prop} (re : RelE K ι δ h σ H) (q : Post (Z.at K σ) RR K ι H ((evalB cl c δ h).bind f) Q)
    (k : ∀ x h1 ι1 H1, Ext ι H ι1 H1 → RelE K ι1 δ h1 σ H1 → Post (Z.at K σ) RR K ι1 H1 (f x h1) Q → R' x H1) : tB Z K cl c σ H R' := by
  refine ⟨ι, δ, h, re, q.into fun x h1 q1 ι1 v H1 ex r1 rp => ?_⟩
  subst rp
  exact k x h1 ι1 H1 ex (re.ext ex r1) (q1.shift ex r1.mut)
theorem step_O {c : CO} {f : Option Int → HS → R α} {R' : Option Int → Hp → Prop} (re : RelE K ι δ h σ H) (q : Post (Z.at K σ) RR K ι H ((evalO cl c δ h).bind f) Q)
    (k : ∀ x h1 ι1 H1, Ext ι H ι1 H1 → RelE K ι1 δ h1 σ H1 → Post (Z.at K σ) RR K ι1 H1 (f x h1) Q → R' x H1) : tO Z K cl c σ H R' := by
  refine ⟨ι, δ, h, re, q.into fun x h1 q1 ι1 v H1 ex r1 rp => ?_⟩
  subst rp
  exact k x h1 ι1 H1 ex (re.ext ex r1) (q1.shift ex r1.mut)
theorem Post.val {a : α} {b : β} (q : Post ω RR K ι H (.ok a h) Q) (r : RelH K ι h H) (rp : RR ι H a b) : Q b H := q ι b H Ext.refl r rp
theorem trE_ok {r : R D} {Q : VK} (re : RelE K ι δ h σ H) (q : PostE ω K ι H (r.tr h.length) Q) : PostE ω K ι H r Q := PostE.tr q re.rel.len
end
theorem p_var {i : Nat} {x : Str} (hN : X.N[i]? = some x) (hv : Vis X.env.scope x) (hd : (x == ("__debug__" : Str)) = false) (hcd : (x == ("__classdict__" : Str)) = false) : PE X (.Name x pos) (tE Z X.K cl (.var i)) := by
  refine pe_imp (pe_var hN hv hd hcd) ?_
  rintro σ H Q ⟨ι, δ, h, re, q⟩
  cases hi : δ[i]? with
  | none => simp only [evalE, hi] at q; exact q.elim
  | some o =>
    cases o with
    | none => simp only [evalE, hi] at q; exact q.elim
    | some d =>
      simp only [evalE, hi] at q
      obtain ⟨v, e1, rp⟩ := re.env i d hi
      exact ⟨v, e1, q.val re.rel rp⟩
theorem p_lit {d : D} {v : V} (h : PE X e (tC v)) (rp : ∀ ι H, Rp X.K ι H d v) : PE X e (tE Z X.K cl (.lit d)) := by
  refine pe_imp h ?_
  rintro σ H Q ⟨ι, δ, h, re, q⟩
  simp only [evalE] at q
  exact q.val re.rel (rp _ _)
theorem p_bin {o : Operator} (ho : opOk o = true) (ha : PE X a (tE Z X.K cl ca)) (hb : PE X b (tE Z X.K cl cb)) : PE X (.BinOp a o b pos) (tE Z X.K cl (.bin o ca cb)) := by
  refine pe_imp (pe_op (o_bin ho) ha hb) ?_
  rintro σ H Q ⟨ι, δ, h, re, q⟩
  simp only [evalE] at q
  exact step_E re (trE_ok re q) fun x h1 ι1 v H1 e1 r1 rx q => step_E r1 q fun y h2 ι2 w H2 e2 r2 ry q => ⟨ι2, h2, x, y, r2.rel, rx.ext e2 r1.rel.mut, ry, q.no fun _ _ _ => binF_ne⟩
theorem p_neg (ha : PE X a (tE Z X.K cl ca)) : PE X (.UnaryOp .USub a pos) (tE Z X.K cl (.neg ca)) := by
  refine pe_imp (pe_un un_neg ha) ?_
  rintro σ H Q ⟨ι, δ, h, re, q⟩
  simp only [evalE] at q
  refine step_E re q fun x h1 ι1 v H1 e1 r1 rx q => ?_
  cases rx <;> first | exact q.elim | skip
  exact ⟨_, rfl, q.val r1.rel (.int _)⟩
theorem p_cmp (hu : X.A.units + 64 < cLine) {o : CmpOp} (hm : behindInMarks o b = false) (ha : PE X a (tE Z X.K cl ca)) (hb : PE X b (tE Z X.K cl cb)) : PE X (.Compare a [o] [b] pos) (tE Z X.K cl (.cmp o ca cb)) := by
  refine pe_imp (pe_cmpR (c_cmp hu o) ha hb hm) ?_
  rintro σ H Q ⟨ι, δ, h, re, q⟩
  simp only [evalE] at q
  exact step_E re (trE_ok re q) fun x h1 ι1 v H1 e1 r1 rx q => step_E r1 q fun y h2 ι2 w H2 e2 r2 ry q => ⟨ι2, h2, x, y, r2.rel, rx.ext e2 r1.rel.mut, ry, q.no fun _ _ _ => cmpR_ne⟩
theorem cmpV {K : PySem.W.Frag} {ι : List Addr} {h : HS} {H : Hp} {o : CmpOp} {x y : D} {v w : V} {k : Bool} {Q : VK} (r : RelH K ι h H) (rx : Rp K ι H x v) (ry : Rp K ι H y w) (e : cmpF o x y h = some k) (q : ∀ ι1 H1, Ext ι H ι1 H1 → RelH K ι1 h H1 → Q (.bl k) H1) :
    rM (cmpR o) K v w H Q := by
  refine ⟨ι, h, x, y, r, rx, ry, ?_⟩
  unfold cmpR
  rw [e]
  intro ι1 v H1 ex r1 rp
  cases rp
  exact q ι1 H1 ex r1
theorem p_andv (ha : PE X a (tE Z X.K cl ca)) {rest : List Expr} (hb : PE X (.BoolOp .And (b :: rest) pos) (tE Z X.K cl cb)) : PE X (.BoolOp .And (a :: b :: rest) pos) (tE Z X.K cl (.andv ca cb)) := by
  refine pe_imp (pe_and ha hb) ?_
  rintro σ H Q ⟨ι, δ, h, re, q⟩
  simp only [evalE] at q
  refine step_E re q fun x h1 ι1 v H1 e1 r1 rx q => ?_
  cases rx <;> first | exact q.elim | skip
  rename_i k
  refine ⟨k, rfl, ?_⟩
  cases k with
  | true => exact ⟨_, _, _, r1, q⟩
  | false => exact q.val r1.rel (.bl _)
theorem p_orv (ha : PE X a (tE Z X.K cl ca)) {rest : List Expr} (hb : PE X (.BoolOp .Or (b :: rest) pos) (tE Z X.K cl cb)) : PE X (.BoolOp .Or (a :: b :: rest) pos) (tE Z X.K cl (.orv ca cb)) := by
  refine pe_imp (pe_or ha hb) ?_
  rintro σ H Q ⟨ι, δ, h, re, q⟩
  simp only [evalE] at q
  refine step_E re q fun x h1 ι1 v H1 e1 r1 rx q => ?_
  cases rx <;> first | exact q.elim | skip
  rename_i k
  refine ⟨k, rfl, ?_⟩
  cases k with
  | false => exact ⟨_, _, _, r1, q⟩
  | true => exact q.val r1.rel (.bl _)
theorem p_notv (ha : PE X a (tE Z X.K cl ca)) : PE X (.UnaryOp .Not a pos) (tE Z X.K cl (.notv ca)) := by
  refine pe_imp (pe_not ha) ?_
  rintro σ H Q ⟨ι, δ, h, re, q⟩
  simp only [evalE] at q
  refine step_E re q fun x h1 ι1 v H1 e1 r1 rx q => ?_
  cases rx <;> first | exact q.elim | skip
  exact ⟨_, rfl, q.val r1.rel (.bl _)⟩
theorem p_ife {tc : CB} (hc : PT X c (tB Z X.K cl tc)) (ha : PE X a (tE Z X.K cl ca)) (hb : PE X b (tE Z X.K cl cb)) : PE X (.IfExp c a b pos) (tE Z X.K cl (.ife tc ca cb)) := by
  refine pe_imp (pe_ifExp hc ha hb) ?_
  rintro σ H Q ⟨ι, δ, h, re, q⟩
  simp only [evalE] at q
  refine step_B re q fun x h1 ι1 H1 e1 r1 q => ?_
  cases x with
  | true => exact ⟨_, _, _, r1, q⟩
  | false => exact ⟨_, _, _, r1, q⟩
theorem p_nil : PA X [] (tL Z X.K cl .nil) := by
  refine pa_imp pa_nil ?_
  rintro σ H Q ⟨ι, δ, h, re, q⟩
  simp only [evalL] at q
  exact q.val re.rel .nil
theorem p_cons {es : List Expr} {cs : CL} (ha : PE X e (tE Z X.K cl ce)) (hr : PA X es (tL Z X.K cl cs)) (hs : starEach (e :: es) X.env = (false, eval e X.env) :: starEach es X.env) : PA X (e :: es) (tL Z X.K cl (.cons ce cs)) := by
  refine pa_imp (pa_cons ha hr hs) ?_
  rintro σ H Q ⟨ι, δ, h, re, q⟩
  simp only [evalL] at q
  exact step_E re q fun x h1 ι1 v H1 e1 r1 rx q => step_L r1 q fun y h2 ι2 w H2 e2 r2 ry q => q.val r2.rel (.cons (rx.ext e2 r1.rel.mut) ry)
theorem p_tup {es : List Expr} {cs : CL} {x1} (h : PA X es (tL Z X.K cl cs)) : PE X (.Tuple es x1 pos) (tE Z X.K cl (.tup cs)) := by
  refine pe_imp (pe_tupS h) ?_
  rintro σ H Q ⟨ι, δ, h, re, q⟩
  simp only [evalE] at q
  refine step_L re q fun x h1 ι1 v H1 e1 r1 rx q => ?_
  obtain ⟨c, q⟩ := mkT_some q
  exact ⟨by rw [← LIM_line, ← rx.length]; exact c, PostE.newT q r1.rel rx⟩
theorem p_lst {es : List Expr} {cs : CL} (h : PA X es (tL Z X.K cl cs)) : PE X (.List es pos) (tE Z X.K cl (.lst cs)) := by
  refine pe_imp (pe_lst h) ?_
  rintro σ H Q ⟨ι, δ, h, re, q⟩
  simp only [evalE] at q
  refine step_L re q fun x h1 ι1 v H1 e1 r1 rx q => ?_
  obtain ⟨c, q⟩ := mkL_some q
  exact ⟨by rw [← LIM_line, ← rx.length]; exact c, PostE.newL q r1.rel rx⟩
theorem p_dct0 : PE X (.Dict [] [] pos) (tE Z X.K cl .dct0) := by
  refine pe_imp pe_dnewK ?_
  rintro σ H Q ⟨ι, δ, h, re, q⟩ p np
  simp only [evalE] at q
  exact q _ _ _ (Ext.new np) (re.rel.new np (.inl ⟨[], upd_same, .nil⟩)) (.ref (by rw [← re.rel.len]; simp))
theorem p_ix (hu : X.A.units + 64 < cLine) (hs : PlainIx b) (ha : PE X a (tE Z X.K cl ca)) (hb : PE X b (tE Z X.K cl cb)) : PE X (.Subscript a b pos) (tE Z X.K cl (.ix ca cb)) := by
  refine pe_imp (pe_ix (x_ix hu) ha hb hs) ?_
  rintro σ H Q ⟨ι, δ, h, re, q⟩
  simp only [evalE] at q
  exact step_E re (trE_ok re q) fun x h1 ι1 v H1 e1 r1 rx q => step_E r1 q fun y h2 ι2 w H2 e2 r2 ry q => ⟨ι2, h2, x, y, r2.rel, rx.ext e2 r1.rel.mut, ry, q.no fun _ _ _ => ixF_ne⟩
theorem p_no : PO X none (tO Z X.K cl .no) := by
  refine po_imp po_none ?_
  rintro σ H Q ⟨ι, δ, h, re, q⟩
  simp only [evalO] at q
  exact q.val re.rel rfl
theorem p_so (h : PE X e (tE Z X.K cl ce)) : PO X (some e) (tO Z X.K cl (.so ce)) := by
  refine po_imp (po_some h) ?_
  rintro σ H Q ⟨ι, δ, h, re, q⟩
  simp only [evalO] at q
  refine step_E re q fun x h1 ι1 v H1 e1 r1 rx q => ?_
  cases rx <;> first | exact q.elim | skip
  exact ⟨_, rfl, q.val r1.rel rfl⟩
theorem p_slice {lo hi : Option Expr} {cl' ch : CO} {p2 : Pos} (he : PE X e (tE Z X.K cl ce)) (hl : PO X lo (tO Z X.K cl cl')) (hh : PO X hi (tO Z X.K cl ch)) : PE X (.Subscript e (.Slice lo hi none p2) pos) (tE Z X.K cl (.slice ce cl' ch)) := by
  refine pe_imp (pe_slice s_sl he hl hh) ?_
  rintro σ H Q ⟨ι, δ, h, re, q⟩
  simp only [evalE] at q
  exact step_E re (trE_ok re q) fun x h1 ι1 v H1 e1 r1 rx q => step_O r1 q fun l h2 ι2 H2 e2 r2 q => step_O r2 q fun u h3 ι3 H3 e3 r3 q =>
    ⟨ι3, h3, x, r3.rel, (rx.ext e2 r1.rel.mut).ext e3 r2.rel.mut, q.no fun _ _ _ => slF_ne⟩
theorem p_rev {k : Nat} {p1 p2 p3 : Pos} (he : PE X e (tE Z X.K cl ce)) : PE X (.Subscript e (.Slice none none (some (.UnaryOp .USub (.Constant (.int 1) k p1) p2)) p3) pos) (tE Z X.K cl (.rev ce)) := by
  refine pe_imp (pe_revA he) ?_
  rintro σ H Q ⟨ι, δ, h, re, q⟩
  simp only [evalE] at q
  refine step_E re (trE_ok re q) fun x h1 ι1 v H1 e1 r1 rx q => ?_
  cases rx with
  | tup sa r => exact ⟨_, _, rfl, .inr ⟨sa.sq, PostE.newT q r1.rel r.reverse⟩⟩
  | @ref n p er =>
    cases hc : h1[n]? with
    | none => simp only [hc] at q; exact q.elim
    | some c =>
      cases c with
      | lst ys =>
        simp only [hc] at q
        obtain ⟨_, ws, z, _, e2, r2⟩ := (Rp.ref er : Rp X.K ι1 H1 _ _).lstOf r1.rel hc
        cases z
        exact ⟨p, ws, rfl, .inl ⟨SqL.of e2, PostE.newL q r1.rel r2.reverse⟩⟩
      | _ => simp only [hc] at q; exact q.elim
  | _ => exact q.elim
end
end Mi

namespace Mi
open PySem L2
/-! ## chains, tests -/
section
variable {K : PySem.W.Frag} {ι : List Addr} {δ : En} {h : HS} {σ : St} {H : Hp}
theorem cmp_some {o : CmpOp} {x y : D} {α β : Type} {RR : List Addr → Hp → α → β → Prop} {Q : β → Hp → Prop} {f : Bool → R α} (q : Post ω RR K ι H (match cmpF o x y h with | some k => f k | none => .bad) Q) : ∃ k, cmpF o x y h = some k ∧ Post ω RR K ι H (f k) Q := by
  cases e : cmpF o x y h with
  | none => rw [e] at q; exact q.elim
  | some k => rw [e] at q; exact ⟨k, rfl, q⟩
theorem trimB {k : Bool} {n : Nat} {Q : Bool → Hp → Prop} (q : Post ω (fun _ _ a b => a = b) K ι H (match trim n (.bl k) h with | .ok _ h3 => .ok k h3 | _ => .bad) Q) (hn : ι.length = n) : Post ω (fun _ _ a b => a = b) K ι H (.ok k h) Q := by
  intro ι1 v H1 e r1 rp
  subst rp
  cases t : trim n (.bl k) h with
  | ok d' h' =>
    rw [t] at q
    obtain ⟨ι2, e2, r2, rp2⟩ := trim_ok e hn r1 (Rp.bl k) t
    exact q ι2 k H1 e2 r2 rfl
  | exc _ _ _ => rw [t] at q; exact q.elim
  | bad => rw [t] at q; exact q.elim
end
section
variable {X : Cx} {Z : XI} {cl : Cl} {e a b c : Expr} {t t' : TE} {ca cb cc ce : CE} {pos : Pos}
theorem p_chain (hu : X.A.units + 64 < cLine) {o o' : CmpOp} (hm : lastMarks [o, o'] [b, c] = false) (ha : PE X a (tE Z X.K cl ca)) (hb : PE X b (tE Z X.K cl cb)) (hc : PE X c (tE Z X.K cl cc)) : PE X (.Compare a [o, o'] [b, c] pos) (tE Z X.K cl (.chain o o' ca cb cc)) := by
  refine pe_imp (pe_chain (c_cmp hu o) (c_cmp hu o') ha hb hc hm) ?_
  rintro σ H Q ⟨ι, δ, h, re, q⟩
  simp only [evalE] at q
  refine step_E re (trE_ok re q) fun x h1 ι1 v H1 e1 r1 rx q => step_E r1 q fun y h2 ι2 w H2 e2 r2 ry q => ?_
  have rx := rx.ext e2 r1.rel.mut
  cases ek : cmpF o x y h2 with
  | none => simp only [ek] at q; exact q.elim
  | some k =>
    refine cmpV r2.rel rx ry ek fun ι3 H3 e3 r3 => ⟨k, rfl, ?_⟩
    have re3 := r2.ext e3 r3
    cases k with
    | false =>
      simp only [ek] at q
      exact (q.shift e3 r3.mut).val r3 (.bl _)
    | true =>
      simp only [ek] at q
      exact step_E re3 (q.shift e3 r3.mut) fun z h4 ι4 u H4 e4 r4 rz q => ⟨ι4, h4, y, z, r4.rel, (ry.ext e3 r2.rel.mut).ext e4 r3.mut, rz, q.no fun _ _ _ => cmpR_ne⟩
theorem p_truth (ha : PE X a (tE Z X.K cl ca)) (he : ∀ whole, isTrue a X.env whole = (do let v ← whole; standAt a.pos; holding [v] (truthy v))) : PT X a (tB Z X.K cl (.val ca)) := by
  have base : PT X a (fun σ H Q => tE _ X.K cl ca σ H fun x H1 => ∃ ι h d k, RelH X.K ι h H1 ∧ Rp X.K ι H1 d x ∧ truD h d = some k ∧ Q k H1) :=
    ⟨fun pins s σ H Q I h => PyProof.Rows.isTrue_plain (thn (ha.run pins s σ H _ I h) fun v s1 ⟨x, H1, I1, r1, q1⟩ => t_tru pins s1 σ H1 x v Q I1 r1 q1) (he _)⟩
  refine pt_imp base ?_
  rintro σ H Q ⟨ι, δ, h, re, q⟩
  simp only [evalB] at q
  refine step_E re q fun x h1 ι1 v H1 e1 r1 rx q => ?_
  cases et : truD h1 x with
  | none => simp only [et] at q; exact q.elim
  | some k =>
    simp only [et] at q
    exact ⟨ι1, h1, x, k, r1.rel, rx, et, q.val r1.rel rfl⟩
theorem R.bind_assoc {α β γ : Type} (r : R α) (f : α → HS → R β) (g : β → HS → R γ) : (r.bind f).bind g = r.bind fun a h => (f a h).bind g := by cases r <;> rfl
theorem Post.mapf {α β γ : Type} {ω : XWi} {RR : List Addr → Hp → α → β → Prop} {K : PySem.W.Frag} {ι : List Addr} {H : Hp} {r : R γ} {f g : γ → HS → R α} {Q : β → Hp → Prop} (q : Post ω RR K ι H (r.bind f) Q) (k : ∀ a h1, Post ω RR K ι H (f a h1) Q → Post ω RR K ι H (g a h1) Q) : Post ω RR K ι H (r.bind g) Q := by
  cases r with
  | ok a h1 => exact k a h1 q
  | exc c fs h1 => exact q
  | bad => exact q
theorem p_cmpB (hu : X.A.units + 64 < cLine) {o : CmpOp} (hm : behindInMarks o b = false) (ha : PE X a (tE Z X.K cl ca)) (hb : PE X b (tE Z X.K cl cb)) : PT X (.Compare a [o] [b] pos) (tB Z X.K cl (.cmp o ca cb)) := by
  refine pt_imp (pt_cmpR (c_cmp hu o) ha hb hm) ?_
  rintro σ H Q ⟨ι, δ, h, re, q⟩
  simp only [evalB] at q
  have q : Post (Z.at X.K σ) (fun _ _ a b => a = b) X.K ι H ((evalE cl ca δ h).bind fun x h1 => (evalE cl cb δ h1).bind fun y h2 => match cmpF o x y h2 with | some k => .ok k h2 | none => .bad) Q := by
    refine q.mapf fun x h1 q => q.mapf fun y h2 q => ?_
    obtain ⟨k, ek, q⟩ := cmp_some q
    rw [ek]
    exact trimB q re.rel.len
  refine step_E re q fun x h1 ι1 v H1 e1 r1 rx q => step_E r1 q fun y h2 ι2 w H2 e2 r2 ry q => ?_
  obtain ⟨k, ek, q⟩ := cmp_some q
  exact cmpV r2.rel (rx.ext e2 r1.rel.mut) ry ek fun ι3 H3 e3 r3 => ⟨k, rfl, (q.shift e3 r3.mut).val r3 rfl⟩
theorem p_chainB (hu : X.A.units + 64 < cLine) {o o' : CmpOp} (hm : lastMarks [o, o'] [b, c] = false) (ha : PE X a (tE Z X.K cl ca)) (hb : PE X b (tE Z X.K cl cb)) (hc : PE X c (tE Z X.K cl cc)) : PT X (.Compare a [o, o'] [b, c] pos) (tB Z X.K cl (.chain o o' ca cb cc)) := by
  refine pt_imp (pt_chain (c_cmp hu o) (c_cmp hu o') ha hb hc hm) ?_
  rintro σ H Q ⟨ι, δ, h, re, q⟩
  simp only [evalB] at q
  have q : Post (Z.at X.K σ) (fun _ _ a b => a = b) X.K ι H ((evalE cl ca δ h).bind fun x h1 => (evalE cl cb δ h1).bind fun y h2 => match cmpF o x y h2 with
      | some true => (evalE cl cc δ h2).bind fun z h3 => match cmpF o' y z h3 with | some k => .ok k h3 | none => .bad
      | some false => .ok false h2
      | none => .bad) Q := by
    refine q.mapf fun x h1 q => q.mapf fun y h2 q => ?_
    cases ek : cmpF o x y h2 with
    | none => simp only [ek] at q; exact q.elim
    | some k =>
      cases k with
      | false => simp only [ek] at q ⊢; exact q
      | true =>
        simp only [ek] at q ⊢
        refine q.mapf fun z h3 q => ?_
        obtain ⟨k', ek', q⟩ := cmp_some q
        rw [ek']
        exact trimB q re.rel.len
  refine step_E re q fun x h1 ι1 v H1 e1 r1 rx q => step_E r1 q fun y h2 ι2 w H2 e2 r2 ry q => ?_
  have rx := rx.ext e2 r1.rel.mut
  cases ek : cmpF o x y h2 with
  | none => simp only [ek] at q; exact q.elim
  | some k =>
    refine cmpV r2.rel rx ry ek fun ι3 H3 e3 r3 => ⟨k, rfl, ?_⟩
    have re3 := r2.ext e3 r3
    cases k with
    | false =>
      simp only [ek] at q
      exact ⟨false, rfl, (q.shift e3 r3.mut).val r3 rfl⟩
    | true =>
      simp only [ek] at q
      refine step_E re3 (q.shift e3 r3.mut) fun z h4 ι4 u H4 e4 r4 rz q => ?_
      obtain ⟨k', ek', q⟩ := cmp_some q
      exact cmpV r4.rel ((ry.ext e3 r2.rel.mut).ext e4 r3.mut) rz ek' fun ι5 H5 e5 r5 => ⟨k', rfl, (q.shift e5 r5.mut).val r5 rfl⟩
theorem pw_imp {e : Expr} {t t' : TT} (h : PW X e t) (i : ∀ σ H Q, t' σ H Q → t σ H Q) : PW X e t' := ⟨fun wh pins s σ H Q I q => h.run wh pins s σ H Q I (i σ H Q q)⟩
theorem p_and1 {ta : CB} (ha : PT X a (tB Z X.K cl ta)) : PW X (.BoolOp .And [a] pos) (tB Z X.K cl ta) := pw_and1 ha
theorem p_or1 {ta : CB} (ha : PT X a (tB Z X.K cl ta)) : PW X (.BoolOp .Or [a] pos) (tB Z X.K cl ta) := pw_or1 ha
theorem p_and {ta tb : CB} {rest : List Expr} (ha : PT X a (tB Z X.K cl ta)) (hb : PW X (.BoolOp .And (b :: rest) pos) (tB Z X.K cl tb)) : PW X (.BoolOp .And (a :: b :: rest) pos) (tB Z X.K cl (.and_ ta tb)) := by
  refine pw_imp (pw_and ha hb) ?_
  rintro σ H Q ⟨ι, δ, h, re, q⟩
  simp only [evalB] at q
  refine step_B re q fun x h1 ι1 H1 e1 r1 q => ?_
  cases x with
  | true => exact ⟨_, _, _, r1, q⟩
  | false => exact q.val r1.rel rfl
theorem p_or {ta tb : CB} {rest : List Expr} (ha : PT X a (tB Z X.K cl ta)) (hb : PW X (.BoolOp .Or (b :: rest) pos) (tB Z X.K cl tb)) : PW X (.BoolOp .Or (a :: b :: rest) pos) (tB Z X.K cl (.or_ ta tb)) := by
  refine pw_imp (pw_or ha hb) ?_
  rintro σ H Q ⟨ι, δ, h, re, q⟩
  simp only [evalB] at q
  refine step_B re q fun x h1 ι1 H1 e1 r1 q => ?_
  cases x with
  | false => exact ⟨_, _, _, r1, q⟩
  | true => exact q.val r1.rel rfl
theorem p_notB {ta : CB} (ha : PT X a (tB Z X.K cl ta)) : PT X (.UnaryOp .Not a pos) (tB Z X.K cl (.not_ ta)) := by
  refine pt_imp (pt_not ha) ?_
  rintro σ H Q ⟨ι, δ, h, re, q⟩
  simp only [evalB] at q
  exact step_B re q fun x h1 ι1 H1 e1 r1 q => q.val r1.rel rfl
/-! ## calls -/
/-- what a def of the text promises: its own evaluation -/
def spD (mg : Str → Option Value) (K : PySem.W.Frag) (cl : Cl) (f : Str) (np : Nat) : Sp := fun vs H Q E => ∃ ι h args, RelH K ι h H ∧ RpL K ι H args vs ∧ args.length = np ∧ PostE (wX mg E K) K ι H (cl f args h) Q
theorem p_call {f : Str} {np k : Nat} {fa : Addr} {fd : FuncData} {ps : List Str} {es : List Expr} {cs : CL} {p : Pos} (F : FnOk X.prog X.w X.K X.mg X.base (L2.CX X.prog X.w) k fa fd ps (spD Z.mg X.K cl f np)) (tk : Takes X Z.W) (hr : Room k X.A) (hg : Gl X f) (hm : X.mg f = some (.ref fa))
    (hk : PySem.W.keepIn X.K (.ref fa) = true) (hb : Binds X.K fd ps []) (ar : ∀ args h, args.length ≠ np → cl f args h = .bad) (ha : PA X (e :: es) (tL Z X.K cl cs)) (hdb : (f == ("__debug__" : Str)) = false) (he : starEach (e :: es) X.env = (false, eval e X.env) :: starEach es X.env)
    (hpl : (backTo pos (starEach es X.env)).any (·.1) = false) : PE X (.Call (.Name f p) (e :: es) [] pos) (tE Z X.K cl (.call f cs)) := by
  refine pe_imp (pe_callS F hr hg hm hk hb (fun σ => passAt tk σ) ha hdb he hpl) ?_
  rintro σ H Q ⟨ι, δ, h, re, q⟩
  simp only [evalE] at q
  refine step_L re (trE_ok re q) fun x h1 ι1 v H1 e1 r1 rx q => ?_
  refine ⟨ι1, h1, x, r1.rel, rx, ?_, q⟩
  by_cases c : x.length = np
  · exact c
  · rw [ar x h1 c] at q; exact q.elim
theorem pe_call0S {CX : CXT} {k : Nat} {f : Addr} {fd : FuncData} {ps : List Str} {sp : Sp} {E : St → XK} {x : Str} {p : Pos} (F : FnOk X.prog X.w X.K X.mg X.base CX k f fd ps sp) (hr : Room k X.A) (hg : Gl X x) (hm : X.mg x = some (.ref f)) (hk : PySem.W.keepIn X.K (.ref f) = true) (hb : Binds X.K fd ps [])
    (hx : ∀ σ, PassesAt CX X σ (E σ)) (hdb : (x == ("__debug__" : Str)) = false) : PE X (.Call (.Name x p) [] [] pos) (fun σ H Q => sp [] H Q (E σ)) :=
  ⟨fun pins s σ H Q I h => wpAny_Call_Name_kw (ld_glob I hg hm (PySem.W.callWith_K0 I.kIn hk (run_fnS (us := []) F hr hb (hx σ) I .nil h)) hdb)⟩
theorem p_call0 {f : Str} {np k : Nat} {fa : Addr} {fd : FuncData} {ps : List Str} {p : Pos} (F : FnOk X.prog X.w X.K X.mg X.base (L2.CX X.prog X.w) k fa fd ps (spD Z.mg X.K cl f np)) (tk : Takes X Z.W) (hr : Room k X.A) (hg : Gl X f) (hm : X.mg f = some (.ref fa))
    (hk : PySem.W.keepIn X.K (.ref fa) = true) (hb : Binds X.K fd ps []) (ar : ∀ args h, args.length ≠ np → cl f args h = .bad) (hdb : (f == ("__debug__" : Str)) = false) : PE X (.Call (.Name f p) [] [] pos) (tE Z X.K cl (.call f .nil)) := by
  refine pe_imp (pe_call0S F hr hg hm hk hb (fun σ => passAt tk σ) hdb) ?_
  rintro σ H Q ⟨ι, δ, h, re, q⟩
  simp only [evalE, evalL, R.bind_ok] at q
  have q := trE_ok re q
  refine ⟨ι, h, [], re.rel, .nil, ?_, q⟩
  by_cases c : ([] : List D).length = np
  · exact c
  · rw [ar [] h c] at q; exact q.elim
/-- the i-th slot holds the def at fa -/
def tCallLS (i : Nat) (fa : Addr) (sp : Sp) (E : St → XK) (t : TA) : TE := fun σ H Q => σ[i]? = some (some (.ref fa)) ∧ t σ H fun vs H1 => sp vs H1 Q (E σ)
theorem pe_callLS {CX : CXT} {k i : Nat} {fa : Addr} {fd : FuncData} {ps : List Str} {sp : Sp} {E : St → XK} {x : Str} {es : List Expr} {t : TA} {p : Pos} (F : FnOk X.prog X.w X.K X.mg X.base CX k fa fd ps sp) (hr : Room k X.A) (hN : X.N[i]? = some x) (hv : Vis X.env.scope x) (hk : PySem.W.keepIn X.K (.ref fa) = true) (hb : Binds X.K fd ps []) (hx : ∀ σ, PassesAt CX X σ (E σ)) (ha : PA X (e :: es) t)
    (hdb : (x == ("__debug__" : Str)) = false) (hcd : (x == ("__classdict__" : Str)) = false) (he : starEach (e :: es) X.env = (false, eval e X.env) :: starEach es X.env) (hpl : (backTo pos (starEach es X.env)).any (·.1) = false) :
    PE X (.Call (.Name x p) (e :: es) [] pos) (tCallLS i fa sp E t) := by
  refine ⟨fun pins s σ H Q I h => ?_⟩
  obtain ⟨hs, ht⟩ := h
  refine wpAny_Call_Name_kw (thn ((pe_var (pos := p) hN hv hdb hcd).run pins s σ H (fun v H1 => v = .ref fa ∧ H1 = H) I ⟨.ref fa, hs, rfl, rfl⟩) fun u s1 ⟨v, H1, I1, r1, q1⟩ => ?_)
  obtain ⟨rfl, rfl⟩ := q1
  cases r1
  refine PySem.W.callWith_K (h₀ := X.base) I.ok.mod.kin hk (thn (ha.run pos pins s1 σ _ _ I1 ht) fun us s2 ⟨vs, H2, I2, r, q⟩ => ⟨I2.kIn, ?_⟩) he hpl
  exact run_fnS F hr hb (hx σ) I2 r q
theorem p_callv {df : Str → Option Nat} {i : Nat} {x : Str} {es : List Expr} {cs : CL} {p : Pos}
    (D : ∀ f np, df f = some np → ∃ fa fd ps k, FnOk X.prog X.w X.K X.mg X.base (L2.CX X.prog X.w) k fa fd ps (spD Z.mg X.K cl f np) ∧ Room k X.A ∧ X.mg f = some (.ref fa) ∧ PySem.W.keepIn X.K (.ref fa) = true ∧ Binds X.K fd ps [] ∧ ∀ args h, args.length ≠ np → cl f args h = .bad)
    (dn : ∀ f, df f = none → ∀ args h, cl f args h = .bad) (tk : Takes X Z.W) (hN : X.N[i]? = some x) (hv : Vis X.env.scope x) (ha : PA X (e :: es) (tL Z X.K cl cs)) (hdb : (x == ("__debug__" : Str)) = false) (hcd : (x == ("__classdict__" : Str)) = false)
    (he : starEach (e :: es) X.env = (false, eval e X.env) :: starEach es X.env) (hpl : (backTo pos (starEach es X.env)).any (·.1) = false) : PE X (.Call (.Name x p) (e :: es) [] pos) (tE Z X.K cl (.callv i cs)) := by
  refine ⟨fun pins s σ H Q I h0 => ?_⟩
  obtain ⟨ι, δ, h, re, q⟩ := h0
  simp only [evalE] at q
  cases hi : δ[i]? with
  | none => simp only [hi] at q; exact q.elim
  | some o =>
    cases o with
    | none => simp only [hi] at q; exact q.elim
    | some d =>
      cases d with
      | fn f =>
        simp only [hi] at q
        have q := trE_ok re q
        obtain ⟨v, hs, rv⟩ := re.env i _ hi
        cases rv with
        | @fn _ a hns =>
          have mgf : X.mg f = some (.ref a) := PySem.W.mg_of I.ok.mod.kin I.ok.mod.glob hns
          cases hd : df f with
          | none =>
            cases el : evalL cl cs δ h with
            | ok xs h1 =>
              rw [el] at q
              have q : PostE (Z.at X.K σ) X.K ι H (cl f xs h1) Q := q
              rw [dn f hd] at q
              exact q.elim
            | exc c fs h1 => rw [el] at q; exact q.elim
            | bad => rw [el] at q; exact q.elim
          | some np =>
            obtain ⟨fa, fd, ps, k, F, hr, hm, hk, hb, ar⟩ := D f np hd
            rw [mgf] at hm
            cases hm
            refine (pe_callLS F hr hN hv hk hb (fun σ => passAt tk σ) ha hdb hcd he hpl).run pins s σ H Q I ⟨hs, ?_⟩
            have q : PostE (Z.at X.K σ) X.K ι H ((evalL cl cs δ h).bind fun xs h1 => cl f xs h1) Q := by
              cases el : evalL cl cs δ h with
              | ok xs h1 => rw [el] at q; exact q
              | exc c fs h1 => rw [el] at q; exact q.elim
              | bad => rw [el] at q; exact q.elim
            refine step_L re q fun x h1 ι1 v H1 e1 r1 rx q => ?_
            refine ⟨ι1, h1, x, r1.rel, rx, ?_, q⟩
            by_cases c : x.length = np
            · exact c
            · rw [ar x h1 c] at q; exact q.elim
      | _ => simp only [hi] at q; exact q.elim
theorem p_biB {b : Bi} {id : String} {x : Str} {es : List Expr} {cs : CL} {p : Pos} (hc : CallR X (.builtin id) (bM (biF b) X.K)) (hg : Gl X x) (hm : X.mg x = none) (hv : bootBuiltins x = some (.builtin id)) (ha : PA X (e :: es) (tL Z X.K cl cs)) (hn : x ≠ "__name__") (hdb : (x == ("__debug__" : Str)) = false)
    (he : starEach (e :: es) X.env = (false, eval e X.env) :: starEach es X.env) (hpl : (backTo pos (starEach es X.env)).any (·.1) = false) : PE X (.Call (.Name x p) (e :: es) [] pos) (tE Z X.K cl (.bi b cs)) := by
  refine pe_imp (pe_callB hc hg hm hv ha hn hdb he hpl) ?_
  rintro σ H Q ⟨ι, δ, h, re, q⟩
  simp only [evalE] at q
  exact step_L re (trE_ok re q) fun x h1 ι1 v H1 e1 r1 rx q => ⟨ι1, h1, x, r1.rel, rx, q.no fun _ _ _ => biF_ne⟩
theorem p_biT {b : Bi} {T : String} {x : Str} {es : List Expr} {cs : CL} {p : Pos} (hc : CallR X (.type T) (bM (biF b) X.K)) (hg : Gl X x) (hm : X.mg x = none) (hv : bootBuiltins x = some (.type T)) (ha : PA X (e :: es) (tL Z X.K cl cs)) (hn : x ≠ "__name__") (hdb : (x == ("__debug__" : Str)) = false)
    (he : starEach (e :: es) X.env = (false, eval e X.env) :: starEach es X.env) (hpl : (backTo pos (starEach es X.env)).any (·.1) = false) : PE X (.Call (.Name x p) (e :: es) [] pos) (tE Z X.K cl (.bi b cs)) := by
  refine pe_imp (pe_callTy hc hg hm hv ha hn hdb he hpl) ?_
  rintro σ H Q ⟨ι, δ, h, re, q⟩
  simp only [evalE] at q
  exact step_L re (trE_ok re q) fun x h1 ι1 v H1 e1 r1 rx q => ⟨ι1, h1, x, r1.rel, rx, q.no fun _ _ _ => biF_ne⟩
/-! ## methods -/
def meT : Me → String
  | .get => "dict"
  | _ => "list"
def tyM (K : PySem.W.Frag) (m : Me) (x : V) (H : Hp) : Prop := match m with
  | .get => tyDic K x H
  | _ => tyV K "list" x H
theorem tyM_ok {m : Me} : TyOk X (meT m) (tyM X.K m) := by cases m <;> first | exact tyOk_D | exact tyOk_V
theorem rcv_ok {K : PySem.W.Frag} {ι : List Addr} {h : HS} {H : Hp} {m : Me} {x : D} {v : V} (ok : rcvOk m x h = true) (nt : ∀ ys, x ≠ .tup ys) (rh : RelH K ι h H) (rx : Rp K ι H x v) : tyM K m v H := by
  cases rx with
  | @ref n p er =>
    simp only [rcvOk] at ok
    cases hc : h[n]? with
    | none => rw [hc] at ok; cases ok
    | some c =>
      rw [hc] at ok
      cases c with
      | lst ys =>
        obtain ⟨_, ws, z, _, e2, r2⟩ := (Rp.ref er : Rp K ι H _ _).lstOf rh hc
        cases z
        cases m <;> first | exact .inl ⟨rfl, _, SqL.of e2⟩ | cases ok
      | dct kvs =>
        cases m <;> first | cases ok | skip
        rcases rh.cell n _ p hc er with ⟨ks, e1, _⟩ | ⟨kas, _, e1, hk, _⟩
        · exact .inl (.inr (.inr (.inl ⟨rfl, .inl ⟨ks, e1⟩⟩)))
        · exact .inr ⟨_, kas, rfl, .inl e1, hk⟩
      | ins _ _ => cases ok
  | tup _ _ => exact absurd rfl (nt _)
  | _ => cases ok
theorem p_meth {m : Me} {o : Expr} {co : CE} {es : List Expr} {cs : CL} {name : Str} {apos cpos : Pos} {id : String} (pa : PlainAttrs (meT m)) (slot : Slot (meT m) name id) (hty : typeOf (.builtin id) = pure (.type "method_descriptor")) (hm : MtR X id (mM m X.K)) (ho : PE X o (tE Z X.K cl co)) (ha : PA X (e :: es) (tL Z X.K cl cs))
    (nt : ∀ ys h, rcvOk m (.tup ys) h = false)
    (hbase : attributeBase o name X.env (eval o X.env) = eval o X.env)
    (hfew : ((backTo cpos (starEach (e :: es) X.env)).all (fun x => !x.1) && (backToKw cpos (keywordEach [] X.env)).all (fun x => x.1.isSome)
      && decide ((e :: es).length + ([] : List Keyword).length + (if ([] : List Keyword).isEmpty then 0 else 1) < 30)) = true)
    (hline : (apos.endLine == cpos.line) = true) (hs : starEach (e :: es) X.env = (false, eval e X.env) :: starEach es X.env) (hplain : (backTo cpos (starEach es X.env)).any (·.1) = false) :
    PE X (.Call (.Attribute o name apos) (e :: es) [] cpos) (tE Z X.K cl (.meth m co cs)) := by
  refine pe_imp (pe_bmX pa slot hty tyM_ok hm pa slot hty tyM_ok hm ho ha hbase hfew hline hs hplain) ?_
  rintro σ H Q ⟨ι, δ, h, re, q⟩
  simp only [evalE] at q
  refine step_E re (trE_ok re q) fun x h1 ι1 v H1 e1 r1 rx q => ?_
  by_cases c : rcvOk m x h1 = true
  · rw [if_pos c] at q
    exact .inl ⟨rcv_ok c (fun ys e => by rw [e, nt] at c; cases c) r1.rel rx, step_L r1 q fun y h2 ι2 w H2 e2 r2 ry q => ⟨ι2, h2, x, y, r2.rel, rx.ext e2 r1.rel.mut, ry, q.no fun _ _ _ => meF_ne⟩⟩
  · rw [if_neg c] at q; exact q.elim
theorem p_meth0 {m : Me} {o : Expr} {co : CE} {name : Str} {apos cpos : Pos} {id : String} (pa : PlainAttrs (meT m)) (slot : Slot (meT m) name id) (hty : typeOf (.builtin id) = pure (.type "method_descriptor")) (hm : MtR X id (mM m X.K)) (ho : PE X o (tE Z X.K cl co))
    (nt : ∀ ys h, rcvOk m (.tup ys) h = false)
    (hbase : attributeBase o name X.env (eval o X.env) = eval o X.env) (hline : (apos.endLine == cpos.line) = true) :
    PE X (.Call (.Attribute o name apos) [] [] cpos) (tE Z X.K cl (.meth m co .nil)) := by
  refine pe_imp (pe_bmX0 pa slot hty tyM_ok hm ho hbase hline) ?_
  rintro σ H Q ⟨ι, δ, h, re, q⟩
  simp only [evalE] at q
  refine step_E re (trE_ok re q) fun x h1 ι1 v H1 e1 r1 rx q => ?_
  by_cases c : rcvOk m x h1 = true
  · rw [if_pos c] at q
    simp only [evalL, R.bind_ok] at q
    exact ⟨rcv_ok c (fun ys e => by rw [e, nt] at c; cases c) r1.rel rx, ι1, h1, x, [], r1.rel, rx, .nil, q.no fun _ _ _ => meF_ne⟩
  · rw [if_neg c] at q; exact q.elim
/-- x.index(k), x a list or a tuple -/
theorem p_index {o : Expr} {co : CE} {es : List Expr} {cs : CL} {apos cpos : Pos} (ho : PE X o (tE Z X.K cl co)) (ha : PA X (e :: es) (tL Z X.K cl cs))
    (hbase : attributeBase o "index" X.env (eval o X.env) = eval o X.env)
    (hfew : ((backTo cpos (starEach (e :: es) X.env)).all (fun x => !x.1) && (backToKw cpos (keywordEach [] X.env)).all (fun x => x.1.isSome)
      && decide ((e :: es).length + ([] : List Keyword).length + (if ([] : List Keyword).isEmpty then 0 else 1) < 30)) = true)
    (hline : (apos.endLine == cpos.line) = true) (hs : starEach (e :: es) X.env = (false, eval e X.env) :: starEach es X.env) (hplain : (backTo cpos (starEach es X.env)).any (·.1) = false) :
    PE X (.Call (.Attribute o "index" apos) (e :: es) [] cpos) (tE Z X.K cl (.meth .index co cs)) := by
  refine pe_imp (pe_bmX PySem.F.plainAttrs_list PySem.F.slot_list_index PySem.F.type_list_index tyOk_V m_index PySem.F.plainAttrs_tuple PySem.F.slot_tuple_index PySem.F.type_tuple_index tyOk_T m_indexT ho ha hbase hfew hline hs hplain) ?_
  rintro σ H Q ⟨ι, δ, h, re, q⟩
  simp only [evalE] at q
  refine step_E re (trE_ok re q) fun x h1 ι1 v H1 e1 r1 rx q => ?_
  by_cases c : rcvOk .index x h1 = true
  · rw [if_pos c] at q
    cases rx with
    | tup sa r =>
      exact .inr ⟨⟨_, _, rfl, sa⟩, step_L r1 q fun y h2 ι2 w H2 e2 r2 ry q => ⟨ι2, h2, _, y, r2.rel, (Rp.tup sa r).ext e2 r1.rel.mut, ry, q.no fun _ _ _ => meF_ne⟩⟩
    | ref er =>
      exact .inl ⟨rcv_ok c (fun ys e => by cases e) r1.rel (.ref er), step_L r1 q fun y h2 ι2 w H2 e2 r2 ry q => ⟨ι2, h2, _, y, r2.rel, (Rp.ref er : Rp X.K ι1 H1 _ _).ext e2 r1.rel.mut, ry, q.no fun _ _ _ => meF_ne⟩⟩
    | _ => cases c
  · rw [if_neg c] at q; exact q.elim
/-- (x.index() may not be) -/
theorem p_index0 {o : Expr} {co : CE} {apos cpos : Pos} (ho : PE X o (tE Z X.K cl co)) (hbase : attributeBase o "index" X.env (eval o X.env) = eval o X.env) (hline : (apos.endLine == cpos.line) = true) :
    PE X (.Call (.Attribute o "index" apos) [] [] cpos) (tE Z X.K cl (.meth .index co .nil)) := by
  refine pe_imp (pe_bmX0 (r1 := fun _ _ _ _ => False) (ty1 := fun _ _ => False) PySem.F.plainAttrs_list PySem.F.slot_list_index PySem.F.type_list_index (fun _ _ _ _ _ _ _ _ z => z.elim) (fun _ _ _ _ _ _ _ _ _ _ _ _ z => z.elim) ho hbase hline) ?_
  rintro σ H Q ⟨ι, δ, h, re, q⟩
  simp only [evalE] at q
  refine step_E re (trE_ok re q) fun x h1 ι1 v H1 e1 r1 rx q => ?_
  by_cases c : rcvOk .index x h1 = true
  · rw [if_pos c] at q
    simp only [evalL, R.bind_ok] at q
    have no : ∀ ys : List D, idxF ys [] h1 = .bad := fun ys => by unfold idxF; cases intsD ys <;> rfl
    exfalso
    unfold meF at q
    cases x with
    | ref n =>
      simp only [rcvOk] at c
      cases hc : h1[n]? with
      | none => rw [hc] at c; cases c
      | some cc =>
        cases cc with
        | lst ys => simp only [hc, lstMe, no] at q; exact q.elim
        | dct kvs => rw [hc] at c; cases c
        | ins _ _ => rw [hc] at c; cases c
    | tup ys => simp only [no] at q; exact q.elim
    | _ => cases c
  · rw [if_neg c] at q; exact q.elim
/-! ## isinstance -/
theorem isi_ok {K : PySem.W.Frag} {ι : List Addr} {h : HS} {H : Hp} {t : Ty} {x : D} {v : V} {k : Bool} (e : isiF t x h = some k) (rh : RelH K ι h H) (rx : Rp K ι H x v) :
    ∃ a, TyX K H v (.type a) ∧ kitB a (tyS t) = some k := by
  have fin : ∀ a, a ∈ ["int", "bool", "tuple", "str", "list", "dict", "NoneType"] → k = (a == tyS t || (a == "bool" && tyS t == "int")) → kitB a (tyS t) = some k := fun a ha ek => by rw [ek]; exact kt_all a ha t
  cases rx with
  | non => exact ⟨_, .base .non, fin _ (by simp) (by cases t <;> cases e <;> rfl)⟩
  | bl b => exact ⟨_, .base (.bl b), fin _ (by simp) (by cases t <;> cases e <;> rfl)⟩
  | int b => exact ⟨_, .base (.int b), fin _ (by simp) (by cases t <;> cases e <;> rfl)⟩
  | str b => exact ⟨_, .base (.str b), fin _ (by simp) (by cases t <;> cases e <;> rfl)⟩
  | tup s r => obtain ⟨_, _, s⟩ := s; exact ⟨_, .fTuple s, fin _ (by simp) (by cases t <;> cases e <;> rfl)⟩
  | kt s r => cases t <;> cases e
  | fz f => cases t <;> cases e
  | fn f => cases t <;> cases e
  | @ref n p er =>
    cases hc : h[n]? with
    | none => cases t <;> simp only [isiF, hc] at e <;> cases e
    | some c =>
      cases c with
      | lst ys =>
        obtain ⟨_, ws, z, _, e2, r2⟩ := (Rp.ref er : Rp K ι H _ _).lstOf rh hc
        cases z
        exact ⟨_, .base (.lst e2), fin _ (by simp) (by cases t <;> simp only [isiF, hc] at e <;> cases e <;> rfl)⟩
      | dct kvs =>
        have ha : (kvs.all fun kv => keyD kv.1) = true ∧ k = false := by
          by_cases c : (kvs.all fun kv => keyD kv.1) = true
          · refine ⟨c, ?_⟩
            cases t <;> simp only [isiF, hc, c, if_true] at e <;> cases e <;> rfl
          · cases t <;> simp only [isiF, hc, c, if_false] at e <;> cases e
        obtain ⟨ha, rfl⟩ := ha
        rcases rh.cell n _ p hc er with ⟨ks, e1, _⟩ | ⟨kas, ne, _, _, r⟩
        · exact ⟨_, .base (.dK e1), fin _ (by simp) (by cases t <;> rfl)⟩
        · cases r with
          | nil => exact absurd rfl ne
          | cons z t2 =>
            rw [List.all_cons, Bool.and_eq_true] at ha
            rw [key_not ha.1] at z; cases z.1
      | ins _ _ => cases t <;> simp only [isiF, hc] at e <;> cases e
theorem p_isi {t : Ty} {x : Str} {p p2 : Pos} (hg : Gl X "isinstance") (hm : X.mg "isinstance" = none) (hg2 : Gl X x) (hm2 : X.mg x = none) (hv2 : bootBuiltins x = some (.type (tyS t))) (hn2 : x ≠ "__name__") (hdb2 : (x == ("__debug__" : Str)) = false) (ha : PE X a (tE Z X.K cl ca))
    (he : starEach [a, .Name x p2] X.env = (false, eval a X.env) :: starEach [.Name x p2] X.env) : PE X (.Call (.Name "isinstance" p) [a, .Name x p2] [] pos) (tE Z X.K cl (.isi t ca)) := by
  have hpa : PA X [a, .Name x p2] (tCons (tE _ X.K cl ca) (tCons (tC (.ty (tyS t))) tNil)) := pa_cons ha (pa_cons (pe_bltn hg2 hm2 hv2 rfl hn2 hdb2) pa_nil rfl) he
  refine pe_imp (pe_callB call_isi hg hm (by decide +kernel) hpa (by decide) (by decide) he (by rfl)) ?_
  rintro σ H Q ⟨ι, δ, h, re, q⟩
  simp only [evalE] at q
  refine step_E re (trE_ok re q) fun x h1 ι1 v H1 e1 r1 rx q => ?_
  cases ei : isiF t x h1 with
  | none => simp only [ei] at q; exact q.elim
  | some k =>
    simp only [ei] at q
    obtain ⟨a, ty, kb⟩ := isi_ok ei r1.rel rx
    exact ⟨v, .ty (tyS t), .type a, .type (tyS t), k, rfl, .ty _, ty, kit_ty kb, PostE.val q r1.rel (.bl k)⟩
/-! ## list(range(..)), tuple(range(..)) -/
theorem rngF_one {b : D} {p : Int × Int} (e : rngF [b] = some p) : ∃ j, b = .int j ∧ p = (0, j) ∧ j.natAbs ≤ LIM := by
  cases b <;> first | (simp [rngF] at e; done) | skip
  rename_i j
  have e : (if j.natAbs ≤ LIM then some ((0 : Int), j) else none) = some p := e
  by_cases c : j.natAbs ≤ LIM
  · rw [if_pos c] at e; cases e; exact ⟨j, rfl, rfl, c⟩
  · rw [if_neg c] at e; cases e
theorem rngF_two {a b : D} {p : Int × Int} (e : rngF [a, b] = some p) : ∃ i j, a = .int i ∧ b = .int j ∧ p = (i, j) ∧ i.natAbs ≤ LIM ∧ j.natAbs ≤ LIM ∧ (j - i).toNat ≤ LIM := by
  cases a <;> first | (simp [rngF] at e; done) | skip
  cases b <;> first | (simp [rngF] at e; done) | skip
  rename_i i j
  have e : (if i.natAbs ≤ LIM ∧ j.natAbs ≤ LIM ∧ (j - i).toNat ≤ LIM then some (i, j) else none) = some p := e
  by_cases c : i.natAbs ≤ LIM ∧ j.natAbs ≤ LIM ∧ (j - i).toNat ≤ LIM
  · rw [if_pos c] at e; cases e; exact ⟨i, j, rfl, rfl, rfl, c⟩
  · rw [if_neg c] at e; cases e
theorem rng_ok {i j : Int} (h1 : i.natAbs ≤ LIM) (h2 : j.natAbs ≤ LIM) (h3 : (j - i).toNat ≤ LIM) : RgOk i j := by
  unfold LIM at *
  exact ⟨by omega, by omega, by omega, by omega, by omega⟩
theorem RpL.rng {K : PySem.W.Frag} {ι : List Addr} {H : Hp} (a b : Int) : RpL K ι H (rngL (a, b)) (rgV a b) := by
  unfold rngL rgV
  have : ∀ l : List Nat, RpL K ι H (l.map fun i => D.int (a + (i : Nat))) (l.map fun i => V.int (a + (i : Nat))) := by
    intro l
    induction l with
    | nil => exact .nil
    | cons x r ih => exact .cons (.int _) ih
  exact this _
theorem p_lrg1 {p p2 pos2 : Pos} (hc : X.calm = true) (hg : Gl X "list") (hm : X.mg "list" = none) (hg2 : Gl X "range") (hm2 : X.mg "range" = none) (ha : PE X a (tE Z X.K cl ca)) (na : starEach [a] X.env = (false, eval a X.env) :: starEach [] X.env) :
    PE X (.Call (.Name "list" p) [.Call (.Name "range" p2) [a] [] pos2] [] pos) (tE Z X.K cl (.lrg (.cons ca .nil))) := by
  refine pe_imp (pe_listRg hc hg hm (prg_1 hg2 hm2 ha na)) ?_
  rintro σ H Q ⟨ι, δ, h, re, q⟩
  simp only [evalE] at q
  have q := trE_ok re q
  simp only [evalL, R.bind_assoc, R.bind_ok] at q
  refine step_E re q fun x h1 ι1 v H1 e1 r1 rx q => ?_
  · cases er : rngF [x] with
    | none => simp only [er] at q; exact q.elim
    | some p =>
      simp only [er] at q
      obtain ⟨j, rfl, rfl, hj⟩ := rngF_one er
      cases rx
      obtain ⟨_, q⟩ := mkL_some q
      exact ⟨j, rfl, rng_ok (by unfold LIM; decide) hj (by omega), PostE.newL q r1.rel (RpL.rng 0 j)⟩
theorem p_trg1 {p p2 pos2 : Pos} (hc : X.calm = true) (hg : Gl X "tuple") (hm : X.mg "tuple" = none) (hg2 : Gl X "range") (hm2 : X.mg "range" = none) (ha : PE X a (tE Z X.K cl ca)) (na : starEach [a] X.env = (false, eval a X.env) :: starEach [] X.env) :
    PE X (.Call (.Name "tuple" p) [.Call (.Name "range" p2) [a] [] pos2] [] pos) (tE Z X.K cl (.trg (.cons ca .nil))) := by
  refine pe_imp (pe_tupRgS hc hg hm (prg_1 hg2 hm2 ha na)) ?_
  rintro σ H Q ⟨ι, δ, h, re, q⟩
  simp only [evalE] at q
  have q := trE_ok re q
  simp only [evalL, R.bind_assoc, R.bind_ok] at q
  refine step_E re q fun x h1 ι1 v H1 e1 r1 rx q => ?_
  · cases er : rngF [x] with
    | none => simp only [er] at q; exact q.elim
    | some p =>
      simp only [er] at q
      obtain ⟨j, rfl, rfl, hj⟩ := rngF_one er
      cases rx
      obtain ⟨_, q⟩ := mkT_some q
      exact ⟨j, rfl, rng_ok (by unfold LIM; decide) hj (by omega), PostE.newT q r1.rel (RpL.rng 0 j)⟩
theorem p_lrg2 {p p2 pos2 : Pos} (hc : X.calm = true) (hg : Gl X "list") (hm : X.mg "list" = none) (hg2 : Gl X "range") (hm2 : X.mg "range" = none) (ha : PE X a (tE Z X.K cl ca)) (hb : PE X b (tE Z X.K cl cb)) (na : starEach [a, b] X.env = (false, eval a X.env) :: starEach [b] X.env)
    (nb : starEach [b] X.env = (false, eval b X.env) :: starEach [] X.env) (hp : (backTo pos2 (starEach [b] X.env)).any (·.1) = false) :
    PE X (.Call (.Name "list" p) [.Call (.Name "range" p2) [a, b] [] pos2] [] pos) (tE Z X.K cl (.lrg (.cons ca (.cons cb .nil)))) := by
  refine pe_imp (pe_listRg hc hg hm (prg_2 hg2 hm2 ha hb na nb hp)) ?_
  rintro σ H Q ⟨ι, δ, h, re, q⟩
  simp only [evalE] at q
  have q := trE_ok re q
  simp only [evalL, R.bind_assoc, R.bind_ok] at q
  refine step_E re q fun x h1 ι1 v H1 e1 r1 rx q => step_E r1 q fun y h2 ι2 w H2 e2 r2 ry q => ?_
  · cases er : rngF [x, y] with
    | none => simp only [er] at q; exact q.elim
    | some p =>
      simp only [er] at q
      obtain ⟨i, j, rfl, rfl, rfl, hi, hj, hij⟩ := rngF_two er
      cases rx; cases ry
      obtain ⟨_, q⟩ := mkL_some q
      exact ⟨i, j, rfl, rfl, rng_ok hi hj hij, PostE.newL q r2.rel (RpL.rng i j)⟩
end
end Mi

namespace PySem
theorem mi_meets_enumB {v : Value} {o : Obj} {H : Heap → Prop} (B : Begins v o H) :
    Meets (Builtin.«enumerate.__new__» ⟨[.type "enumerate", v], []⟩) (fun _ R s => H s.heap ∧
      R (.ok (.ret (.ref (s.heap.push o).objs.size))) { s with heap := (s.heap.push o).push { cls := .type "enumerate", data := .fields #[.none, .bool false, .ref s.heap.objs.size, rawInt 0, .none, .none] } }) :=
  .of_wp fun prog w A R s h => by
    obtain ⟨hp, g, d, tk, os⟩ := s; obtain ⟨h1, h⟩ := h
    have hsub := sub_enumerate
    have q1 : ∀ {A' : Around} {E : Value → Shared → Prop} {Q : Value → Shared → Prop}, Q (.ref hp.objs.size) ⟨hp.push o, g, d, tk, os⟩ → wpAny (model prog w) A' (pyIter v) Q E ⟨hp, g, d, tk, os⟩ :=
      fun q => B.iter prog w _ _ ⟨hp, g, d, tk, os⟩ _ h1 q
    wp_walk using q1
    refine wpAny_stack_any fun st => wpAny_pure ?_
    split
    · rename_i c _ _ _ _ _
      cases (c == Value.type "enumerate")
      · wp_walk using q1
        exact ⟨_, rfl, h⟩
      · wp_walk using q1
        exact ⟨_, rfl, h⟩
    · wp_walk using q1
      exact ⟨_, rfl, h⟩
section
variable {prog : Program} {w : World} {A : Around} {E : Value → Shared → Prop} {s : Shared}
theorem mi_enum_begins {v : Value} {o : Obj} {H : Heap → Prop} {Q : Value → Shared → Prop} (B : Begins v o H) (h1 : H s.heap)
    (h : ∀ h', IsEnum h' (s.heap.objs.size + 1) s.heap.objs.size 0 .none → h'.get? s.heap.objs.size = some o → h'.objs.size = s.heap.objs.size + 2 →
      (∀ b o, s.heap.get? b = some o → h'.get? b = some o) → Q (.ref (s.heap.objs.size + 1)) { s with heap := h' }) :
    wpAny (model prog w) A (call (.type "enumerate") [v]) Q E s := by
  refine callType_new F.called_enumerate (by decide) (F.typeCall_enumerate_1 _) (F.newCall_enumerate_1 _) (fun obj => F.args_object_init_2 obj _) F.entry_enumerate_new
    (mi_meets_enumB B) ⟨h1, ?_⟩
  have hz : (s.heap.push o).objs.size = s.heap.objs.size + 1 := Heap.size_push ..
  show _ ∧ _
  rw [hz]
  have he : IsEnum ((s.heap.push o).push { cls := .type "enumerate", data := .fields #[.none, .bool false, .ref s.heap.objs.size, rawInt 0, .none, .none] }) (s.heap.objs.size + 1) s.heap.objs.size 0 .none := by
    have := Heap.get?_push_size (s.heap.push o) (o := { cls := .type "enumerate", data := .fields #[.none, .bool false, .ref s.heap.objs.size, rawInt 0, .none, .none] }) rfl
    rw [hz] at this; exact this
  refine ⟨⟨_, he, rfl⟩, h _ he (Heap.get?_push_of_some _ (Heap.get?_push_size _ B.free)) (by rw [Heap.size_push, hz]) fun b o x => Heap.get?_push_of_some _ (Heap.get?_push_of_some _ x)⟩
end
end PySem
namespace MiS
open PySem PySem.Spec PyProof.Rows L2
/-- a tuple, each item in a new pair -/
def IteT (K : PySem.W.Frag) (a : Addr) : It :=
  ⟨fun i H => ∃ (xs : List V) (x : V), SqT K H a xs ∧ xs[i]? = some x, fun i H v H' => ∃ T x, v = .ref T ∧ H T = none ∧ H' = upd H T (.tup [.int (i : Nat), x]) ∧ ∀ xs, SqT K H a xs → xs[i]? = some x, fun i H => ∃ xs : List V, SqT K H a xs ∧ xs.length ≤ i⟩
theorem turn_enumT {P : Program} {w : World} {K : PySem.W.Frag} {elts : List Expr} {kk : Nat} {tpos : Pos} (a e it : Addr) :
    Turn P w K (.Tuple elts kk tpos) (IteT K a) [e, it] e (fun i h => (∃ old, IsEnum h e it ((i : Nat) : Int) old) ∧ h.IsTupleIter it a i ∧ e ≠ it ∧ a ≠ it ∧ a ≠ e) where
  mem := by simp
  obj := fun i h st b hb => by
    obtain ⟨⟨old, he⟩, ⟨o, ho, hc, hd⟩, _⟩ := st
    have e' : b = e ∨ b = it := by simpa using hb
    rcases e' with z | z
    · rw [z]; exact ⟨_, he, fun v q => nomatch q⟩
    · rw [z]; exact ⟨o, ho, fun v q => by rw [hd] at q; cases q⟩
  keep := fun i h h' st k => let ⟨⟨old, he⟩, hi, hne⟩ := st; ⟨⟨old, k e (by simp) _ he⟩, hi.at fun o q => k it (by simp) o q, hne⟩
  item := by
    intro X hP hw hK hc i pins s σ H E I hf st hg
    subst hP hw hK
    obtain ⟨⟨old, he⟩, hit, hne, hai, hae⟩ := st
    obtain ⟨xs, x, hq, hx⟩ := hg
    obtain ⟨its, rv, p, hz⟩ := I.tuple hq
    obtain ⟨u, hu, ru⟩ := rv.get hx
    have hel : e < s.heap.objs.size := Heap.lt_size he
    have hil : it < s.heap.objs.size := by obtain ⟨_, q, _⟩ := hit; exact Heap.lt_size q
    have pT : s.heap.IsTuple a its.toArray := p
    have hi : i < its.toArray.size := by
      have := (List.getElem?_eq_some_iff.mp hu).1
      simpa using this
    refine wpAny_pyNext_enum_itemD (Draws.tuple (prog := X.prog) (w := X.w) (A := X.A.in1) (I.ok.hd hc) it a hai its.toArray) he ⟨hit, pT⟩ hi hne (by simp; exact ⟨hne, Ne.symm hae⟩) fun x' h' tk hP ho hst' hT hsz hk => ?_
    obtain ⟨hit', _⟩ := hst'
    have ex' : x' = u := by
      have h0 : its[i]? = some x' := by simpa using hP
      rw [hu] at h0; cases h0; rfl
    subst ex'
    refine ⟨_, rfl, wpAny_letOwnedTupleGo_enum (s := { s with heap := h', toks := tk + 1 }) ho fun h'' he' sb => ?_⟩
    have hT2 : h''.get? s.heap.objs.size = some { cls := .type "tuple", data := .seq #[.int i tk, x'] } := (sb.2 _ (Nat.ne_of_gt hel)).trans hT
    have new : ObjOk X.prog X.w (upd H s.heap.objs.size (.tup [.int (i : Nat), x])) h'' s.heap.objs.size (.tup [.int (i : Nat), x]) :=
      ⟨by show 2 ≤ sizeLine; decide, [.int i tk, x'], .cons ⟨_, rfl⟩ (.cons ru .nil), ⟨_, hT2, rfl, _, rfl⟩⟩
    have I1 : Inv X pins σ (upd H s.heap.objs.size (.tup [.int (i : Nat), x])) { s with heap := h'', toks := tk + 1 } :=
      I.turnedNew (ch := [e, it]) (fun b ob hb q => (sb.2 b (fun z => hb (by simp [z]))).trans (hk b ob (fun z => hb (by simp [z])) (fun z => hb (by simp [z])) q)) hf (Nat.le_refl _) new
    refine ⟨.ref s.heap.objs.size, _, I1, rfl, ⟨_, x, rfl, I.hok.fresh (Nat.le_refl _), rfl, fun ys hy => by rw [I.tuple_inj hy hq]; exact hx⟩, ⟨⟨x', ?_⟩, hit'.at fun o q => (sb.2 it (Ne.symm hne)).trans q, hne, hai, hae⟩, fun b hb => ?_⟩
    · have e1 : ((i + 1 : Nat) : Int) = (i : Int) + 1 := by omega
      rw [e1]; exact he'
    · have hb' : b < s.heap.objs.size := by
        have e' : b = e ∨ b = it := by simpa using hb
        rcases e' with z | z
        · rw [z]; exact hel
        · rw [z]; exact hil
      rw [upd_ne (Nat.ne_of_lt hb')]
      exact (hf b hb).1
  done := by
    intro X hP hw hK hc i pins s σ H E I hf st hg
    subst hP hw hK
    obtain ⟨⟨old, he⟩, hit, hne, hai, hae⟩ := st
    obtain ⟨xs, hq, hx⟩ := hg
    obtain ⟨its, rv, p, hz⟩ := I.tuple hq
    obtain ⟨f0, f1, f2, f3, f4, f5⟩ := hf it (by simp)
    have hl := rv.length
    have pT : s.heap.IsTuple a its.toArray := p
    have hT : s.TypeIs (.ref e) "enumerate" := ⟨_, he, rfl⟩
    unfold pyNext
    refine wpAny_bind (wpAny_attempt (wpAny_callSpecial?_slot (name := Str.ofString "__next__") hT F.slot_enumerate_next
      (wpAny_call_entry F.slot_enumerate_next hT F.entry_enumerate_next ?_ (F.args_enumerate_next_1 _))))
    show wpAny _ _ (field (.ref e) 2 >>= _) _ _ _
    refine wpAny_bind (wpAny_field he rfl (x := .ref it) rfl ?_)
    refine wpAny_bind (wpAny_nextOf_tuple_end (I.ok.hd hc) hit pT (by simp; omega) fun h' x he' hx' => ?_)
    obtain ⟨o, ho, hc'⟩ := hx'
    refine wpAny_bind (wpAny_isInstance (T := "StopIteration") (b := true) ⟨o, ho, hc'⟩ isSubtype_stop ?_)
    exact wpAny_pure ⟨rfl, I.turned (t' := s.toks) (fun b o hb q => he' b o hb q) f0 f1 f3 f4 f5⟩
  self := fun A i s Q E st h => let ⟨⟨_, he⟩, _⟩ := st; wpAny_pyIter_enum he h
theorem walk_enumT {K : PySem.W.Frag} {a : Addr} {xs : List V} : Walk (IteT K a) xs.length (fun H => SqT K H a xs) (YPair (fun i => some (.int (i : Nat))) (fun i => xs[i]?)) := by
  refine ⟨fun i H hi g => ⟨xs, xs[i], g, by simp [hi]⟩, fun H g => ⟨xs, g, Nat.le_refl _⟩, fun i H x H' hi g y => ?_⟩
  obtain ⟨T, z, e1, n, e2, f⟩ := y
  exact ⟨T, _, z, e1, n, e2, rfl, f xs g⟩
end MiS

namespace Mi
open PySem L2 PySem.Spec PyProof.Rows
/-! ## set(a list of ints) -/
section
variable {P : Program} {w : World} {A : Around} {E : Value → Shared → Prop} {s : Shared}
abbrev nSet (w : World) : Obj := { cls := .type "set", dict := none, data := .set #[] 0 (.fresh 0 0 (!w.params.followText "set-order")) }
def SetLs (w : World) (s : Shared) (ns : List Int) (s₂ : Shared) : Prop := ∃ h' tk c, s₂ = { s with heap := h', toks := tk } ∧ SetR w h' s.heap.objs.size (fun j => decide (j ∈ ns)) c ∧ c ≤ ns.length ∧ ∀ b o, s.heap.get? b = some o → h'.get? b = some o
theorem call_setL {l : Addr} {items : Array Value} (ns : List Int) {Q : Value → Shared → Prop} (hh : A.handled = none) (hl : s.heap.IsList l items) (hit : IntsAre items.toList ns) (hb : ns.length + 1 < scanBound)
    (h : ∀ (h' : Heap) (tk c : Nat), SetR w h' s.heap.objs.size (fun j => decide (j ∈ ns)) c → c ≤ ns.length → (∀ b o, s.heap.get? b = some o → h'.get? b = some o) → Q (.ref s.heap.objs.size) { s with heap := h', toks := tk }) :
    wpAny (model P w) A (call (.type "set") [.ref l]) Q E s := by
  have zs : items.size = ns.length := by have q := IntsAre.length hit; rwa [Array.length_toList] at q
  obtain ⟨c, tl, hmro⟩ := F.called_set.mro
  have t1 := F.called_set.made; have t2 := F.called_set.sub
  refine wpAny_call (codeAny_of_tree ?_)
  show wpAny _ _ (callAny (.type "set") _) _ _ _
  refine wpAny_pure ⟨Code.quiet_builtin _ (by decide +kernel), codeAny_builtin F.entry_type_call ?_⟩
  rw [Around.under_plain (weight_type_call_type "set" [.ref l] []) rfl]
  have t3 := F.called_set.notType; have t4 := F.called_set.canCreate; have t5 := F.typeCall_set_1 (.ref l)
  repeat (any_goals (first | assumption | wp_step))
  refine codeAny_mono (code_set_led1 (.ref l) (E := E) (Q₁ := fun u s₁ => u = .ref s.heap.objs.size ∧ s₁ = { s with heap := s.heap.push (nSet w) }) ⟨rfl, rfl⟩) fun r s₁ z => ?_
  rcases r with e | (u | _ | _ | _) <;> first | exact z | exact z.elim | skip
  obtain ⟨rfl, rfl⟩ := z
  have gS : (s.heap.push (nSet w)).get? s.heap.objs.size = some (nSet w) := Heap.get?_push_size _ rfl
  have tS : Shared.TypeIs { s with heap := s.heap.push (nSet w) } (.ref s.heap.objs.size) "set" := ⟨_, gS, rfl⟩
  have t6 := F.called_set.init.lookup; have t7 := F.called_set.init.bind (.ref s.heap.objs.size)
  repeat (any_goals (first | assumption | wp_step))
  refine codeAny_mono (codeAny_call_builtin (R := wants (fun r s₂ => r = .none ∧ SetLs w s ns s₂) E) F.called_set.init.plain F.entry_set_init (check_set_init_1 tS ?_)) fun r₂ s₂ z2 => ?_
  · obtain ⟨⟨oc, od, oda, osl⟩, hol, hcl, nl, hdl⟩ := hl
    simp only at hcl hdl
    subst hcl; subst hdl
    have gl : (s.heap.push (nSet w)).get? l = some { cls := .type "list", dict := od, data := .seq items nl, slots := osl } := Heap.get?_push_of_some _ hol
    have u1 := F.sub_list_set; have u2 := F.sub_list_frozenset
    have u3 : (Value.type "list" == Value.type "dict") = false := by decide
    have l1 : (s.heap.push (nSet w)).IsList l items := ⟨_, gl, rfl, nl, rfl⟩
    unfold Builtin.«set.__init__» noKeywords Builtin.Frozenset.updateFrom
    generalize hpi : pyIter = PI
    wp_walk
    subst hpi
    refine wpAny_pyIter_list l1 (wpAny_bind (wpAny_runValue ?_))
    have ls : l < s.heap.objs.size := Heap.lt_size hol
    have h3 : A.in1.in1.in1.handled = none := by simp [hh]
    have lt2 : l < (s.heap.push (nSet w)).objs.size := by rw [Heap.size_push]; exact Nat.lt_succ_of_lt ls
    have nI : l ≠ (s.heap.push (nSet w)).objs.size := Nat.ne_of_lt lt2
    have nS : s.heap.objs.size ∉ [(s.heap.push (nSet w)).objs.size, l] := by
      have a1 : s.heap.objs.size < (s.heap.push (nSet w)).objs.size := by rw [Heap.size_push]; exact Nat.lt_succ_self _
      intro z
      rcases List.mem_cons.mp z with z | z
      · exact Nat.ne_of_lt a1 z
      · exact Nat.ne_of_gt ls (List.mem_singleton.mp z)
    have val : ∀ (i : Nat) (v : Value), items[i]? = some v → ∃ k t, ns[i]? = some k ∧ v = .int k t := fun i v hv => by
      have hi : i < ns.length := by rw [← zs]; exact (Array.getElem?_eq_some_iff.mp hv).1
      obtain ⟨t, e⟩ := PyProof.Rows.IntsAre.int_at hit i v (by rw [Array.getElem?_toList]; exact hv)
      exact ⟨ns[i], t, List.getElem?_eq_getElem hi, by rw [e, List.getD_eq_getElem?_getD, List.getElem?_eq_getElem hi] <;> rfl⟩
    refine set_update_ints ((Walks.list h3 _ l nI items).toS) s.heap.objs.size nS ns zs hb val (items.size - 0) 0 _ (by omega) (Nat.zero_le _) ⟨⟨_, Heap.get?_push_size _ rfl, rfl, rfl⟩, (l1.push _)⟩ ⟨0, Nat.le_refl 0, setR_new_at (Heap.get?_push_of_some _ gS)⟩ fun s' c' mv hc' rs => ?_
    obtain ⟨h', g2, d', tk', os'⟩ := s'
    obtain rfl : g2 = s.gens := mv.gens
    obtain rfl : d' = s.drawn := mv.drawn
    obtain rfl : os' = s.os := mv.os
    show wpAny _ _ _ _ _ _
    refine wpAny_pure ?_
    show wpAny _ _ (ret Value.none) _ _ _
    rw [zs] at hc'
    refine wpAny_pure ⟨rfl, h', tk', c', rfl, rs, hc', fun b o e => ?_⟩
    have b0 : b < s.heap.objs.size := Heap.lt_size e
    have b1 : b < (s.heap.push (nSet w)).objs.size := by rw [Heap.size_push]; exact Nat.lt_succ_of_lt b0
    exact mv.heap b o (fun z => (List.mem_cons.mp z).elim (fun z => Nat.ne_of_lt b0 z) fun z => Nat.ne_of_lt b1 (List.mem_singleton.mp z)) (Heap.get?_push_of_some _ (Heap.get?_push_of_some _ e))
  · rcases r₂ with e | (r | _ | _ | _) <;> first | exact z2 | exact z2.elim | skip
    obtain ⟨rfl, h', tk, c, rfl, rs, hc, k⟩ := z2
    repeat (any_goals (first | assumption | wp_step))
    exact h _ _ _ rs hc k
end
end Mi

namespace Mi
open PySem L2
/-! ## what is walked -/
/-- what cannot be written stays -/
structure ExtI (ι : List Addr) (H : Hp) (ι1 : List Addr) (H1 : Hp) : Prop where
  pre : ∃ ex, ι1 = ι ++ ex
  fr : ∀ a o, H a = some o → isM o = false → H1 a = some o
theorem Ext.toI {ι ι1 : List Addr} {H H1 : Hp} (e : Ext ι H ι1 H1) (m : MutI ι H) : ExtI ι H ι1 H1 :=
  ⟨let ⟨ex, q, _⟩ := e.pre; ⟨ex, q⟩, fun a o q z => e.fr a o q fun hi => by obtain ⟨o', e', z'⟩ := m a hi; rw [q] at e'; cases e'; rw [z] at z'; cases z'⟩
theorem ExtI.get {ι ι1 : List Addr} {H H1 : Hp} {a : Addr} (e : ExtI ι H ι1 H1) {n : Nat} (q : ι[n]? = some a) : ι1[n]? = some a := by
  obtain ⟨ex, rfl⟩ := e.pre
  obtain ⟨hn, _⟩ := List.getElem?_eq_some_iff.mp q
  rw [List.getElem?_append_left hn]; exact q
theorem FzL.extI {K : PySem.W.Frag} {ι ι1 : List Addr} {H H1 : Hp} {a : Addr} {xs : List V} (e : ExtI ι H ι1 H1) (r : FzL K H a xs) : FzL K H1 a xs := by
  rcases r with ⟨o, r⟩ | r
  · exact .inl ⟨o, e.fr a _ r rfl⟩
  · exact .inr r
theorem TupS.extI {ι ι1 : List Addr} {H H1 : Hp} {a : Addr} {xs : List V} (e : ExtI ι H ι1 H1) (r : TupS H a xs) : TupS H1 a xs := let ⟨ob, hd, r⟩ := r; ⟨ob, hd, e.fr a _ r rfl⟩
theorem WkT.extI {K : PySem.W.Frag} {ι ι1 : List Addr} {H H1 : Hp} {a : Addr} {xs : List V} (e : ExtI ι H ι1 H1) (r : WkT K H a xs) : WkT K H1 a xs := by
  rcases r with r | r
  · exact .inl r
  · exact .inr (e.fr a _ r rfl)
mutual
theorem Rp.extI {K : PySem.W.Frag} {ι ι1 : List Addr} {H H1 : Hp} (e : ExtI ι H ι1 H1) : ∀ {d : D} {v : V}, Rp K ι H d v → Rp K ι1 H1 d v
  | _, _, .non => .non
  | _, _, .bl b => .bl b
  | _, _, .int i => .int i
  | _, _, .str x => .str x
  | _, _, .tup s r => .tup (s.extI e) (RpL.extI e r)
  | _, _, .kt s r => .kt (s.extI e) (RpL.extI e r)
  | _, _, .ref q => .ref (e.get q)
  | _, _, .fz r => .fz (r.extI e)
  | _, _, .fn r => .fn r
theorem RpL.extI {K : PySem.W.Frag} {ι ι1 : List Addr} {H H1 : Hp} (e : ExtI ι H ι1 H1) : ∀ {xs : List D} {vs : List V}, RpL K ι H xs vs → RpL K ι1 H1 xs vs
  | _, _, .nil => .nil
  | _, _, .cons r s => .cons (Rp.extI e r) (RpL.extI e s)
end
/-- J gives the items of w as long as what must stay stays; t: what is walked and nobody's, made behind H0 -/
def WalkR (K : PySem.W.Frag) (H0 : Hp) (ι : List Addr) (H : Hp) (w : Its) (J : It) : Prop :=
  ∃ (G : Hp → Prop) (Y : Nat → Hp → V → Hp → Prop) (t : List Addr), L2.Walk J w.items.length G Y ∧ (∀ a ∈ t, H0 a = none ∧ a ∉ ι ∧ ∃ o, H a = some o) ∧
    (∀ ι2 H2 h2, ExtI ι H ι2 H2 → (∀ a ∈ t, H2 a = H a) → RelH K ι2 h2 H2 → liveOk w.live h2 = true → G H2) ∧
    ∀ i x ι2 H2 h2 H3, i < w.items.length → ExtI ι H ι2 H2 → (∀ a ∈ t, H2 a = H a) → RelH K ι2 h2 H2 → liveOk w.live h2 = true → Y i H2 x H3 → ∃ d, w.items[i]? = some d ∧ Same H2 H3 ∧ Rp K ι2 H3 d x
def PostI (ω : XWi) (K : PySem.W.Frag) (ι : List Addr) (H : Hp) (r : R Its) (Q : It → Hp → Prop) : Prop := match r with
  | .ok w h1 => ∀ ι1 J H1, Ext ι H ι1 H1 → RelH K ι1 h1 H1 → WalkR K H ι1 H1 w J → Q J H1
  | .exc c fs h1 => ∀ ι1 H1, Ext ι H ι1 H1 → RelH K ι1 h1 H1 → ω ι1 H1 c fs
  | .bad => False
def tI (Z : XI) (K : PySem.W.Frag) (cl : Cl) (c : CI) : TI := fun σ H Q => ∃ ι δ h, RelE K ι δ h σ H ∧ PostI (Z.at K σ) K ι H (evalI cl c δ h) Q
variable {Z : XI}
section
variable {K : PySem.W.Frag} {ι ι1 ι2 : List Addr} {H H1 H2 : Hp} {h h1 h2 : HS} {w : Its} {a : Addr} {d : D} {v : V} {n : Nat}
/-- a list, or a tuple, that keeps its items -/
def Stays (SQ : Hp → List V → Prop) (K : PySem.W.Frag) (H0 : Hp) (ι : List Addr) (H : Hp) (w : Its) : Prop :=
  ∃ t : List Addr, (∀ a ∈ t, H0 a = none ∧ a ∉ ι ∧ ∃ o, H a = some o) ∧
    ∀ ι3 H3 h3, ExtI ι H ι3 H3 → (∀ a ∈ t, H3 a = H a) → RelH K ι3 h3 H3 → liveOk w.live h3 = true → ∃ vs, SQ H3 vs ∧ RpL K ι3 H3 w.items vs
theorem no_t {ι : List Addr} {H0 H : Hp} : ∀ a ∈ ([] : List Addr), H0 a = none ∧ a ∉ ι ∧ ∃ o, H a = some o := fun _ h => by cases h
theorem walkD_ok (e : Ext ι H ι1 H1) (hn : ι.length = n) (r : RelH K ι1 h1 H1) (rp : Rp K ι1 H1 d v) (t : walkD n d h1 = .ok w h2) :
    ∃ ι2 a, Ext ι H ι2 H1 ∧ RelH K ι2 h2 H1 ∧ v = .ref a ∧ liveOk w.live h2 = true ∧ (Stays (fun H vs => SqL K H a vs) K H ι2 H1 w ∨ Stays (fun H vs => SqT K H a vs) K H ι2 H1 w) := by
  cases rp with
  | tup s q =>
    cases t
    exact ⟨ι1, _, e, r, rfl, rfl, .inr ⟨[], no_t, fun ι3 H3 h3 e3 _ r3 _ => ⟨_, (s.extI e3).sq, q.extI e3⟩⟩⟩
  | kt s q =>
    cases t
    exact ⟨ι1, _, e, r, rfl, rfl, .inr ⟨[], no_t, fun ι3 H3 h3 e3 _ r3 _ => ⟨_, (s.extI e3).sq, q.extI e3⟩⟩⟩
  | fz f =>
    cases t
    exact ⟨ι1, _, e, r, rfl, rfl, .inl ⟨[], no_t, fun ι3 H3 h3 e3 _ r3 _ => ⟨_, (f.extI e3).sq, RpL.ints⟩⟩⟩
  | @ref c p er =>
    simp only [walkD] at t
    cases hc : h1[c]? with
    | none => rw [hc] at t; cases t
    | some cc =>
      rw [hc] at t
      cases cc with
      | lst xs =>
        obtain ⟨_, ws, z, _, e1, r1⟩ := (Rp.ref er : Rp K ι1 H1 _ _).lstOf r hc
        cases z
        have t : (if (decide (n ≤ c) && (h1.take n).all (Cell.lo n) && D.los n xs) = true then R.ok (⟨xs, none⟩ : Its) (h1.take n) else .ok ⟨xs, some (c, xs)⟩ h1) = .ok w h2 := t
        by_cases hb : (decide (n ≤ c) && (h1.take n).all (Cell.lo n) && D.los n xs) = true
        · rw [if_pos hb] at t; cases t
          rw [Bool.and_eq_true, Bool.and_eq_true, decide_eq_true_eq] at hb
          have rt := r.take hb.1.2
          rw [e.take hn] at rt
          obtain ⟨ex, hx, nx⟩ := e.pre
          have px : p ∈ ex := by
            rw [hx, List.getElem?_append_right (by omega)] at er
            exact List.mem_of_getElem? er
          have pn : p ∉ ι := fun hp => by
            have := r.nd
            rw [hx] at this
            exact (List.nodup_append.mp this).2.2 p hp p px rfl
          have rl := r1.low hb.2
          rw [e.take hn] at rl
          exact ⟨ι, p, e.cut, rt, rfl, rfl, .inl ⟨[p], fun a ha => by simp at ha; subst ha; exact ⟨nx _ px, pn, _, e1⟩, fun ι3 H3 h3 e3 t3 r3 _ => ⟨ws, SqL.of ((t3 p (by simp)).trans e1), rl.extI e3⟩⟩⟩
        · rw [if_neg hb] at t; cases t
          refine ⟨ι1, p, e, r, rfl, by simp [liveOk, hc], .inl ⟨[], no_t, fun ι3 H3 h3 e3 _ r3 lv => ?_⟩⟩
          have hc3 : h3[c]? = some (.lst xs) := by simpa [liveOk] using lv
          obtain ⟨_, ws3, z, _, e4, r4⟩ := (Rp.ref (e3.get er) : Rp K ι3 H3 _ _).lstOf r3 hc3
          cases z
          exact ⟨ws3, SqL.of e4, r4⟩
      | _ => cases t
  | _ => cases t
theorem walk_listX : L2.Walk (Itl K a) n (fun H => ∃ vs, SqL K H a vs ∧ vs.length = n) (fun i H x H' => H' = H ∧ ∀ vs, SqL K H a vs → vs[i]? = some x) :=
  ⟨fun i H hi ⟨vs, q, e⟩ => ⟨vs, vs[i]'(by omega), q, List.getElem?_eq_getElem (by omega)⟩, fun H ⟨vs, q, e⟩ => ⟨vs, q, by omega⟩, fun i H x H' _ _ y => y⟩
theorem walk_tupX : L2.Walk (Itt K a) n (fun H => ∃ vs, SqT K H a vs ∧ vs.length = n) (fun i H x H' => H' = H ∧ ∀ vs, SqT K H a vs → vs[i]? = some x) :=
  ⟨fun i H hi ⟨vs, q, e⟩ => ⟨vs, vs[i]'(by omega), q, List.getElem?_eq_getElem (by omega)⟩, fun H ⟨vs, q, e⟩ => ⟨vs, q, by omega⟩, fun i H x H' _ _ y => y⟩
theorem Stays.walk {SQ : Hp → List V → Prop} {J : It} {H0 : Hp} (s : Stays SQ K H0 ι H w) (hw : L2.Walk J w.items.length (fun H => ∃ vs, SQ H vs ∧ vs.length = w.items.length) (fun i H x H' => H' = H ∧ ∀ vs, SQ H vs → vs[i]? = some x)) : WalkR K H0 ι H w J := by
  obtain ⟨t, ht, s⟩ := s
  refine ⟨_, _, t, hw, ht, fun ι2 H2 h2 e2 t2 r2 lv => ?_, fun i x ι2 H2 h2 H3 hi e2 t2 r2 lv y => ?_⟩
  · obtain ⟨vs, q, r⟩ := s ι2 H2 h2 e2 t2 r2 lv
    exact ⟨vs, q, r.length.symm⟩
  · obtain ⟨rfl, y⟩ := y
    obtain ⟨vs, q, r⟩ := s ι2 H3 h2 e2 t2 r2 lv
    obtain ⟨d, e1, rd⟩ := r.getV (y vs q)
    exact ⟨d, e1, fun _ _ z => z, rd⟩
theorem enumL_length : ∀ (k : Nat) (xs : List D), (enumL k xs).length = xs.length
  | _, [] => rfl
  | k, x :: r => by rw [enumL, List.length_cons, List.length_cons, enumL_length]
theorem enumL_get : ∀ (xs : List D) (k i : Nat) (x : D), xs[i]? = some x → (enumL k xs)[i]? = some (.kt [.int ((k + i : Nat) : Int), x])
  | [], _, _, _, e => by simp at e
  | y :: r, k, 0, x, e => by simp at e; subst e; rfl
  | y :: r, k, i + 1, x, e => by
    have := enumL_get r (k + 1) i x (by simpa using e)
    rw [enumL, List.getElem?_cons_succ, this]
    have e2 : k + 1 + i = k + (i + 1) := by omega
    rw [e2]
theorem walk_enumXL : L2.Walk (Ite K a) n (fun H => ∃ vs, SqL K H a vs ∧ vs.length = n) (fun i H v H' => ∃ T x, v = .ref T ∧ H T = none ∧ H' = upd H T (.tup [.int (i : Nat), x]) ∧ ∀ vs, SqL K H a vs → vs[i]? = some x) :=
  ⟨fun i H hi ⟨vs, q, e⟩ => ⟨vs, vs[i]'(by omega), q, List.getElem?_eq_getElem (by omega)⟩, fun H ⟨vs, q, e⟩ => ⟨vs, q, by omega⟩, fun i H x H' _ _ y => y⟩
theorem walk_enumXT : L2.Walk (MiS.IteT K a) n (fun H => ∃ vs, SqT K H a vs ∧ vs.length = n) (fun i H v H' => ∃ T x, v = .ref T ∧ H T = none ∧ H' = upd H T (.tup [.int (i : Nat), x]) ∧ ∀ vs, SqT K H a vs → vs[i]? = some x) :=
  ⟨fun i H hi ⟨vs, q, e⟩ => ⟨vs, vs[i]'(by omega), q, List.getElem?_eq_getElem (by omega)⟩, fun H ⟨vs, q, e⟩ => ⟨vs, q, by omega⟩, fun i H x H' _ _ y => y⟩
theorem Stays.walkE {SQ : Hp → List V → Prop} {J : It} {H0 : Hp} (s : Stays SQ K H0 ι H w) (hw : L2.Walk J w.items.length (fun H => ∃ vs, SQ H vs ∧ vs.length = w.items.length) (fun i H v H' => ∃ T x, v = .ref T ∧ H T = none ∧ H' = upd H T (.tup [.int (i : Nat), x]) ∧ ∀ vs, SQ H vs → vs[i]? = some x)) :
    WalkR K H0 ι H ⟨enumL 0 w.items, w.live⟩ J := by
  obtain ⟨t, ht, s⟩ := s
  refine ⟨_, _, t, by rw [enumL_length]; exact hw, ht, fun ι2 H2 h2 e2 t2 r2 lv => ?_, fun i x ι2 H2 h2 H3 hi e2 t2 r2 lv y => ?_⟩
  · obtain ⟨vs, q, r⟩ := s ι2 H2 h2 e2 t2 r2 lv
    exact ⟨vs, q, r.length.symm⟩
  · obtain ⟨T, z, rfl, nT, rfl, y⟩ := y
    obtain ⟨vs, q, r⟩ := s ι2 H2 h2 e2 t2 r2 lv
    obtain ⟨d, e1, rd⟩ := r.getV (y vs q)
    have ex : Ext ι2 H2 ι2 (upd H2 T (.tup [.int (i : Nat), z])) := Ext.same (same_new nT)
    refine ⟨_, enumL_get _ 0 i d e1, same_new nT, .kt (.inr upd_same) (.cons ?_ (.cons (rd.ext ex r2.mut) .nil))⟩
    rw [Nat.zero_add]; exact .int _
theorem walk_revXL : L2.Walk (Itv K a n) n (fun H => ∃ vs, SqL K H a vs ∧ vs.length = n) (fun i H x H' => H' = H ∧ ∀ vs, SqL K H a vs → vs[n - 1 - i]? = some x) :=
  ⟨fun i H hi ⟨vs, q, e⟩ => ⟨hi, vs, vs[n - 1 - i]'(by omega), q, List.getElem?_eq_getElem (by omega)⟩, fun H _ => Nat.le_refl _, fun i H x H' _ _ y => y⟩
theorem Stays.walkR {SQ : Hp → List V → Prop} {J : It} {H0 : Hp} (s : Stays SQ K H0 ι H w) (hw : L2.Walk J w.items.length (fun H => ∃ vs, SQ H vs ∧ vs.length = w.items.length) (fun i H x H' => H' = H ∧ ∀ vs, SQ H vs → vs[w.items.length - 1 - i]? = some x)) :
    WalkR K H0 ι H ⟨w.items.reverse, w.live⟩ J := by
  obtain ⟨t, ht, s⟩ := s
  refine ⟨_, _, t, by rw [List.length_reverse]; exact hw, ht, fun ι2 H2 h2 e2 t2 r2 lv => ?_, fun i x ι2 H2 h2 H3 hi e2 t2 r2 lv y => ?_⟩
  · obtain ⟨vs, q, r⟩ := s ι2 H2 h2 e2 t2 r2 lv
    exact ⟨vs, q, r.length.symm⟩
  · obtain ⟨rfl, y⟩ := y
    obtain ⟨vs, q, r⟩ := s ι2 H3 h2 e2 t2 r2 lv
    obtain ⟨d, e1, rd⟩ := r.getV (y vs q)
    refine ⟨d, ?_, fun _ _ z => z, rd⟩
    have hi : i < w.items.length := by simpa using hi
    rw [List.getElem?_reverse hi]; exact e1
theorem rngWalk {H0 : Hp} (lo hi : Int) : WalkR K H0 ι H ⟨rngL (lo, hi), none⟩ (Itr lo (hi - lo).toNat) := by
  have hl : (rngL (lo, hi)).length = (hi - lo).toNat := by simp [rngL]
  refine ⟨_, _, [], by rw [hl]; exact walk_range, no_t, fun _ _ _ _ _ _ _ => trivial, fun i x ι2 H2 h2 H3 hlt e2 _ r2 lv y => ?_⟩
  obtain ⟨rfl, rfl⟩ := y
  have hlt : i < (rngL (lo, hi)).length := hlt
  refine ⟨.int (lo + (i : Nat)), ?_, fun _ _ z => z, .int _⟩
  show (rngL (lo, hi))[i]? = _
  rw [hl] at hlt
  simp [rngL, hlt]
end
section
variable {X : Cx} {tg : Expr} {cl : Cl}
theorem pi_imp {e : Expr} {t t' : TI} (h : PI X tg e t) (i : ∀ σ H Q, t' σ H Q → t σ H Q) : PI X tg e t' := ⟨fun pins s σ H Q I q => h.run pins s σ H Q I (i σ H Q q)⟩
/-- a list or a tuple -/
def iSeq (K : PySem.W.Frag) (tl : TE) : TI := fun σ H R => tl σ H fun x H1 => ∃ a, x = .ref a ∧ (((∃ xs, SqL K H1 a xs) ∧ R (Itl K a) H1) ∨ ((∃ xs, SqT K H1 a xs) ∧ R (Itt K a) H1))
theorem pi_seqX {l : Expr} {tl : TE} (hl : PE X l tl) : PI X tg l (iSeq X.K tl) := by
  refine ⟨fun pins s σ H R I h => ?_⟩
  refine thn (hl.run pins s σ H _ I h) fun v s1 ⟨x, H1, I1, r1, q1⟩ => ?_
  obtain ⟨a, e, q⟩ := q1
  subst e
  cases r1
  rcases q with ⟨⟨xs, hq⟩, q⟩ | ⟨⟨xs, hq⟩, q⟩
  · obtain ⟨its, rv, p, hz⟩ := I1.list hq
    refine wpAny_pyIter_list p.isList ?_
    refine ⟨s1.heap.objs.size, [s1.heap.objs.size], _, _, H1, rfl, I1.kept (t' := s1.toks) fun b o e => Heap.get?_push_of_some _ e, turn_list a _, ⟨_, Heap.get?_push_size _ rfl, rfl, rfl⟩, fun b hb => ?_, q⟩
    have e : b = s1.heap.objs.size := by simpa using hb
    subst e
    exact I1.fpOk (Nat.le_refl _) (I1.hok.fresh (Nat.le_refl _))
  · obtain ⟨its, rv, p, hz⟩ := I1.tuple hq
    refine wpAny_pyIter_tuple (show s1.heap.IsTuple a its.toArray from p) ?_
    refine ⟨s1.heap.objs.size, [s1.heap.objs.size], _, _, H1, rfl, I1.kept (t' := s1.toks) fun b o e => Heap.get?_push_of_some _ e, turn_tuple a _, ⟨_, Heap.get?_push_size _ rfl, rfl, rfl⟩, fun b hb => ?_, q⟩
    have e : b = s1.heap.objs.size := by simpa using hb
    subst e
    exact I1.fpOk (Nat.le_refl _) (I1.hok.fresh (Nat.le_refl _))
open PyProof.Rows in
/-- enumerate of a list or a tuple -/
theorem pi_enumX {e : Expr} {ta : TE} {p pos tpos : Pos} {elts : List Expr} {kk : Nat} (hg : Gl X "enumerate") (hm : X.mg "enumerate" = none) (ha : PE X e ta) (hs : starEach [e] X.env = (false, eval e X.env) :: starEach [] X.env) :
    PI X (.Tuple elts kk tpos) (.Call (.Name "enumerate" p) [e] [] pos) (fun σ H R => ta σ H fun x H1 => ∃ a, x = .ref a ∧ (((∃ xs, SqL X.K H1 a xs) ∧ R (Ite X.K a) H1) ∨ ((∃ xs, SqT X.K H1 a xs) ∧ R (MiS.IteT X.K a) H1))) := by
  refine ⟨fun pins s σ H R I h => ?_⟩
  have hpa := pa_cons ha pa_nil hs
  refine Call_ (ld_blt I hg hm boot_enumerate (PyProof.Rows.callWith_type1 (thn (hpa.run pos pins s σ H (fun vs H1 => ∃ a, vs = [.ref a] ∧ (((∃ xs, SqL X.K H1 a xs) ∧ R (Ite X.K a) H1) ∨ ((∃ xs, SqT X.K H1 a xs) ∧ R (MiS.IteT X.K a) H1))) I ?_) fun us s1 ⟨vs, H1, I1, r1, q1⟩ => ?_) hs rfl))
  · refine (show ta σ H _ from ?_)
    have : (fun x H1 => ∃ a, x = V.ref a ∧ (((∃ xs, SqL X.K H1 a xs) ∧ R (Ite X.K a) H1) ∨ ((∃ xs, SqT X.K H1 a xs) ∧ R (MiS.IteT X.K a) H1))) = (fun (x : V) (H1 : Hp) => ∃ a, ([x] : List V) = [.ref a] ∧ (((∃ xs, SqL X.K H1 a xs) ∧ R (Ite X.K a) H1) ∨ ((∃ xs, SqT X.K H1 a xs) ∧ R (MiS.IteT X.K a) H1))) := by
      funext x H1; simp
    rw [this] at h
    exact h
  obtain ⟨a, ex, q⟩ := q1
  subst ex
  cases r1 with
  | cons r rr =>
    cases rr
    cases r
    rcases q with ⟨⟨xs, hq⟩, q⟩ | ⟨⟨xs, hq⟩, q⟩
    · obtain ⟨its, rv, p', hz⟩ := I1.list hq
      refine call_enumerate_list p'.isList fun h' he hit hsz hk => wpAny_pyIter_enum he ?_
      have I2 : Inv X pins σ H1 { s1 with heap := h' } := I1.kept (t' := s1.toks) hk
      refine ⟨s1.heap.objs.size + 1, [s1.heap.objs.size + 1, s1.heap.objs.size], _, _, H1, rfl, I2, turn_enum a (s1.heap.objs.size + 1) s1.heap.objs.size, ⟨⟨.none, he⟩, hit, Nat.succ_ne_self _⟩, fun b hb => ?_, q⟩
      have e' : b = s1.heap.objs.size + 1 ∨ b = s1.heap.objs.size := by simpa using hb
      have hle : s1.heap.objs.size ≤ b := by
        rcases e' with z | z
        · rw [z]; exact Nat.le_add_right _ _
        · rw [z]; exact Nat.le_refl _
      exact I1.fpOk hle (I1.hok.fresh hle)
    · obtain ⟨its, rv, p', hz⟩ := I1.tuple hq
      have pT : s1.heap.IsTuple a its.toArray := p'
      have al : a < s1.heap.objs.size := by obtain ⟨o, ho, _⟩ := p'; exact Heap.lt_size ho
      refine mi_enum_begins (begins_tuple a its.toArray) pT fun h' he hit hsz hk => wpAny_pyIter_enum he ?_
      have I2 : Inv X pins σ H1 { s1 with heap := h' } := I1.kept (t' := s1.toks) hk
      refine ⟨s1.heap.objs.size + 1, [s1.heap.objs.size + 1, s1.heap.objs.size], _, _, H1, rfl, I2, MiS.turn_enumT a (s1.heap.objs.size + 1) s1.heap.objs.size, ⟨⟨.none, he⟩, ⟨_, hit, rfl, rfl⟩, Nat.succ_ne_self _, Nat.ne_of_lt al, Nat.ne_of_lt (Nat.lt_succ_of_lt al)⟩, fun b hb => ?_, q⟩
      have e' : b = s1.heap.objs.size + 1 ∨ b = s1.heap.objs.size := by simpa using hb
      have hle : s1.heap.objs.size ≤ b := by
        rcases e' with z | z
        · rw [z]; exact Nat.le_add_right _ _
        · rw [z]; exact Nat.le_refl _
      exact I1.fpOk hle (I1.hok.fresh hle)
variable {e : Expr} {ce : CE}
/-- the common step: the walked thing is evaluated -/
theorem step_I {K : PySem.W.Frag} {ι : List Addr} {δ : En} {h : HS} {σ : St} {H : Hp} {F : Its → Its} {R' : VK} {Q : It → Hp → Prop} (re : RelE K ι δ h σ H) (q : PostI (Z.at K σ) K ι H ((evalE cl ce δ h).bind fun x h1 => (walkD h.length x h1).bind fun w h2 => .ok (F w) h2) Q)
    (k : ∀ w ι2 a H1 h2, Ext ι H ι2 H1 → RelH K ι2 h2 H1 → liveOk w.live h2 = true → (Stays (fun H vs => SqL K H a vs) K H ι2 H1 w ∨ Stays (fun H vs => SqT K H a vs) K H ι2 H1 w) → (∀ J, WalkR K H ι2 H1 (F w) J → Q J H1) → R' (.ref a) H1) : tE Z K cl ce σ H R' := by
  cases ee : evalE cl ce δ h with
  | ok x h1 =>
    rw [ee, R.bind_ok] at q
    refine ⟨ι, δ, h, re, ?_⟩
    rw [ee]
    intro ι1 v H1 ex r1 rp
    cases ew : walkD h.length x h1 with
    | ok w h2 =>
      rw [ew, R.bind_ok] at q
      obtain ⟨ι2, a, e2, r2, rfl, lv, st⟩ := walkD_ok ex re.rel.len r1 rp ew
      exact k w ι2 a H1 h2 e2 r2 lv st fun J hJ => q ι2 J H1 e2 r2 hJ
    | exc _ _ _ => exact absurd ew walkD_ne
    | bad => rw [ew] at q; exact q.elim
  | exc _ _ _ => rw [ee] at q; exact ⟨ι, δ, h, re, by rw [ee]; exact q⟩
  | bad => rw [ee] at q; exact q.elim
theorem bind_id (r : R Its) : (r.bind fun w h => .ok w h) = r := by cases r <;> rfl
theorem i_seq (ha : PE X e (tE Z X.K cl ce)) : PI X tg e (tI Z X.K cl (.seq ce)) := by
  refine pi_imp (pi_seqX ha) ?_
  rintro σ H Q ⟨ι, δ, h, re, q⟩
  simp only [evalI] at q
  refine step_I (F := id) (Q := Q) re ?_ fun w ι2 a H1 h2 e2 r2 lv st k => ⟨a, rfl, ?_⟩
  · have : (fun (x : D) h1 => (walkD h.length x h1).bind fun w h2 => R.ok (id w) h2) = fun x h1 => walkD h.length x h1 := by
      funext x h1; exact bind_id _
    rw [this]; exact q
  rcases st with st | st
  · obtain ⟨vs, sq, _⟩ := st.choose_spec.2 ι2 H1 h2 (Ext.refl.toI r2.mut) (fun _ _ => rfl) r2 lv
    exact .inl ⟨⟨vs, sq⟩, k _ (st.walk walk_listX)⟩
  · obtain ⟨vs, sq, _⟩ := st.choose_spec.2 ι2 H1 h2 (Ext.refl.toI r2.mut) (fun _ _ => rfl) r2 lv
    exact .inr ⟨⟨vs, sq⟩, k _ (st.walk walk_tupX)⟩
theorem i_enum {p pos tpos : Pos} {elts : List Expr} {kk : Nat} (hg : Gl X "enumerate") (hm : X.mg "enumerate" = none) (ha : PE X e (tE Z X.K cl ce)) (hs : starEach [e] X.env = (false, eval e X.env) :: starEach [] X.env) :
    PI X (.Tuple elts kk tpos) (.Call (.Name "enumerate" p) [e] [] pos) (tI Z X.K cl (.enum ce)) := by
  refine pi_imp (pi_enumX hg hm ha hs) ?_
  rintro σ H Q ⟨ι, δ, h, re, q⟩
  simp only [evalI] at q
  refine step_I (F := fun w => ⟨enumL 0 w.items, w.live⟩) re q fun w ι2 a H1 h2 e2 r2 lv st k => ⟨a, rfl, ?_⟩
  rcases st with st | st
  · obtain ⟨vs, sq, _⟩ := st.choose_spec.2 ι2 H1 h2 (Ext.refl.toI r2.mut) (fun _ _ => rfl) r2 lv
    exact .inl ⟨⟨vs, sq⟩, k _ (st.walkE walk_enumXL)⟩
  · obtain ⟨vs, sq, _⟩ := st.choose_spec.2 ι2 H1 h2 (Ext.refl.toI r2.mut) (fun _ _ => rfl) r2 lv
    exact .inr ⟨⟨vs, sq⟩, k _ (st.walkE walk_enumXT)⟩
theorem i_rng1 {a : Expr} {ca : CE} {p pos : Pos} (hg : Gl X "range") (hm : X.mg "range" = none) (ha : PE X a (tE Z X.K cl ca)) (na : starEach [a] X.env = (false, eval a X.env) :: starEach [] X.env) :
    PI X tg (.Call (.Name "range" p) [a] [] pos) (tI Z X.K cl (.rng (.cons ca .nil))) := by
  refine pi_imp (pi_range1 hg hm (p_cons ha p_nil na) na) ?_
  rintro σ H Q ⟨ι, δ, h, re, q⟩
  simp only [evalI] at q
  cases ee : evalL cl (.cons ca .nil) δ h with
  | ok xs h1 =>
    rw [ee, R.bind_ok] at q
    refine ⟨ι, δ, h, re, ?_⟩
    rw [ee]
    intro ι1 vs H1 ex r1 rp
    cases er : rngF xs with
    | none => rw [er] at q; exact q.elim
    | some pr =>
      rw [er] at q
      match xs, er, rp with
      | [x], er, rp =>
        obtain ⟨j, rfl, rfl, hj⟩ := rngF_one er
        obtain ⟨v, rfl, rv⟩ := rp.one
        cases rv
        have q := q ι1 (Itr 0 (j - 0).toNat) H1 ex r1 (rngWalk 0 j)
        rw [Int.sub_zero] at q
        refine ⟨j, rfl, by unfold LIM at hj; omega, by unfold LIM at hj; omega, q⟩
      | [], er, rp => cases er
      | x :: y :: z, er, rp =>
        have : (evalL cl (.cons ca .nil) δ h) = .ok (x :: y :: z) h1 := ee
        simp only [evalL] at this
        cases e2 : evalE cl ca δ h with
        | ok x h2 => rw [e2] at this; cases this
        | exc _ _ _ => rw [e2] at this; cases this
        | bad => rw [e2] at this; cases this
  | exc _ _ _ => rw [ee] at q; exact ⟨ι, δ, h, re, by rw [ee]; exact q⟩
  | bad => rw [ee] at q; exact q.elim
end
end Mi

namespace Mi
open PySem L2
/-! ## x op= y -/
section
variable {X : Cx}
theorem iopI {C : Int → Int → Prop} {g : Int → Int → V} {op : Value → Value → Sem Value} {f : D → D → HS → R D} (h : OpR X op (rI C g))
    (k : ∀ a b h Q H ι, RelH X.K ι h H → PostE ωF X.K ι H (f a b h) Q → ∃ i j, a = .int i ∧ b = .int j ∧ C i j ∧ Q (g i j) H) : OpR X op (rM f X.K) := o_int h fun a b h Q H ι q r => k a b h Q H ι r q
theorem i_add : OpR X (inplaceOp .Add) (rM (augF .Add) X.K) := by
  intro pins s σ H x y u v Q I rx ry hq
  obtain ⟨ι, h, a, b, rh, ra, rb, q⟩ := hq
  cases ra with
  | int i =>
    cases rb with
    | int j => exact iop_add pins s σ H _ _ u v Q I rx ry ⟨i, j, rfl, rfl, q.val rh (.int _)⟩
    | _ => exact q.elim
  | str i =>
    cases rb with
    | str j =>
      have q : PostE _ X.K ι H (if i.length + j.length ≤ LIM then .ok (.str (i ++ j)) h else .bad) Q := q
      by_cases c : i.length + j.length ≤ LIM
      · rw [if_pos c] at q
        exact iop_add_str pins s σ H _ _ u v Q I rx ry ⟨i, j, rfl, rfl, by rw [← LIM_line]; exact c, q.val rh (.str _)⟩
      · rw [if_neg c] at q; exact q.elim
    | _ => exact q.elim
  | @ref n p er =>
    cases rb with
    | @ref m p2 er2 =>
      have q : PostE _ X.K ι H (match h[n]?, h[m]? with
        | some (.lst xs), some (.lst ys) => if xs.length + ys.length ≤ LIM then .ok (.ref n) (h.set n (.lst (xs ++ ys))) else .bad
        | _, _ => .bad) Q := q
      cases hc : h[n]? with
      | none => rw [hc] at q; exact q.elim
      | some c =>
        rw [hc] at q
        cases c with
        | lst xs =>
          cases hc2 : h[m]? with
          | none => rw [hc2] at q; exact q.elim
          | some c2 =>
            rw [hc2] at q
            cases c2 with
            | lst ys =>
              have q : PostE _ X.K ι H (if xs.length + ys.length ≤ LIM then .ok (.ref n) (h.set n (.lst (xs ++ ys))) else .bad) Q := q
              by_cases c : xs.length + ys.length ≤ LIM
              · rw [if_pos c] at q
                obtain ⟨_, vs, z, _, e1, r1⟩ := (Rp.ref er : Rp X.K ι H _ _).lstOf rh hc
                cases z
                obtain ⟨_, ws, z, _, e2, r2⟩ := (Rp.ref er2 : Rp X.K ι H _ _).lstOf rh hc2
                cases z
                refine iop_ext pins s σ H _ _ u v Q I rx ry ⟨p, p2, vs, ws, rfl, rfl, e1, e2, by rw [← LIM_line, ← r1.length, ← r2.length]; exact c, ?_⟩
                exact q.setL rh er (r1.append r2) (.ref er)
              · rw [if_neg c] at q; exact q.elim
            | _ => exact q.elim
        | _ => exact q.elim
    | _ => exact q.elim
  | _ => exact q.elim
theorem i_sub : OpR X (inplaceOp .Sub) (rM (augF .Sub) X.K) := by
  refine iopI (C := fun _ _ => True) (OpR.imp iop_sub fun x y H Q ⟨i, j, e1, e2, _, q⟩ => ⟨i, j, e1, e2, q⟩) ?_
  intro a b h Q H ι rh q
  cases a <;> first | exact q.elim | skip
  cases b <;> first | exact q.elim | skip
  exact ⟨_, _, rfl, rfl, trivial, q.val rh (.int _)⟩
theorem i_mul : OpR X (inplaceOp .Mult) (rM (augF .Mult) X.K) := by
  refine iopI iop_mul ?_
  intro a b h Q H ι rh q
  cases a <;> first | exact q.elim | skip
  cases b <;> first | exact q.elim | skip
  rename_i i j
  have q : PostE _ X.K ι H (if mulOk i j = true then .ok (.int (i * j)) h else .bad) Q := q
  by_cases c : mulOk i j = true
  · rw [if_pos c] at q
    refine ⟨i, j, rfl, rfl, ?_, q.val rh (.int _)⟩
    simp only [mulOk, Bool.or_eq_true, Bool.and_eq_true, decide_eq_true_eq] at c
    exact c
  · rw [if_neg c] at q; exact q.elim
theorem i_fdiv : OpR X (inplaceOp .FloorDiv) (rM (augF .FloorDiv) X.K) := by
  refine iopI iop_fdiv ?_
  intro a b h Q H ι rh q
  cases a <;> first | exact q.elim | skip
  cases b <;> first | exact q.elim | skip
  rename_i i j
  have q : PostE _ X.K ι H (if (decide (0 < j) && decide (j < 1073741824)) = true then .ok (.int (i / j)) h else .bad) Q := q
  by_cases c : (decide (0 < j) && decide (j < 1073741824)) = true
  · rw [if_pos c] at q
    simp only [Bool.and_eq_true, decide_eq_true_eq] at c
    exact ⟨i, j, rfl, rfl, c, q.val rh (.int _)⟩
  · rw [if_neg c] at q; exact q.elim
theorem i_mod : OpR X (inplaceOp .Mod) (rM (augF .Mod) X.K) := by
  refine iopI iop_mod ?_
  intro a b h Q H ι rh q
  cases a <;> first | exact q.elim | skip
  cases b <;> first | exact q.elim | skip
  rename_i i j
  have q : PostE _ X.K ι H (if decide (0 < j) = true then .ok (.int (i % j)) h else .bad) Q := q
  by_cases c : decide (0 < j) = true
  · rw [if_pos c] at q
    exact ⟨i, j, rfl, rfl, of_decide_eq_true c, q.val rh (.int _)⟩
  · rw [if_neg c] at q; exact q.elim
theorem i_xor : OpR X (inplaceOp .BitXor) (rM (augF .BitXor) X.K) := by
  refine iopI (C := fun _ _ => True) (OpR.imp iop_xor fun x y H Q ⟨i, j, e1, e2, _, q⟩ => ⟨i, j, e1, e2, q⟩) ?_
  intro a b h Q H ι rh q
  cases a <;> first | exact q.elim | skip
  cases b <;> first | exact q.elim | skip
  exact ⟨_, _, rfl, rfl, trivial, q.val rh (.int _)⟩
def augOk : Operator → Bool
  | .Add | .Sub | .Mult | .FloorDiv | .Mod | .BitXor => true
  | _ => false
theorem i_any {o : Operator} (e : augOk o = true) : OpR X (inplaceOp o) (rM (augF o) X.K) := by
  cases o <;> first | exact i_add | exact i_sub | exact i_mul | exact i_fdiv | exact i_mod | exact i_xor | cases e
end
/-! ## what is wanted behind statements -/
def PostF (Z : XI) (K : PySem.W.Frag) (ι : List Addr) (H : Hp) (r : Fl) (E : Ends) : Prop := match r with
  | .next δ h => ∀ ι1 σ H1, Ext ι H ι1 H1 → RelE K ι1 δ h σ H1 → E.nx σ H1
  | .brk δ h => ∀ ι1 σ H1, Ext ι H ι1 H1 → RelE K ι1 δ h σ H1 → E.bk σ H1
  | .cont δ h => ∀ ι1 σ H1, Ext ι H ι1 H1 → RelE K ι1 δ h σ H1 → E.ct σ H1
  | .ret d h => ∀ ι1 v H1, Ext ι H ι1 H1 → RelH K ι1 h H1 → Rp K ι1 H1 d v → E.rt v H1
  | .exc c fs δ h => ∀ ι1 σ H1, Ext ι H ι1 H1 → RelE K ι1 δ h σ H1 → Z.at K σ ι1 H1 c fs
  | .bad => False
def tS (Z : XI) (K : PySem.W.Frag) (cl : Cl) (c : CS) : TS := fun E σ H => ∃ ι δ h, RelE K ι δ h σ H ∧ PostF Z K ι H (execS cl c δ h) E
def tSs (Z : XI) (K : PySem.W.Frag) (cl : Cl) (c : CSs) : TS := fun E σ H => ∃ ι δ h, RelE K ι δ h σ H ∧ PostF Z K ι H (execB cl c δ h) E
def PostA (Z : XI) (K : PySem.W.Frag) (ι : List Addr) (H : Hp) (r : R En) (Q : St → Hp → Prop) : Prop := match r with
  | .ok δ h => ∀ ι1 σ H1, Ext ι H ι1 H1 → RelE K ι1 δ h σ H1 → Q σ H1
  | _ => False
def tA (Z : XI) (K : PySem.W.Frag) (cl : Cl) (t : AT) : TG := fun v σ H Q => ∃ ι δ h d, RelE K ι δ h σ H ∧ Rp K ι H d v ∧ PostA Z K ι H (asgA cl t d δ h) Q
def tAs (Z : XI) (K : PySem.W.Frag) (cl : Cl) (ts : List AT) : TGs := fun vs σ H Q => ∃ ι δ h ds, RelE K ι δ h σ H ∧ RpL K ι H ds vs ∧ PostA Z K ι H (asgAs cl ts ds δ h) Q
variable {Z : XI}
section
variable {K : PySem.W.Frag} {ι ι1 ι2 : List Addr} {δ δ1 : En} {h h1 : HS} {σ : St} {H H1 H2 : Hp} {E E' : Ends} {cl : Cl} {ce : CE} {d : D} {v : V}
theorem PostF.shift {r : Fl} (e : Ext ι H ι1 H1) (m : MutI ι1 H1) (q : PostF Z K ι H r E) : PostF Z K ι1 H1 r E := by
  cases r with
  | next δ h => exact fun ι2 σ H2 e2 r2 => q ι2 σ H2 (e.trans m e2) r2
  | brk δ h => exact fun ι2 σ H2 e2 r2 => q ι2 σ H2 (e.trans m e2) r2
  | cont δ h => exact fun ι2 σ H2 e2 r2 => q ι2 σ H2 (e.trans m e2) r2
  | ret d h => exact fun ι2 v H2 e2 r2 rp => q ι2 v H2 (e.trans m e2) r2 rp
  | exc c fs δ h => exact fun ι2 σ H2 e2 r2 => q ι2 σ H2 (e.trans m e2) r2
  | bad => exact q
theorem RelE.set {i : Nat} (re : RelE K ι δ h σ H) (rp : Rp K ι H d v) : RelE K ι (δ.set i (some d)) h (σ.set i (some v)) H := by
  refine ⟨re.rel, by rw [List.length_set, List.length_set, re.len], fun j d' e => ?_⟩
  by_cases hj : i = j
  · subst hj
    have hl : i < δ.length := by
      have := (List.getElem?_eq_some_iff.mp e).1
      simpa using this
    rw [List.getElem?_set_self hl] at e
    cases e
    exact ⟨v, by rw [List.getElem?_set_self (by rw [← re.len]; exact hl)], rp⟩
  · rw [List.getElem?_set_ne hj] at e
    obtain ⟨w, e1, r1⟩ := re.env j d' e
    exact ⟨w, by rw [List.getElem?_set_ne hj]; exact e1, r1⟩
theorem RelE.same (re : RelE K ι δ h σ H) (s : Same H H1) : RelE K ι δ h σ H1 := re.ext (Ext.same s) (re.rel.same s)
/-! ### steps -/
theorem F_E {f : D → HS → Fl} {R' : VK} (re : RelE K ι δ h σ H) (q : PostF Z K ι H ((evalE cl ce δ h).fl δ f) E)
    (k : ∀ x h1 ι1 v H1, Ext ι H ι1 H1 → RelE K ι1 δ h1 σ H1 → Rp K ι1 H1 x v → PostF Z K ι1 H1 (f x h1) E → R' v H1) : tE Z K cl ce σ H R' := by
  refine ⟨ι, δ, h, re, ?_⟩
  cases e : evalE cl ce δ h with
  | ok x h1 =>
    rw [e] at q
    exact fun ι1 v H1 ex r1 rp => k x h1 ι1 v H1 ex (re.ext ex r1) rp (PostF.shift ex r1.mut q)
  | exc c fs h1 => rw [e] at q; exact fun ι1 H1 ex r1 => q ι1 σ H1 ex (re.ext ex r1)
  | bad => rw [e] at q; exact q.elim
theorem F_L {c : CL} {f : List D → HS → Fl} {R' : List V → Hp → Prop} (re : RelE K ι δ h σ H) (q : PostF Z K ι H ((evalL cl c δ h).fl δ f) E)
    (k : ∀ x h1 ι1 v H1, Ext ι H ι1 H1 → RelE K ι1 δ h1 σ H1 → RpL K ι1 H1 x v → PostF Z K ι1 H1 (f x h1) E → R' v H1) : tL Z K cl c σ H R' := by
  refine ⟨ι, δ, h, re, ?_⟩
  cases e : evalL cl c δ h with
  | ok x h1 =>
    rw [e] at q
    exact fun ι1 v H1 ex r1 rp => k x h1 ι1 v H1 ex (re.ext ex r1) rp (PostF.shift ex r1.mut q)
  | exc c fs h1 => rw [e] at q; exact fun ι1 H1 ex r1 => q ι1 σ H1 ex (re.ext ex r1)
  | bad => rw [e] at q; exact q.elim
theorem F_B {c : CB} {f : Bool → HS → Fl} {R' : Bool → Hp → Prop} (re : RelE K ι δ h σ H) (q : PostF Z K ι H ((evalB cl c δ h).fl δ f) E)
    (k : ∀ x h1 ι1 H1, Ext ι H ι1 H1 → RelE K ι1 δ h1 σ H1 → PostF Z K ι1 H1 (f x h1) E → R' x H1) : tB Z K cl c σ H R' := by
  refine ⟨ι, δ, h, re, ?_⟩
  cases e : evalB cl c δ h with
  | ok x h1 =>
    rw [e] at q
    intro ι1 v H1 ex r1 rp
    subst rp
    exact k x h1 ι1 H1 ex (re.ext ex r1) (PostF.shift ex r1.mut q)
  | exc c fs h1 => rw [e] at q; exact fun ι1 H1 ex r1 => q ι1 σ H1 ex (re.ext ex r1)
  | bad => rw [e] at q; exact q.elim
theorem F_I {c : CI} {f : Its → HS → Fl} {R' : It → Hp → Prop} (re : RelE K ι δ h σ H) (q : PostF Z K ι H ((evalI cl c δ h).fl δ f) E)
    (k : ∀ w h1 ι1 J H1, Ext ι H ι1 H1 → RelE K ι1 δ h1 σ H1 → WalkR K H ι1 H1 w J → PostF Z K ι1 H1 (f w h1) E → R' J H1) : tI Z K cl c σ H R' := by
  refine ⟨ι, δ, h, re, ?_⟩
  cases e : evalI cl c δ h with
  | ok w h1 =>
    rw [e] at q
    exact fun ι1 J H1 ex r1 rp => k w h1 ι1 J H1 ex (re.ext ex r1) rp (PostF.shift ex r1.mut q)
  | exc c fs h1 => rw [e] at q; exact fun ι1 H1 ex r1 => q ι1 σ H1 ex (re.ext ex r1)
  | bad => rw [e] at q; exact q.elim
theorem PostF.next (q : PostF Z K ι H (.next δ h) E) (re : RelE K ι δ h σ H) : E.nx σ H := q ι σ H Ext.refl re
end
section
variable {X : Cx} {cl : Cl} {e o i : Expr} {ce co ci : CE} {pos : Pos} {st : Stmt} {rest : List Stmt} {cs : CS} {cr : CSs}
theorem ps_imp {t t' : TS} (h : PS X st t) (i : ∀ E σ H, t' E σ H → t E σ H) : PS X st t' := ⟨fun pins s σ H E I q => h.run pins s σ H E I (i E σ H q)⟩
theorem pss_imp {sts : List Stmt} {t t' : TS} (h : PSs X sts t) (i : ∀ E σ H, t' E σ H → t E σ H) : PSs X sts t' := ⟨fun pins s σ H E I q => h.run pins s σ H E I (i E σ H q)⟩
theorem pg_imp {t t' : TG} (h : PG X e t) (i : ∀ v σ H Q, t' v σ H Q → t v σ H Q) : PG X e t' := ⟨fun pins s σ H v u Q I r q => h.run pins s σ H v u Q I r (i v σ H Q q)⟩
theorem pgs_imp {es : List Expr} {t t' : TGs} (h : PGs X es t) (i : ∀ v σ H Q, t' v σ H Q → t v σ H Q) : PGs X es t' := ⟨fun pins s σ H v u Q I r q => h.run pins s σ H v u Q I r (i v σ H Q q)⟩
theorem s_nil : PSs X [] (tSs Z X.K cl .nil) := by
  refine pss_imp pss_nil ?_
  rintro E σ H ⟨ι, δ, h, re, q⟩
  simp only [execB] at q
  exact q.next re
theorem s_cons (h1 : PS X st (tS Z X.K cl cs)) (h2 : PSs X rest (tSs Z X.K cl cr)) : PSs X (st :: rest) (tSs Z X.K cl (.cons cs cr)) := by
  refine pss_imp (pss_cons h1 h2) ?_
  rintro E σ H ⟨ι, δ, h, re, q⟩
  simp only [execB] at q
  refine ⟨ι, δ, h, re, ?_⟩
  cases e : execS cl cs δ h with
  | next δ1 h1 =>
    rw [e] at q
    intro ι1 σ1 H1 ex r1
    exact ⟨ι1, δ1, h1, r1, PostF.shift ex r1.rel.mut q⟩
  | brk δ1 h1 => rw [e] at q; exact q
  | cont δ1 h1 => rw [e] at q; exact q
  | ret d h1 => rw [e] at q; exact q
  | exc _ _ _ _ => rw [e] at q; exact q
  | bad => rw [e] at q; exact q
theorem s_pass : PS X (.Pass pos) (tS Z X.K cl .pass) := by
  refine ps_imp ps_pass ?_
  rintro E σ H ⟨ι, δ, h, re, q⟩
  simp only [execS] at q
  exact q.next re
theorem s_doc {x j pos'} : PS X (.Expr (.Constant (.str x) j pos) pos') (tS Z X.K cl .pass) := by
  refine ps_imp ps_doc ?_
  rintro E σ H ⟨ι, δ, h, re, q⟩
  simp only [execS] at q
  exact q.next re
theorem s_brk : PS X (.Break pos) (tS Z X.K cl .brk) := by
  refine ps_imp ps_break ?_
  rintro E σ H ⟨ι, δ, h, re, q⟩
  simp only [execS] at q
  exact q _ _ _ Ext.refl re
theorem s_cont : PS X (.Continue pos) (tS Z X.K cl .cont) := by
  refine ps_imp ps_continue ?_
  rintro E σ H ⟨ι, δ, h, re, q⟩
  simp only [execS] at q
  exact q _ _ _ Ext.refl re
theorem s_ex (he : PE X e (tE Z X.K cl ce)) (hs : swapsWith e none pos.line X.env = pure false) : PS X (.Expr e pos) (tS Z X.K cl (.ex ce)) := by
  refine ps_imp (ps_expr he hs) ?_
  rintro E σ H ⟨ι, δ, h, re, q⟩
  simp only [execS] at q
  exact F_E re q fun x h1 ι1 v H1 e1 r1 rx q => q.next r1
theorem s_ret (he : PE X e (tE Z X.K cl ce)) : PS X (.Return (some e) pos) (tS Z X.K cl (.ret ce)) := by
  refine ps_imp (ps_ret he) ?_
  rintro E σ H ⟨ι, δ, h, re, q⟩
  simp only [execS] at q
  exact F_E re q fun x h1 ι1 v H1 e1 r1 rx q => q ι1 v H1 Ext.refl r1.rel rx
theorem s_retn : PS X (.Return none pos) (tS Z X.K cl .retn) := by
  refine ps_imp ps_retN ?_
  rintro E σ H ⟨ι, δ, h, re, q⟩
  simp only [execS] at q
  exact q ι .non H Ext.refl re.rel .non
theorem s_if {c : Expr} {a b : List Stmt} {cc : CB} {ca cb : CSs} (hc : PT X c (tB Z X.K cl cc)) (ha : PSs X a (tSs Z X.K cl ca)) (hb : PSs X b (tSs Z X.K cl cb)) : PS X (.If c a b pos) (tS Z X.K cl (.ifs cc ca cb)) := by
  refine ps_imp (ps_if hc ha hb) ?_
  rintro E σ H ⟨ι, δ, h, re, q⟩
  simp only [execS] at q
  refine F_B re q fun x h1 ι1 H1 e1 r1 q => ?_
  cases x with
  | true => exact ⟨_, _, _, r1, q⟩
  | false => exact ⟨_, _, _, r1, q⟩
/-! ### targets -/
theorem PostA.shift {K : PySem.W.Frag} {ι ι1 : List Addr} {H H1 : Hp} {r : R En} {Q : St → Hp → Prop} (e : Ext ι H ι1 H1) (m : MutI ι1 H1) (q : PostA Z K ι H r Q) : PostA Z K ι1 H1 r Q := by
  cases r with
  | ok δ h => exact fun ι2 σ H2 e2 r2 => q ι2 σ H2 (e.trans m e2) r2
  | exc _ _ _ => exact q
  | bad => exact q
theorem A_E {K : PySem.W.Frag} {ι : List Addr} {H : Hp} {δ : En} {h : HS} {σ : St} {f : D → HS → R En} {R' : VK} {Q : St → Hp → Prop} (re : RelE K ι δ h σ H) (q : PostA Z K ι H ((evalE cl ce δ h).bind f) Q)
    (k : ∀ x h1 ι1 v H1, Ext ι H ι1 H1 → RelE K ι1 δ h1 σ H1 → Rp K ι1 H1 x v → PostA Z K ι1 H1 (f x h1) Q → R' v H1) : tE Z K cl ce σ H R' := by
  refine ⟨ι, δ, h, re, ?_⟩
  cases e : evalE cl ce δ h with
  | ok x h1 =>
    rw [e] at q
    exact fun ι1 v H1 ex r1 rp => k x h1 ι1 v H1 ex (re.ext ex r1) rp (PostA.shift ex r1.mut q)
  | exc _ _ _ => rw [e] at q; exact q.elim
  | bad => rw [e] at q; exact q.elim
theorem PostA.fl {δ0 : En} {K : PySem.W.Frag} {ι : List Addr} {H : Hp} {r : R En} {E : Ends} (q : PostF Z K ι H (r.nx.fl δ0 fun δ h => .next δ h) E) : PostA Z K ι H r E.nx := by
  cases r with
  | ok δ h => exact q
  | exc _ _ _ => exact q
  | bad => exact q
theorem g_nm {k : Nat} {x : Str} (hN : X.N.Nodup) (hi : X.N[k]? = some x) (hx : Loc X.env.scope x) (hf : X.fn x = true ∨ X.env.scope.names.lookup x = some .local) : PG X (.Name x pos) (tA Z X.K cl (.nm k)) := by
  refine pg_imp (pg_name hN hi hx hf) ?_
  rintro v σ H Q ⟨ι, δ, h, d, re, rp, q⟩
  simp only [asgA] at q
  by_cases c : k < δ.length
  · rw [if_pos c] at q; exact q _ _ _ Ext.refl (re.set rp)
  · rw [if_neg c] at q; exact q.elim
theorem g_sub (hu : X.A.units + 64 < cLine) (ho : PE X o (tE Z X.K cl co)) (hi : PE X i (tE Z X.K cl ci))
    (ha : ∀ v, assign (.Subscript o i pos) X.env v = (do
      let ov ← holding [v] (eval o X.env)
      let iv ← holding [v, ov] (eval i X.env)
      standAt pos
      holding [v, ov, iv] (setItem ov iv v)
      release [v, ov, iv] [])) : PG X (.Subscript o i pos) (tA Z X.K cl (.sub co ci)) := by
  refine pg_imp (pg_sub ho hi (set_any hu) ha) ?_
  rintro v σ H Q ⟨ι, δ, h, d, re, rp, q⟩
  simp only [asgA] at q
  refine A_E re q fun x h1 ι1 u H1 e1 r1 rx q => A_E r1 q fun y h2 ι2 w H2 e2 r2 ry q => ?_
  cases es : setF x y d h2 with
  | ok u h3 =>
    rw [es] at q
    refine ⟨ι2, h2, x, y, d, h3, r2.rel, rx.ext e2 r1.rel.mut, ry, (rp.ext e1 re.rel.mut).ext e2 r1.rel.mut, es, fun H3 e3 r3 => ?_⟩
    exact q ι2 σ H3 e3 (r2.ext e3 r3)
  | exc _ _ _ => rw [es] at q; exact q.elim
  | bad => rw [es] at q; exact q.elim
theorem gs_nil : PGs X [] (tAs Z X.K cl []) := by
  refine pgs_imp pgs_nil ?_
  rintro vs σ H Q ⟨ι, δ, h, ds, re, rp, q⟩
  cases rp with
  | nil => exact ⟨rfl, q _ _ _ Ext.refl re⟩
  | cons _ _ => exact q.elim
theorem gs_cons {t : Expr} {ts : List Expr} {a : AT} {as : List AT} (h1 : PG X t (tA Z X.K cl a)) (h2 : PGs X ts (tAs Z X.K cl as))
    (hs : (assignEach (t :: ts) X.env).map (·.2) = assign t X.env :: (assignEach ts X.env).map (·.2)) : PGs X (t :: ts) (tAs Z X.K cl (a :: as)) := by
  refine pgs_imp (pgs_cons h1 h2 hs) ?_
  rintro vs σ H Q ⟨ι, δ, h, ds, re, rp, q⟩
  cases rp with
  | nil => exact q.elim
  | @cons x v xs vs rx rr =>
    simp only [asgAs] at q
    refine ⟨v, vs, rfl, ι, δ, h, x, re, rx, ?_⟩
    cases e : asgA cl a x δ h with
    | ok δ1 h1 =>
      rw [e] at q
      intro ι1 σ1 H1 ex r1
      exact ⟨ι1, δ1, h1, xs, r1, rr.ext ex re.rel.mut, PostA.shift ex r1.rel.mut q⟩
    | exc _ _ _ => rw [e] at q; exact q
    | bad => rw [e] at q; exact q
theorem s_asg {t : Expr} {a : AT} (he : PE X e (tE Z X.K cl ce)) (hg : PG X t (tA Z X.K cl a)) (hs : swapsWithSole [t] e pos.line X.env = pure false) (hw : swappedStores [t] e X.env = pure none)
    (h1 : (assignEach [t] X.env).map (·.2) = [assign t X.env]) : PS X (.Assign [t] e pos) (tS Z X.K cl (.asg a ce)) := by
  refine ps_imp (ps_asg he hg hs hw h1) ?_
  rintro E σ H ⟨ι, δ, h, re, q⟩
  simp only [execS] at q
  exact F_E re q fun x h1 ι1 v H1 e1 r1 rx q => ⟨ι1, δ, h1, x, r1, rx, PostA.fl q⟩
/-- name = e -/
theorem s_set {k : Nat} {x : Str} {pos' : Pos} (hN : X.N.Nodup) (hi : X.N[k]? = some x) (hx : Loc X.env.scope x) (he : PE X e (tE Z X.K cl ce)) (hs : swapsWith e (some (.Name x pos')) pos.line X.env = pure false) (hf : X.fn x = true ∨ X.env.scope.names.lookup x = some .local) :
    PS X (.Assign [.Name x pos'] e pos) (tS Z X.K cl (.asg (.nm k) ce)) := by
  refine ps_imp (ps_set hN hi hx he hs hf) ?_
  rintro E σ H ⟨ι, δ, h, re, q⟩
  simp only [execS] at q
  refine F_E re q fun x h1 ι1 v H1 e1 r1 rx q => ?_
  simp only [asgA] at q
  by_cases c : k < δ.length
  · rw [if_pos c] at q; exact q _ _ _ Ext.refl (r1.set rx)
  · rw [if_neg c] at q; exact q.elim
theorem Rp.items {K : PySem.W.Frag} {ι : List Addr} {H : Hp} {d : D} {v : V} {xs : List D} (rp : Rp K ι H d v) (e : d = .tup xs ∨ d = .kt xs) : ∃ a vs, v = .ref a ∧ SqT K H a vs ∧ RpL K ι H xs vs := by
  rcases e with e | e <;> subst e
  · cases rp with | tup s r => exact ⟨_, _, rfl, s.sq, r⟩
  · cases rp with | kt s r => exact ⟨_, _, rfl, s.sq, r⟩
/-- (a, b[i], ..) = e, not swapped -/
theorem s_asgT {ts : List Expr} {as : List AT} {k : Nat} {pt : Pos} (hc : X.calm = true) (he : PE X e (tE Z X.K cl ce)) (hg : PGs X ts (tAs Z X.K cl as)) (hn : (assignEach ts X.env).length = as.length) (hst : (assignEach ts X.env).findIdx? (·.1) = none)
    (hs : swapsWithSole [.Tuple ts k pt] e pos.line X.env = pure false) (hw : swappedStores [.Tuple ts k pt] e X.env = pure none)
    (h1 : (assignEach [.Tuple ts k pt] X.env).map (·.2) = [assign (.Tuple ts k pt) X.env]) : PS X (.Assign [.Tuple ts k pt] e pos) (tS Z X.K cl (.asgT as ce)) := by
  refine ps_imp (ps_asg he (pg_tup hc hg hn hst) hs hw h1) ?_
  rintro E σ H ⟨ι, δ, h, re, q⟩
  simp only [execS] at q
  refine F_E re q fun x h1 ι1 v H1 e1 r1 rx q => ?_
  have key : ∀ xs, x = .tup xs ∨ x = .kt xs → PostF _ X.K ι1 H1 (if xs.length = as.length then (asgAs cl as xs δ h1).nx.fl δ fun δ1 h2 => .next δ1 h2 else .bad) E → gTup X.K as.length (tAs Z X.K cl as) v σ H1 E.nx := fun xs ex q => by
    obtain ⟨a, vs, rfl, sq, rr⟩ := rx.items ex
    by_cases c : xs.length = as.length
    · rw [if_pos c] at q
      exact ⟨a, vs, rfl, sq, by rw [← rr.length]; exact c, ι1, δ, h1, xs, r1, rr, PostA.fl q⟩
    · rw [if_neg c] at q; exact q.elim
  cases rx with
  | tup s r => exact key _ (.inl rfl) q
  | kt s r => exact key _ (.inr rfl) q
  | _ => exact q.elim
/-- a, b = x, y with plain local names -/
theorem s_par {i j : Nat} {x y : Str} {a b : Expr} {cs : CL} {px py pt : Pos} {kt k2 pt2} (hc : X.calm = true) (hN : X.N.Nodup) (hi : X.N[i]? = some x) (hj : X.N[j]? = some y) (hij : i ≠ j)
    (hx : X.env.scope.names.lookup x = some .local) (hy : X.env.scope.names.lookup y = some .local) (ha : PA X [a, b] (tL Z X.K cl cs))
    (hw : swappedStores [.Tuple [.Name x px, .Name y py] kt pt] (.Tuple [a, b] k2 pt2) X.env = pure (some [x, y]))
    (hs : swapsWithSole [.Tuple [.Name x px, .Name y py] kt pt] (.Tuple [a, b] k2 pt2) pos.line X.env = pure false) :
    PS X (.Assign [.Tuple [.Name x px, .Name y py] kt pt] (.Tuple [a, b] k2 pt2) pos) (tS Z X.K cl (.par [i, j] cs)) := by
  refine ps_imp (ps_par hc hN hi hj hij hx hy ha hw hs) ?_
  rintro E σ H ⟨ι, δ, h, re, q⟩
  simp only [execS] at q
  refine F_L re q fun xs h1 ι1 vs H1 e1 r1 rx q => ?_
  simp only [bindN] at q
  by_cases c : [i, j].length = xs.length ∧ ([i, j].all fun x => decide (x < δ.length)) = true
  · rw [if_pos c] at q
    obtain ⟨c1, c2⟩ := c
    match xs, vs, rx, c1, q with
    | [x1, x2], [v1, v2], .cons p1 (.cons p2 .nil), _, q =>
      refine ⟨v1, v2, rfl, ?_⟩
      exact q _ _ _ Ext.refl ((r1.set p1).set p2)
  · rw [if_neg c] at q; exact q.elim
theorem s_par3 {i j l : Nat} {x y z : Str} {a b c : Expr} {cs : CL} {px py pz pt : Pos} {kt k2 pt2} (hc : X.calm = true) (hN : X.N.Nodup) (hi : X.N[i]? = some x) (hj : X.N[j]? = some y) (hl : X.N[l]? = some z) (hij : i ≠ j) (hil : i ≠ l) (hjl : j ≠ l)
    (hx : X.env.scope.names.lookup x = some .local) (hy : X.env.scope.names.lookup y = some .local) (hz : X.env.scope.names.lookup z = some .local) (ha : PA X [a, b, c] (tL Z X.K cl cs))
    (hw : swappedStores [.Tuple [.Name x px, .Name y py, .Name z pz] kt pt] (.Tuple [a, b, c] k2 pt2) X.env = pure (some [x, y, z]))
    (hs : swapsWithSole [.Tuple [.Name x px, .Name y py, .Name z pz] kt pt] (.Tuple [a, b, c] k2 pt2) pos.line X.env = pure false) :
    PS X (.Assign [.Tuple [.Name x px, .Name y py, .Name z pz] kt pt] (.Tuple [a, b, c] k2 pt2) pos) (tS Z X.K cl (.par [i, j, l] cs)) := by
  refine ps_imp (ps_par3 hc hN hi hj hl hij hil hjl hx hy hz ha hw hs) ?_
  rintro E σ H ⟨ι, δ, h, re, q⟩
  simp only [execS] at q
  refine F_L re q fun xs h1 ι1 vs H1 e1 r1 rx q => ?_
  simp only [bindN] at q
  by_cases c : [i, j, l].length = xs.length ∧ ([i, j, l].all fun x => decide (x < δ.length)) = true
  · rw [if_pos c] at q
    obtain ⟨c1, c2⟩ := c
    match xs, vs, rx, c1, q with
    | [x1, x2, x3], [v1, v2, v3], .cons p1 (.cons p2 (.cons p3 .nil)), _, q =>
      refine ⟨v1, v2, v3, rfl, ?_⟩
      exact q _ _ _ Ext.refl (((r1.set p1).set p2).set p3)
  · rw [if_neg c] at q; exact q.elim
/-- name op= e -/
theorem s_aug {k : Nat} {x : Str} {op : Operator} {pos' : Pos} (ok : augOk op = true) (hN : X.N.Nodup) (hi : X.N[k]? = some x) (hx : Loc X.env.scope x) (he : PE X e (tE Z X.K cl ce)) (hf : X.fn x = true ∨ X.env.scope.names.lookup x = some .local) :
    PS X (.AugAssign (.Name x pos') op e pos) (tS Z X.K cl (.aug k op ce)) := by
  refine ps_imp (ps_aug hN hi hx he (i_any ok) hf) ?_
  rintro E σ H ⟨ι, δ, h, re, q⟩
  simp only [execS] at q
  cases hk : δ[k]? with
  | none => rw [hk] at q; exact q.elim
  | some o =>
    rw [hk] at q
    cases o with
    | none => exact q.elim
    | some d =>
      obtain ⟨v, e1, rp⟩ := re.env k d hk
      have q2 : PostE (Z.at X.K σ) X.K ι H (((evalE cl ce δ h).bind fun y h1 => augF op d y h1).tr h.length) fun z H2 => E.nx (σ.set k (some z)) H2 := by
        cases er : ((evalE cl ce δ h).bind fun y h1 => augF op d y h1).tr h.length with
        | ok z h2 =>
          have q : PostF _ X.K ι H ((((evalE cl ce δ h).bind fun y h1 => augF op d y h1).tr h.length).fl δ fun z h2 => .next (δ.set k (some z)) h2) E := q
          rw [er] at q
          exact fun ι2 v H2 e2 r2 rz => q ι2 _ H2 e2 ((re.ext e2 r2).set rz)
        | exc _ _ _ =>
          have q : PostF _ X.K ι H ((((evalE cl ce δ h).bind fun y h1 => augF op d y h1).tr h.length).fl δ fun z h2 => .next (δ.set k (some z)) h2) E := q
          rw [er] at q; exact fun ι1 H1 ex r1 => q ι1 σ H1 ex (re.ext ex r1)
        | bad =>
          have q : PostF _ X.K ι H ((((evalE cl ce δ h).bind fun y h1 => augF op d y h1).tr h.length).fl δ fun z h2 => .next (δ.set k (some z)) h2) E := q
          rw [er] at q; exact q
      exact ⟨v, e1, step_E re (trE_ok re q2) fun y h1 ι1 w H1 e1 r1 ry q => ⟨ι1, h1, d, y, r1.rel, rp.ext e1 re.rel.mut, ry, q.no fun _ _ _ => augF_ne⟩⟩
end
end Mi

namespace Mi
open PySem L2
/-! ## targets of loops -/
def gNs : List Nat → TGs
  | [] => gNil
  | i :: r => gCons (gName i) (gNs r)
def gN (K : PySem.W.Frag) : NT → TG
  | .nm i => gName i
  | .tp is => gTup K is.length (gNs is)
def NT.slots : NT → List Nat
  | .nm i => [i]
  | .tp is => is
theorem wipe_in {i : Nat} {v : Option V} : ∀ {vs : List Nat} {σ : St}, i ∈ vs → wipe (σ.set i v) vs = wipe σ vs
  | [], _, h => by cases h
  | w :: ws, σ, h => by
    unfold wipe
    by_cases hi : i ∈ ws
    · rw [wipe_in hi]
    · have e : i = w := by
        rcases List.mem_cons.mp h with h | h
        · exact h
        · exact absurd h hi
      subst e
      rw [wipe_set_out hi, List.set_set]
where
  wipe_set_out {i : Nat} {v : Option V} : ∀ {vs : List Nat} {σ : St}, i ∉ vs → wipe (σ.set i v) vs = (wipe σ vs).set i v
  | [], _, _ => rfl
  | w :: ws, σ, h => by
    simp only [List.mem_cons, not_or] at h
    unfold wipe
    rw [wipe_set_out h.2, List.set_comm _ _ h.1]
section
variable {K : PySem.W.Frag} {ι ι1 ι2 : List Addr} {δ δ1 : En} {h h1 : HS} {σ : St} {H H1 H2 : Hp} {E : Ends} {cl : Cl} {ce : CE} {d : D} {v : V}
theorem gNs_ok {xs : List D} : ∀ {is : List Nat} {xs : List D} {vs : List V} {σ : St} {δ : En} {Q : St → Hp → Prop}, is.length = xs.length → RelE K ι δ h σ H → RpL K ι H xs vs →
    (∀ σ1, RelE K ι (setAll δ is xs) h σ1 H → (∀ ws, (∀ i ∈ is, i ∈ ws) → wipe σ1 ws = wipe σ ws) → Q σ1 H) → gNs is vs σ H Q
  | [], [], _, _, _, _, _, re, .nil, k => ⟨rfl, k _ re fun _ _ => rfl⟩
  | [], _ :: _, _, _, _, _, e, _, _, _ => by cases e
  | _ :: _, [], _, _, _, _, e, _, _, _ => by cases e
  | i :: is, x :: xs, _, σ, δ, Q, e, re, .cons r rr, k => by
    refine ⟨_, _, rfl, ?_⟩
    refine gNs_ok (is := is) (xs := xs) (by simpa using e) (re.set r) rr fun σ1 r1 w1 => k σ1 r1 fun ws hw => ?_
    rw [w1 ws fun j hj => hw j (List.mem_cons_of_mem _ hj), wipe_in (hw i List.mem_cons_self)]
theorem gN_ok {t : NT} {Q : St → Hp → Prop} (re : RelE K ι δ h σ H) (rp : Rp K ι H d v) (e : bindN t d δ = some δ1)
    (k : ∀ σ1, RelE K ι δ1 h σ1 H → (∀ ws, (∀ i ∈ t.slots, i ∈ ws) → wipe σ1 ws = wipe σ ws) → Q σ1 H) : gN K t v σ H Q := by
  cases t with
  | nm i =>
    simp only [bindN] at e
    by_cases c : i < δ.length
    · rw [if_pos c] at e; cases e
      exact k _ (re.set rp) fun ws hw => wipe_in (hw i (by simp [NT.slots]))
    · rw [if_neg c] at e; cases e
  | tp is =>
    have key : ∀ xs, d = .tup xs ∨ d = .kt xs → (if is.length = xs.length ∧ (is.all fun x => decide (x < δ.length)) = true then some (setAll δ is xs) else none) = some δ1 → gN K (.tp is) v σ H Q := fun xs ex e => by
      by_cases c : is.length = xs.length ∧ (is.all fun x => decide (x < δ.length)) = true
      · rw [if_pos c] at e; cases e
        obtain ⟨a, vs, rfl, sq, rr⟩ := rp.items ex
        exact ⟨a, vs, rfl, sq, by rw [c.1, rr.length], gNs_ok (xs := xs) c.1 re rr fun σ1 r1 w => k σ1 r1 w⟩
      · rw [if_neg c] at e; cases e
    cases rp with
    | tup s r => exact key _ (.inl rfl) e
    | kt s r => exact key _ (.inr rfl) e
    | _ => cases e
end
section
variable {X : Cx} {Z : XI} {pos : Pos}
theorem gn_nm {k : Nat} {x : Str} (hN : X.N.Nodup) (hi : X.N[k]? = some x) (hx : Loc X.env.scope x) (hf : X.fn x = true ∨ X.env.scope.names.lookup x = some .local) : PG X (.Name x pos) (gN X.K (.nm k)) := pg_name hN hi hx hf
/-! ## loops -/
variable {cl : Cl} {tg iter : Expr} {body : List Stmt} {cb : CSs} {ci : CI} {t : NT}
theorem s_while {c : Expr} {cc : CB} (hp : PassesOwn (model X.prog X.w) X.A X.env X.xe) (hc : PT X c (tB Z X.K cl cc)) (hb : PSs X body (tSs Z X.K cl cb)) : PS X (.While c body [] pos) (tS Z X.K cl (.while_ cc cb)) := by
  refine ps_imp (ps_while hp hc hb) ?_
  rintro E σ H ⟨ι, δ, h, re, q⟩
  simp only [execS] at q
  refine ⟨fun m σ H => ∃ ι δ h, RelE X.K ι δ h σ H ∧ PostF Z X.K ι H (whileD (evalB cl cc) (execB cl cb) m δ h) E, ⟨_, ι, δ, h, re, q⟩, ?_⟩
  rintro m σ H ⟨ι, δ, h, re, q⟩
  cases m with
  | zero => exact q.elim
  | succ m =>
    rw [whileD] at q
    refine F_B re q fun x h1 ι1 H1 e1 r1 q => ?_
    cases x with
    | false => rw [if_neg Bool.false_ne_true] at q ⊢; exact q.next r1
    | true =>
      rw [if_pos rfl] at q ⊢
      refine ⟨fun σ' H' => ∃ ι δ h, RelE X.K ι δ h σ' H' ∧ PostF Z X.K ι H' (whileD (evalB cl cc) (execB cl cb) m δ h) E, fun σ' H' w => ⟨m, Nat.lt_succ_self _, w⟩, ι1, δ, h1, r1, ?_⟩
      cases e : execB cl cb δ h1 with
      | next δ1 h2 => rw [e] at q; exact fun ι2 σ2 H2 e2 r2 => ⟨ι2, δ1, h2, r2, PostF.shift e2 r2.rel.mut q⟩
      | cont δ1 h2 => rw [e] at q; exact fun ι2 σ2 H2 e2 r2 => ⟨ι2, δ1, h2, r2, PostF.shift e2 r2.rel.mut q⟩
      | brk δ1 h2 => rw [e] at q; exact q
      | ret d h2 => rw [e] at q; exact q
      | exc _ _ _ _ => rw [e] at q; exact q
      | bad => rw [e] at q; exact q
theorem forD_live {live : HS → Bool} {f : D → En → HS → Fl} {xs : List D} {δ : En} {h : HS} {K : PySem.W.Frag} {ι : List Addr} {H : Hp} {E : Ends} (q : PostF Z K ι H (forD live f xs δ h) E) : live h = true := by
  cases xs with
  | nil => rw [forD] at q; by_cases c : live h = true; exact c; rw [if_neg c] at q; exact q.elim
  | cons x r => rw [forD] at q; by_cases c : live h = true; exact c; rw [if_neg c] at q; exact q.elim
theorem s_for (hp : PassesOwn (model X.prog X.w) X.A X.env X.xe) (hc : X.calm = true) (hi : PI X tg iter (tI Z X.K cl ci)) (hg : PG X tg (gN X.K t)) (hb : PSs X body (tSs Z X.K cl cb))
    (hs : ∀ x, foldedSetIterable iter X.env x = pure x) : PS X (.For tg iter body [] pos) (tS Z X.K cl (.for_ t ci cb)) := by
  refine ps_imp (ps_for hp hc hi hg hb hs) ?_
  rintro E σ H ⟨ι, δ, h, re, q⟩
  simp only [execS] at q
  refine F_I re q fun w h1 ι1 J H1 e1 r1 wk q => ?_
  obtain ⟨G, Y, t0, W, ht, wG, wY⟩ := wk
  have tt : ∀ {ι2 H2}, Ext ι1 H1 ι2 H2 → ∀ a ∈ t0, H2 a = H1 a := fun e a ha => by obtain ⟨_, n, o, q⟩ := ht a ha; rw [q, e.fr a o q n]
  refine for_it W (fun i σ' H' => ∃ ι2 δ2 h2, Ext ι1 H1 ι2 H' ∧ RelE X.K ι2 δ2 h2 σ' H' ∧ PostF Z X.K ι2 H' (forD (liveOk w.live) (fun x δ1 h2 => match bindN t x δ1 with
    | some δ2 => execB cl cb δ2 h2
    | none => .bad) (w.items.drop i) δ2 h2) E) ⟨ι1, δ, h1, Ext.refl, r1, q⟩ ?_ ?_ ?_
  · rintro i σ' H' hi ⟨ι2, δ2, h2, e2, r2, q2⟩
    exact wG ι2 H' h2 (e2.toI r1.rel.mut) (tt e2) r2.rel (forD_live q2)
  · rintro i x σ' H' H'' hlt ⟨ι2, δ2, h2, e2, r2, q2⟩ y
    have lv := forD_live q2
    obtain ⟨d, ed, sm, rd⟩ := wY i x ι2 H' h2 H'' hlt (e2.toI r1.rel.mut) (tt e2) r2.rel lv y
    rw [List.drop_eq_getElem_cons hlt] at q2
    have ed' : w.items[i] = d := by
      rw [List.getElem?_eq_getElem hlt] at ed; exact Option.some.inj ed
    rw [ed', forD, if_pos lv] at q2
    have r3 := r2.same sm
    have q3 := PostF.shift (Ext.same sm) r3.rel.mut q2
    cases eb : bindN t d δ2 with
    | none => simp only [eb] at q3; exact q3.elim
    | some δ3 =>
      simp only [eb] at q3
      refine gN_ok r3 rd eb fun σ1 r4 _ => ⟨ι2, δ3, h2, r4, ?_⟩
      cases e : execB cl cb δ3 h2 with
      | next δ1 h3 => rw [e] at q3; exact fun ι3 σ3 H3 e3 r5 => ⟨ι3, δ1, h3, (e2.trans r2.rel.mut (Ext.same sm)).trans r3.rel.mut e3, r5, PostF.shift e3 r5.rel.mut q3⟩
      | cont δ1 h3 => rw [e] at q3; exact fun ι3 σ3 H3 e3 r5 => ⟨ι3, δ1, h3, (e2.trans r2.rel.mut (Ext.same sm)).trans r3.rel.mut e3, r5, PostF.shift e3 r5.rel.mut q3⟩
      | brk δ1 h3 => rw [e] at q3; exact q3
      | ret d h3 => rw [e] at q3; exact q3
      | exc _ _ _ _ => rw [e] at q3; exact q3
      | bad => rw [e] at q3; exact q3
  · rintro σ' H' ⟨ι2, δ2, h2, e2, r2, q2⟩
    rw [List.drop_length, forD] at q2
    by_cases c : liveOk w.live h2 = true
    · rw [if_pos c] at q2; exact q2.next r2
    · rw [if_neg c] at q2; exact q2.elim
end
/-! ## comprehensions -/
section
variable {K : PySem.W.Frag} {ι ι1 ι2 : List Addr} {δ δ1 : En} {h h1 : HS} {σ : St} {H H1 H2 : Hp} {cl : Cl} {ce : CE} {d : D} {v : V} {p : Addr} {o o' : HO}
theorem TupS.wr {a : Addr} {xs : List V} (hp : H p = some o) (hm : isM o = true) (s : TupS H a xs) : TupS (upd H p o') a xs := by
  obtain ⟨ob, hd, s⟩ := s
  exact ⟨ob, hd, by rw [upd_ne (fun z => by rw [z, hp] at s; cases s; cases hm)]; exact s⟩
theorem WkT.wr {a : Addr} {xs : List V} (hp : H p = some o) (hm : isM o = true) (s : WkT K H a xs) : WkT K (upd H p o') a xs := by
  rcases s with s | s
  · exact .inl s
  · exact .inr (by rw [upd_ne (fun z => by rw [z, hp] at s; cases s; cases hm)]; exact s)
mutual
theorem Rp.wr (hp : H p = some o) (hm : isM o = true) : ∀ {d : D} {v : V}, Rp K ι H d v → Rp K ι (upd H p o') d v
  | _, _, .non => .non
  | _, _, .bl b => .bl b
  | _, _, .int i => .int i
  | _, _, .str x => .str x
  | _, _, .tup s r => .tup (s.wr hp hm) (RpL.wr hp hm r)
  | _, _, .kt s r => .kt (s.wr hp hm) (RpL.wr hp hm r)
  | _, _, .ref q => .ref q
  | _, _, .fn q => .fn q
  | _, _, .fz r => .fz (by
      rcases r with ⟨u, r⟩ | r
      · exact .inl ⟨u, by rw [upd_ne (fun z => by rw [z, hp] at r; cases r; cases hm)]; exact r⟩
      · exact .inr r)
theorem RpL.wr (hp : H p = some o) (hm : isM o = true) : ∀ {xs : List D} {vs : List V}, RpL K ι H xs vs → RpL K ι (upd H p o') xs vs
  | _, _, .nil => .nil
  | _, _, .cons r s => .cons (Rp.wr hp hm r) (RpL.wr hp hm s)
end
theorem RelH.wr (hp : H p = some o) (hm : isM o = true) (hn : p ∉ ι) (r : RelH K ι h H) : RelH K ι h (upd H p o') := by
  refine ⟨r.len, r.nd, fun n c a e1 e2 => ?_⟩
  have ne : a ≠ p := fun z => hn (z ▸ List.mem_of_getElem? e2)
  have rc := r.cell n c a e1 e2
  cases c with
  | lst xs => obtain ⟨vs, q, r⟩ := rc; exact ⟨vs, by rw [upd_ne ne]; exact q, r.wr hp hm⟩
  | dct kvs =>
    rcases rc with ⟨ks, q, r⟩ | ⟨ks, k0, q, hk, r⟩
    · exact .inl ⟨ks, by rw [upd_ne ne]; exact q, Paired.mapX (fun _ _ z => ⟨z.1, z.2.wr hp hm⟩) r⟩
    · exact .inr ⟨ks, k0, by rw [upd_ne ne]; exact q, fun x hx => (hk x hx).wr hp hm, Paired.mapX (fun _ _ z => ⟨z.1, z.2.wr hp hm⟩) r⟩
  | ins c fs => exact rc.elim
/-- what a comprehension has so far: the list at p is nobody's -/
structure Cp (K : PySem.W.Frag) (ι0 : List Addr) (H0 : Hp) (p : Addr) (ys : List D) (ι : List Addr) (H : Hp) : Prop where
  new : H0 p = none
  ext : Ext ι0 H0 ι H
  out : p ∉ ι
  at_ : ∃ vs, H p = some (.lst vs) ∧ RpL K ι H ys vs
theorem Cp.step {ys : List D} {ι0 : List Addr} {H0 : Hp} (c : Cp K ι0 H0 p ys ι H) (m : MutI ι H) (e : Ext ι H ι1 H1) : Cp K ι0 H0 p ys ι1 H1 := by
  obtain ⟨vs, q, r⟩ := c.at_
  refine ⟨c.new, c.ext.trans m e, fun hp => ?_, vs, e.fr p _ q c.out, r.ext e m⟩
  obtain ⟨ex, rfl, hx⟩ := e.pre
  rcases List.mem_append.mp hp with hp | hp
  · exact c.out hp
  · rw [hx p hp] at q; cases q
theorem Cp.app {ys : List D} {ι0 : List Addr} {H0 : Hp} {d : D} {v : V} (c : Cp K ι0 H0 p ys ι H) (m0 : MutI ι0 H0) (r : RelH K ι h H) (rd : Rp K ι H d v) :
    ∃ vs, H p = some (.lst vs) ∧ vs.length = ys.length ∧ Cp K ι0 H0 p (ys ++ [d]) ι (upd H p (.lst (vs ++ [v]))) ∧ RelH K ι h (upd H p (.lst (vs ++ [v]))) := by
  obtain ⟨vs, q, rr⟩ := c.at_
  refine ⟨vs, q, rr.length.symm, ⟨c.new, ⟨c.ext.pre, fun a u e hn => ?_⟩, c.out, vs ++ [v], upd_same, ?_⟩, r.wr q rfl c.out⟩
  · rw [upd_ne (fun z => by rw [z, c.new] at e; cases e)]; exact c.ext.fr a u e hn
  · exact (rr.append (.cons rd .nil)).wr q rfl
/-- the end of a comprehension -/
theorem Cp.fin {ys : List D} {ι0 : List Addr} {H0 : Hp} {Q : VK} (c : Cp K ι0 H0 p ys ι H) (r : RelH K ι h H) (q : PostE ω K ι0 H0 (mkL ys h) Q) : Q (.ref p) H := by
  obtain ⟨_, q⟩ := mkL_some q
  obtain ⟨vs, e, rr⟩ := c.at_
  obtain ⟨ex, hx, hn⟩ := c.ext.pre
  refine q (ι ++ [p]) _ _ ⟨⟨ex ++ [p], by rw [hx, List.append_assoc], fun a ha => ?_⟩, c.ext.fr⟩ ⟨by simp [r.len], ?_, fun n cc a e1 e2 => ?_⟩ (.ref (by rw [← r.len]; simp))
  · rcases List.mem_append.mp ha with ha | ha
    · exact hn a ha
    · simp at ha; subst ha; exact c.new
  · rw [List.nodup_append]
    refine ⟨r.nd, by simp, fun a ha b hb => ?_⟩
    simp at hb; subst hb; exact fun z => c.out (z ▸ ha)
  · by_cases hm : n < h.length
    · rw [List.getElem?_append_left hm] at e1
      rw [List.getElem?_append_left (by rw [r.len]; exact hm)] at e2
      exact (r.cell n cc a e1 e2).more
    · have hm' : n = h.length := by
        have := (List.getElem?_eq_some_iff.mp e1).1
        simp at this; omega
      subst hm'
      rw [List.getElem?_append_right (Nat.le_refl _)] at e1
      rw [← r.len, List.getElem?_append_right (Nat.le_refl _)] at e2
      simp at e1 e2; subst e1; subst e2
      exact ⟨vs, e, rr.more⟩
theorem wipeE_length (δ : En) : ∀ vs : List Nat, (wipeE δ vs).length = δ.length
  | [] => rfl
  | v :: vs => by unfold wipeE; rw [List.length_set, wipeE_length δ vs]
theorem RelE.unset {i : Nat} (re : RelE K ι δ h σ H) : RelE K ι (δ.set i none) h (σ.set i none) H := by
  refine ⟨re.rel, by rw [List.length_set, List.length_set, re.len], fun j d' e => ?_⟩
  by_cases hj : i = j
  · subst hj
    have hl : i < δ.length := by
      have := (List.getElem?_eq_some_iff.mp e).1
      simpa using this
    rw [List.getElem?_set_self hl] at e
    cases e
  · rw [List.getElem?_set_ne hj] at e
    obtain ⟨w, e1, r1⟩ := re.env j d' e
    exact ⟨w, by rw [List.getElem?_set_ne hj]; exact e1, r1⟩
theorem RelE.wipe : ∀ {vs : List Nat}, RelE K ι δ h σ H → RelE K ι (wipeE δ vs) h (L2.wipe σ vs) H
  | [], r => r
  | v :: vs, r => (RelE.wipe (vs := vs) r).unset
theorem compD_live {live : HS → Bool} {f : D → HS → R (List D)} {xs : List D} {r : List D} {h h1 : HS} (q : compD live f xs h = .ok r h1) : live h = true := by
  cases xs with
  | nil => rw [compD] at q; by_cases c : live h = true; exact c; rw [if_neg c] at q; cases q
  | cons x r => rw [compD] at q; by_cases c : live h = true; exact c; rw [if_neg c] at q; cases q
theorem R.bind_eq {α β : Type} {r : R α} {f : α → HS → R β} {b : β} {h1 : HS} (e : r.bind f = .ok b h1) : ∃ a h2, r = .ok a h2 ∧ f a h2 = .ok b h1 := by
  cases r with
  | ok a h2 => exact ⟨a, h2, rfl, e⟩
  | exc _ _ _ => cases e
  | bad => cases e
end
end Mi

namespace Mi
open PySem L2
/-! ## comprehensions -/
theorem wipe_out {i : Nat} {v : Option V} : ∀ {vs : List Nat} {σ : St}, i ∉ vs → wipe (σ.set i v) vs = (wipe σ vs).set i v
  | [], _, _ => rfl
  | w :: ws, σ, h => by
    simp only [List.mem_cons, not_or] at h
    unfold wipe
    rw [wipe_out h.2, List.set_comm _ _ h.1]
theorem wipe_sub {ws : List Nat} : ∀ {vs : List Nat} {σ : St}, (∀ i ∈ vs, i ∈ ws) → wipe (wipe σ vs) ws = wipe σ ws
  | [], _, _ => rfl
  | v :: vs, σ, h => by
    rw [show wipe σ (v :: vs) = (wipe σ vs).set v none from rfl, wipe_in (h v List.mem_cons_self)]
    exact wipe_sub fun i hi => h i (List.mem_cons_of_mem _ hi)
section
variable {X : Cx} {Z : XI}
theorem pts_nilB {cl : Cl} : PTs X [] (tB Z X.K cl .tru) := ⟨fun pins s σ H Q I q => by
  obtain ⟨ι, δ, h, re, q⟩ := q
  simp only [evalB] at q
  exact pts_nil.run pins s σ H Q I (q ι true H Ext.refl re.rel rfl)⟩
end
section
variable {Z Z0 : XI} {ω : XWi} {K : PySem.W.Frag} {ι ι1 ι2 : List Addr} {δ δ1 : En} {h h1 : HS} {σ : St} {H H1 H2 : Hp} {cl : Cl} {ce : CE} {d : D} {v : V} {p : Addr}
/-- one turn of a comprehension -/
def turnF (cl : Cl) (own : List Nat) (tg : NT) (t : CB) (δ : En) (f : En → HS → R (List D)) (x : D) (h2 : HS) : R (List D) := match bindN tg x (wipeE δ own) with
  | some δ1 => (evalB cl t δ1 h2).bind fun b h3 => if b then f δ1 h3 else .ok [] h3
  | none => .bad
theorem E_tB {c : CB} {b : Bool} {h3 : HS} {R' : Bool → Hp → Prop} (re : RelE K ι δ h σ H) (e : evalB cl c δ h = .ok b h3) (k : ∀ ι1 H1, Ext ι H ι1 H1 → RelE K ι1 δ h3 σ H1 → R' b H1) : tB Z K cl c σ H R' := by
  refine ⟨ι, δ, h, re, ?_⟩
  rw [e]
  intro ι1 v H1 ex r1 rp
  subst rp
  exact k ι1 H1 ex (re.ext ex r1)
theorem E_tE {x : D} {h3 : HS} {R' : VK} (re : RelE K ι δ h σ H) (e : evalE cl ce δ h = .ok x h3) (k : ∀ ι1 v H1, Ext ι H ι1 H1 → RelE K ι1 δ h3 σ H1 → Rp K ι1 H1 x v → R' v H1) : tE Z K cl ce σ H R' := by
  refine ⟨ι, δ, h, re, ?_⟩
  rw [e]
  intro ι1 v H1 ex r1 rp
  exact k ι1 v H1 ex (re.ext ex r1) rp
theorem E_tI {c : CI} {w : Its} {h3 : HS} {R' : It → Hp → Prop} (re : RelE K ι δ h σ H) (e : evalI cl c δ h = .ok w h3) (k : ∀ ι1 J H1, Ext ι H ι1 H1 → RelE K ι1 δ h3 σ H1 → WalkR K H ι1 H1 w J → R' J H1) : tI Z K cl c σ H R' := by
  refine ⟨ι, δ, h, re, ?_⟩
  rw [e]
  intro ι1 v H1 ex r1 rp
  exact k ι1 v H1 ex (re.ext ex r1) rp
theorem step_J {α β : Type} {RR : List Addr → Hp → α → β → Prop} {c : CI} {f : Its → HS → R α} {Q : β → Hp → Prop} {R' : It → Hp → Prop} (re : RelE K ι δ h σ H) (q : Post (Z.at K σ) RR K ι H ((evalI cl c δ h).bind f) Q)
    (k : ∀ w h1 ι1 J H1, Ext ι H ι1 H1 → RelE K ι1 δ h1 σ H1 → WalkR K H ι1 H1 w J → Post (Z.at K σ) RR K ι1 H1 (f w h1) Q → R' J H1) : tI Z K cl c σ H R' := by
  refine ⟨ι, δ, h, re, ?_⟩
  cases e : evalI cl c δ h with
  | ok w h1 =>
    rw [e] at q
    exact fun ι1 J H1 ex r1 rp => k w h1 ι1 J H1 ex (re.ext ex r1) rp (Post.shift ex r1.mut q)
  | exc c fs h1 => rw [e] at q; exact q
  | bad => rw [e] at q; exact q.elim
theorem Post.of_nx {α β γ : Type} {RR : List Addr → Hp → α → β → Prop} {r : R γ} {f : γ → HS → R α} {Q : β → Hp → Prop} (q : Post ω RR K ι H (r.nx.bind f) Q) : ∃ a h1, r = .ok a h1 ∧ Post ω RR K ι H (f a h1) Q := by
  cases r with
  | ok a h1 => exact ⟨a, h1, rfl, q⟩
  | exc c fs h1 => exact q.elim
  | bad => exact q.elim
theorem compD_nil {live : HS → Bool} {f : D → HS → R (List D)} {r : List D} {h h1 : HS} (q : compD live f [] h = .ok r h1) : r = [] ∧ h1 = h := by
  rw [compD] at q
  by_cases c : live h = true
  · rw [if_pos c] at q; cases q; exact ⟨rfl, rfl⟩
  · rw [if_neg c] at q; cases q
theorem compD_cons {live : HS → Bool} {f : D → HS → R (List D)} {x : D} {xs : List D} {r : List D} {h h1 : HS} (q : compD live f (x :: xs) h = .ok r h1) : ∃ y h2 ys, f x h = .ok y h2 ∧ compD live f xs h2 = .ok ys h1 ∧ r = y ++ ys := by
  rw [compD] at q
  by_cases c : live h = true
  · rw [if_pos c] at q
    obtain ⟨y, h2, e1, q⟩ := R.bind_eq q
    obtain ⟨ys, h3, e2, q⟩ := R.bind_eq q
    cases q
    exact ⟨y, h2, ys, e1, e2, rfl⟩
  · rw [if_neg c] at q; cases q
theorem lc2_it {J : It} {n : Nat} {G : Hp → Prop} {Y : Nat → Hp → V → Hp → Prop} (w : L2.Walk J n G Y) {g : TG} {vs : List Nat} {σ : St} {H1 : Hp} {D : Addr} {Qd : Hp → Prop} {B : St → Hp → (Hp → Prop) → Prop} (Pv : Nat → Hp → Prop) (h0 : Pv 0 (upd H1 D (.lst []))) (hG : ∀ i H, i ≤ n → Pv i H → G H)
    (hs : ∀ i x H H', i < n → Pv i H → Y i H x H' → g x (wipe σ vs) H' fun σ2 H2 => wipe σ2 vs = wipe σ vs ∧ B σ2 H2 (Pv (i + 1))) (hd : ∀ H, Pv n H → Qd H) :
    ∃ W : Nat → Nat → Hp → Prop, (∃ m, W 0 m (upd H1 D (.lst []))) ∧ ∀ i m H, W i m H →
      (J.stop i H ∧ Qd H) ∨ (J.go i H ∧ ∃ Nx : Hp → Prop, (∀ H', Nx H' → ∃ m', m' < m ∧ W (i + 1) m' H') ∧ ∀ x H', J.yld i H x H' → g x (wipe σ vs) H' fun σ2 H2 => wipe σ2 vs = wipe σ vs ∧ B σ2 H2 Nx) := by
  refine ⟨fun i m H => m = n - i ∧ i ≤ n ∧ Pv i H, ⟨n, by simp, Nat.zero_le _, h0⟩, ?_⟩
  rintro i m H ⟨rfl, hi, p⟩
  have q := hG i H hi p
  by_cases hlt : i < n
  · refine .inr ⟨w.goes i H hlt q, Pv (i + 1), fun H' p' => ⟨n - (i + 1), by omega, rfl, hlt, p'⟩, fun x H' y => hs i x H H' hlt p (w.yields i H x H' hlt q y)⟩
  · have e : i = n := by omega
    subst e
    exact .inl ⟨w.stops H q, hd H p⟩
theorem lcI_it {J : It} {n : Nat} {G : Hp → Prop} {Y : Nat → Hp → V → Hp → Prop} (w : L2.Walk J n G Y) {g : TG} {vs : List Nat} {σ : St} {H1 : Hp} {Qd : Hp → Prop} {B : St → Hp → (Hp → Prop) → Prop} (Pv : Nat → Hp → Prop) (h0 : Pv 0 H1) (hG : ∀ i H, i ≤ n → Pv i H → G H)
    (hs : ∀ i x H H', i < n → Pv i H → Y i H x H' → g x (wipe σ vs) H' fun σ2 H2 => wipe σ2 vs = wipe σ vs ∧ B σ2 H2 (Pv (i + 1))) (hd : ∀ H, Pv n H → Qd H) :
    ∃ W : Nat → Nat → Hp → Prop, (∃ m, W 0 m H1) ∧ ∀ i m H, W i m H →
      (J.stop i H ∧ Qd H) ∨ (J.go i H ∧ ∃ Nx : Hp → Prop, (∀ H', Nx H' → ∃ m', m' < m ∧ W (i + 1) m' H') ∧ ∀ x H', J.yld i H x H' → g x (wipe σ vs) H' fun σ2 H2 => wipe σ2 vs = wipe σ vs ∧ B σ2 H2 Nx) := by
  refine ⟨fun i m H => m = n - i ∧ i ≤ n ∧ Pv i H, ⟨n, by simp, Nat.zero_le _, h0⟩, ?_⟩
  rintro i m H ⟨rfl, hi, p⟩
  have q := hG i H hi p
  by_cases hlt : i < n
  · refine .inr ⟨w.goes i H hlt q, Pv (i + 1), fun H' p' => ⟨n - (i + 1), by omega, rfl, hlt, p'⟩, fun x H' y => hs i x H H' hlt p (w.yields i H x H' hlt q y)⟩
  · have e : i = n := by omega
    subst e
    exact .inl ⟨w.stops H q, hd H p⟩
theorem lc_ok {own : List Nat} {tg : NT} {it : CI} {t : CB} {e : CE} {Q : VK} (re : RelE K ι δ h σ H) (q : PostE (Z.at K σ) K ι H (evalE cl (.lc own tg it t e) δ h) Q) (hsl : ∀ i ∈ tg.slots, i ∈ own) :
    tLc (tI Z K cl it) (gN K tg) (tB Z0 K cl t) (tE Z0 K cl e) own σ H Q := by
  simp only [evalE] at q
  refine step_J re (trE_ok re q) fun w h1 ι1 J H1 e1 r1 wk q D hD => ?_
  obtain ⟨ys, h2, ec, q⟩ := Post.of_nx q
  have ml := (mkL_some q).1
  obtain ⟨G, Y, t0, W, ht, wG, wY⟩ := wk
  have tt : ∀ {ι2 H2}, Ext ι1 H1 ι2 H2 → ∀ a ∈ t0, H2 a = H1 a := fun e a ha => by obtain ⟨_, n, o, q⟩ := ht a ha; rw [q, e.fr a o q n]
  refine lc_it W (fun i H' => ∃ ι2 hh zs rs, Cp K ι1 H1 D zs ι2 H' ∧ RelH K ι2 hh H' ∧ compD (liveOk w.live) (fun x h2 => match bindN tg x (wipeE δ own) with
      | some δ1 => (evalB cl t δ1 h2).bind fun b h3 => if b then (evalE cl e δ1 h3).bind fun y h4 => .ok [y] h4 else .ok [] h3
      | none => .bad) (w.items.drop i) hh = .ok rs h2 ∧ zs ++ rs = ys) ⟨ι1, h1, [], ys, ?_, ?_, ec, rfl⟩ ?_ ?_ ?_
  · exact ⟨hD, Ext.same (same_new hD), fun hp => (by obtain ⟨o, e', _⟩ := r1.rel.mut D hp; rw [hD] at e'; cases e'), ⟨[], upd_same, .nil⟩⟩
  · exact r1.rel.same (same_new hD)
  · rintro i H' hi ⟨ι2, hh, zs, rs, c, r2, ecd, ez⟩
    exact wG ι2 H' hh (c.ext.toI r1.rel.mut) (tt c.ext) r2 (compD_live ecd)
  · rintro i x H' H'' hlt ⟨ι2, hh, zs, rs, c, r2, ecd, ez⟩ y
    have lv := compD_live ecd
    obtain ⟨d, ed, sm, rd⟩ := wY i x ι2 H' hh H'' hlt (c.ext.toI r1.rel.mut) (tt c.ext) r2 lv y
    rw [List.drop_eq_getElem_cons hlt] at ecd
    have ed' : w.items[i] = d := by
      rw [List.getElem?_eq_getElem hlt] at ed; exact Option.some.inj ed
    rw [ed'] at ecd
    obtain ⟨y1, h3, ys2, ef, ecd, er⟩ := compD_cons ecd
    have c2 := c.step r2.mut (Ext.same sm)
    have r3 := r1.ext c2.ext (r2.same sm)
    cases eb : bindN tg d (wipeE δ own) with
    | none => rw [eb] at ef; cases ef
    | some δ3 =>
      simp only [eb] at ef
      obtain ⟨b, h4, et, ef⟩ := R.bind_eq ef
      refine gN_ok r3.wipe rd eb fun σ1 r4 w4 => ⟨by rw [w4 own hsl, wipe_sub fun _ h => h], ?_⟩
      refine E_tB r4 et fun ι4 H4 e4 r5 => ?_
      have c4 := c2.step r4.rel.mut e4
      cases b with
      | false =>
        rw [if_neg Bool.false_ne_true] at ef ⊢
        cases ef
        exact ⟨ι4, _, zs, ys2, c4, r5.rel, ecd, by rw [← ez, er]; rfl⟩
      | true =>
        rw [if_pos rfl] at ef ⊢
        obtain ⟨y2, h5, ee, ef⟩ := R.bind_eq ef
        cases ef
        refine E_tE r5 ee fun ι5 v5 H5 e5 r6 rv => ?_
        have c5 := c4.step r5.rel.mut e5
        obtain ⟨vs, hv, lv2, c6, r7⟩ := c5.app r1.rel.mut r6.rel rv
        refine ⟨vs, hv, ?_, ι5, _, zs ++ [y2], ys2, c6, r7, ecd, by rw [← ez, er, List.append_assoc]⟩
        rw [lv2, ← LIM_line]
        rw [← ez, er] at ml
        simp at ml
        omega
  · rintro H' ⟨ι2, hh, zs, rs, c, r2, ecd, ez⟩
    rw [List.drop_length] at ecd
    obtain ⟨rfl, rfl⟩ := compD_nil ecd
    rw [List.append_nil] at ez
    subst ez
    exact c.fin r2 q

/-- what stays through an inner loop -/
structure In1 (t : List Addr) (ι0 : List Addr) (H0 : Hp) (ι : List Addr) (H : Hp) : Prop where
  ext : ExtI ι0 H0 ι H
  tt : ∀ a ∈ t, (∃ o, H a = some o) ∧ H a = H0 a ∧ a ∉ ι
theorem ExtI.trans (e1 : ExtI ι H ι1 H1) (e2 : ExtI ι1 H1 ι2 H2) : ExtI ι H ι2 H2 := by
  obtain ⟨ex, rfl⟩ := e1.pre
  obtain ⟨ex2, rfl⟩ := e2.pre
  exact ⟨⟨ex ++ ex2, by simp⟩, fun a o q z => e2.fr a o (e1.fr a o q z) z⟩
theorem In1.step {t : List Addr} {ι0 : List Addr} {H0 : Hp} (i : In1 t ι0 H0 ι H) (m : MutI ι H) (e : Ext ι H ι1 H1) : In1 t ι0 H0 ι1 H1 := by
  refine ⟨i.ext.trans (e.toI m), fun a ha => ?_⟩
  obtain ⟨⟨o, ho⟩, e0, n⟩ := i.tt a ha
  have e1 := e.fr a o ho n
  refine ⟨⟨o, e1⟩, by rw [← e0, ho, e1], fun hi => ?_⟩
  obtain ⟨ex, rfl, hx⟩ := e.pre
  rcases List.mem_append.mp hi with hi | hi
  · exact n hi
  · rw [hx a hi] at ho; cases ho
theorem In1.wr {t : List Addr} {ι0 : List Addr} {H0 : Hp} {o o' : HO} (i : In1 t ι0 H0 ι H) (hp : H p = some o) (hm : isM o = true) (hn : p ∉ t) : In1 t ι0 H0 ι (upd H p o') := by
  refine ⟨⟨i.ext.pre, fun a u q z => ?_⟩, fun a ha => ?_⟩
  · have q1 := i.ext.fr a u q z
    rw [upd_ne (fun e => by rw [e, hp] at q1; cases q1; rw [hm] at z; cases z)]
    exact q1
  · have ne : a ≠ p := fun e => hn (e ▸ ha)
    rw [upd_ne ne]
    exact i.tt a ha
theorem RelE.extI (re : RelE K ι δ h σ H) (e : ExtI ι H ι1 H1) (r : RelH K ι1 h1 H1) : RelE K ι1 δ h1 σ H1 :=
  ⟨r, re.len, fun i d q => let ⟨v, e1, r1⟩ := re.env i d q; ⟨v, e1, r1.extI e⟩⟩
theorem lc2_ok {own own1 : List Nat} {tg tg1 : NT} {it it1 : CI} {t t1 : CB} {e : CE} {Q : VK} (re : RelE K ι δ h σ H) (q : PostE (Z.at K σ) K ι H (evalE cl (.lc2 own own1 tg it t tg1 it1 t1 e) δ h) Q) (hsl : ∀ i ∈ tg.slots, i ∈ own) (hsl1 : ∀ i ∈ tg1.slots, i ∈ own1) (hown : ∀ i ∈ own1, i ∈ own) :
    tLc2 (tI Z K cl it) (gN K tg) (tB Z0 K cl t) (tI Z0 K cl it1) (gN K tg1) (tB Z0 K cl t1) (tE Z0 K cl e) own own1 σ H Q := by
  simp only [evalE] at q
  refine step_J re (trE_ok re q) fun w h1 ι1 J H1 e1 r1 wk q D hD => ?_
  obtain ⟨ys, h2, ec, q⟩ := Post.of_nx q
  have ml := (mkL_some q).1
  obtain ⟨G, Y, t0, W, ht, wG, wY⟩ := wk
  have tt : ∀ {ι2 H2}, Ext ι1 H1 ι2 H2 → ∀ a ∈ t0, H2 a = H1 a := fun e a ha => by obtain ⟨_, n, o, q⟩ := ht a ha; rw [q, e.fr a o q n]
  refine lc2_it W (fun i H' => ∃ ι2 hh zs rs, Cp K ι1 H1 D zs ι2 H' ∧ RelH K ι2 hh H' ∧ compD (liveOk w.live) (fun x h2 => match bindN tg x (wipeE δ own) with
      | some δ1 => (evalB cl t δ1 h2).bind fun b h3 => if b then (evalI cl it1 δ1 h3).bind fun w1 h4 => compD (liveOk w1.live) (fun x1 h5 => match bindN tg1 x1 (wipeE δ1 own1) with
          | some δ2 => (evalB cl t1 δ2 h5).bind fun b1 h6 => if b1 then (evalE cl e δ2 h6).bind fun y h7 => .ok [y] h7 else .ok [] h6
          | none => .bad) w1.items h4 else .ok [] h3
      | none => .bad) (w.items.drop i) hh = .ok rs h2 ∧ zs ++ rs = ys) ⟨ι1, h1, [], ys, ?_, ?_, ec, rfl⟩ ?_ ?_ ?_
  · exact ⟨hD, Ext.same (same_new hD), fun hp => (by obtain ⟨o, e', _⟩ := r1.rel.mut D hp; rw [hD] at e'; cases e'), ⟨[], upd_same, .nil⟩⟩
  · exact r1.rel.same (same_new hD)
  · rintro i H' hi ⟨ι2, hh, zs, rs, c, r2, ecd, ez⟩
    exact wG ι2 H' hh (c.ext.toI r1.rel.mut) (tt c.ext) r2 (compD_live ecd)
  · rintro i x H' H'' hlt ⟨ι2, hh, zs, rs, c, r2, ecd, ez⟩ y
    have lv := compD_live ecd
    obtain ⟨d, ed, sm, rd⟩ := wY i x ι2 H' hh H'' hlt (c.ext.toI r1.rel.mut) (tt c.ext) r2 lv y
    rw [List.drop_eq_getElem_cons hlt] at ecd
    have ed' : w.items[i] = d := by
      rw [List.getElem?_eq_getElem hlt] at ed; exact Option.some.inj ed
    rw [ed'] at ecd
    obtain ⟨y1, h3, ys2, ef, ecd, er⟩ := compD_cons ecd
    have c2 := c.step r2.mut (Ext.same sm)
    have r3 := r1.ext c2.ext (r2.same sm)
    cases eb : bindN tg d (wipeE δ own) with
    | none => rw [eb] at ef; cases ef
    | some δ3 =>
      simp only [eb] at ef
      obtain ⟨b, h4, et, ef⟩ := R.bind_eq ef
      refine gN_ok r3.wipe rd eb fun σ1 r4 w4 => ⟨by rw [w4 own hsl, wipe_sub fun _ h => h], ?_⟩
      refine E_tB r4 et fun ι4 H4 e4 r5 => ?_
      have c4 := c2.step r4.rel.mut e4
      cases b with
      | false =>
        rw [if_neg Bool.false_ne_true] at ef ⊢
        cases ef
        exact ⟨ι4, _, zs, ys2, c4, r5.rel, ecd, by rw [← ez, er]; rfl⟩
      | true =>
        rw [if_pos rfl] at ef ⊢
        obtain ⟨w1, h5, ei, ef⟩ := R.bind_eq ef
        refine E_tI r5 ei fun ι5 J1 H5 e5 r6 wk1 => ?_
        have c5 := c4.step r5.rel.mut e5
        obtain ⟨G1, Y1, t2, W1, ht1, wG1, wY1⟩ := wk1
        have hDt : D ∉ t2 := fun hd => by
          obtain ⟨vs, hv, _⟩ := c4.at_
          rw [(ht1 D hd).1] at hv; cases hv
        refine lcI_it W1 (fun j H' => ∃ ι6 hh zs' rs', Cp K ι1 H1 D zs' ι6 H' ∧ RelH K ι6 hh H' ∧ In1 t2 ι5 H5 ι6 H' ∧ compD (liveOk w1.live) (fun x1 h5 => match bindN tg1 x1 (wipeE δ3 own1) with
          | some δ2 => (evalB cl t1 δ2 h5).bind fun b1 h6 => if b1 then (evalE cl e δ2 h6).bind fun y h7 => .ok [y] h7 else .ok [] h6
          | none => .bad) (w1.items.drop j) hh = .ok rs' h3 ∧ zs' ++ rs' = zs ++ y1) ⟨ι5, _, zs, y1, c5, r6.rel, ⟨Ext.refl.toI r6.rel.mut, fun a ha => ⟨(ht1 a ha).2.2, rfl, (ht1 a ha).2.1⟩⟩, ef, rfl⟩ ?_ ?_ ?_
        · rintro j H' hj ⟨ι6, hh, zs', rs', c6, r7, i6, ecd6, ez6⟩
          exact wG1 ι6 H' hh i6.ext (fun a ha => (i6.tt a ha).2.1) r7 (compD_live ecd6)
        · rintro j x H' H'' hlt1 ⟨ι6, hh, zs', rs', c6, r7, i6, ecd6, ez6⟩ y
          have lv1 := compD_live ecd6
          obtain ⟨d1, ed1, sm1, rd1⟩ := wY1 j x ι6 H' hh H'' hlt1 i6.ext (fun a ha => (i6.tt a ha).2.1) r7 lv1 y
          rw [List.drop_eq_getElem_cons hlt1] at ecd6
          have ed1' : w1.items[j] = d1 := by
            rw [List.getElem?_eq_getElem hlt1] at ed1; exact Option.some.inj ed1
          rw [ed1'] at ecd6
          obtain ⟨y2, h6, ys3, ef6, ecd6, er6⟩ := compD_cons ecd6
          have c7 := c6.step r7.mut (Ext.same sm1)
          have i7 := i6.step r7.mut (Ext.same sm1)
          have r8 := r6.extI i7.ext (r7.same sm1)
          cases eb1 : bindN tg1 d1 (wipeE δ3 own1) with
          | none => rw [eb1] at ef6; cases ef6
          | some δ4 =>
            simp only [eb1] at ef6
            obtain ⟨b1, h7, et1, ef6⟩ := R.bind_eq ef6
            refine gN_ok r8.wipe rd1 eb1 fun σ2 r9 w9 => ⟨by rw [w9 own1 hsl1, wipe_sub fun _ h => h], ?_⟩
            refine E_tB r9 et1 fun ι8 H8 e8 r10 => ?_
            have c8 := c7.step r9.rel.mut e8
            have i8 := i7.step r9.rel.mut e8
            cases b1 with
            | false =>
              rw [if_neg Bool.false_ne_true] at ef6 ⊢
              cases ef6
              exact ⟨ι8, _, zs', ys3, c8, r10.rel, i8, ecd6, by rw [← ez6, er6]; rfl⟩
            | true =>
              rw [if_pos rfl] at ef6 ⊢
              obtain ⟨y3, h8, ee, ef6⟩ := R.bind_eq ef6
              cases ef6
              refine E_tE r10 ee fun ι9 v9 H9 e9 r11 rv => ?_
              have c9 := c8.step r10.rel.mut e9
              have i9 := i8.step r10.rel.mut e9
              obtain ⟨vs, hv, lv2, c10, r12⟩ := c9.app r1.rel.mut r11.rel rv
              refine ⟨vs, hv, ?_, ι9, _, zs' ++ [y3], ys3, c10, r12, i9.wr hv rfl hDt, ecd6, by rw [← ez6, er6, List.append_assoc]⟩
              rw [lv2, ← LIM_line]
              have l6 := congrArg List.length ez6
              rw [er6] at l6
              rw [← ez, er] at ml
              simp at ml l6
              omega
        · rintro H' ⟨ι6, hh, zs', rs', c6, r7, i6, ecd6, ez6⟩
          rw [List.drop_length] at ecd6
          obtain ⟨rfl, rfl⟩ := compD_nil ecd6
          rw [List.append_nil] at ez6
          subst ez6
          exact ⟨ι6, _, zs ++ y1, ys2, c6, r7, ecd, by rw [← ez, er, List.append_assoc]⟩
  · rintro H' ⟨ι2, hh, zs, rs, c, r2, ecd, ez⟩
    rw [List.drop_length] at ecd
    obtain ⟨rfl, rfl⟩ := compD_nil ecd
    rw [List.append_nil] at ez
    subst ez
    exact c.fin r2 q
end
end Mi

namespace Mi
open PySem L2
/-! ## {k: v, ..} -/
def prs (Z : XI) (K : PySem.W.Frag) (cl : Cl) : CL → List (TE × TE)
  | .cons k (.cons v r) => (tE Z K cl k, tE Z K cl v) :: prs Z K cl r
  | _ => []
def PairR (K : PySem.W.Frag) (ι : List Addr) (H : Hp) (kvs : List (D × D)) (ps : List (V × V)) : Prop := Paired (fun p q => Rp K ι H p.1 q.1 ∧ Rp K ι H p.2 q.2) kvs ps
section
variable {Z : XI} {K : PySem.W.Frag} {cl : Cl} {δ : En} {σ : St}
theorem tp_ok : ∀ {es : CL} {ι : List Addr} {h h1 : HS} {H : Hp} {xs : List D} {kvs : List (D × D)} {Q : List (V × V) → Hp → Prop}, RelE K ι δ h σ H → evalL cl es δ h = .ok xs h1 → pairsD xs = some kvs →
    (∀ ι1 H1 ps, Ext ι H ι1 H1 → RelH K ι1 h1 H1 → PairR K ι1 H1 kvs ps → Q ps H1) → tPairs (prs Z K cl es) σ H Q
  | .nil, ι, h, h1, H, xs, kvs, Q, re, e, ep, k => by
    simp only [evalL] at e
    cases e
    cases ep
    exact k ι H [] Ext.refl re.rel .nil
  | .cons a .nil, ι, h, h1, H, xs, kvs, Q, re, e, ep, k => by
    simp only [evalL] at e
    obtain ⟨x, h2, _, e⟩ := R.bind_eq e
    simp only [R.bind_ok] at e
    cases e
    cases ep
  | .cons a (.cons b r), ι, h, h1, H, xs, kvs, Q, re, e, ep, k => by
    simp only [evalL] at e
    obtain ⟨x, h2, ea, e⟩ := R.bind_eq e
    obtain ⟨ys, h3, e1, e⟩ := R.bind_eq e
    obtain ⟨y, h4, eb, e1⟩ := R.bind_eq e1
    obtain ⟨zs, h5, er, e1⟩ := R.bind_eq e1
    cases e1; cases e
    simp only [pairsD, Option.map_eq_some_iff] at ep
    obtain ⟨l, el, rfl⟩ := ep
    refine E_tE re ea fun ι1 v H1 x1 r1 rv => E_tE r1 eb fun ι2 w H2 x2 r2 rw' => ?_
    refine tp_ok r2 er el fun ι3 H3 ps x3 r3 pr => k ι3 H3 _ ((x1.trans r1.rel.mut x2).trans r2.rel.mut x3) r3 (.cons ⟨(rv.ext x2 r1.rel.mut).ext x3 r2.rel.mut, rw'.ext x3 r2.rel.mut⟩ pr)
theorem RelH.app {ι : List Addr} {h : HS} {H : Hp} {p : Addr} {c : Cell} (r : RelH K ι h H) (hn : p ∉ ι) (rc : CellRel K (ι ++ [p]) H c p) : RelH K (ι ++ [p]) (h ++ [c]) H := by
  refine ⟨by simp [r.len], ?_, fun m cc a e1 e2 => ?_⟩
  · rw [List.nodup_append]
    refine ⟨r.nd, by simp, fun a ha b hb => ?_⟩
    simp at hb; subst hb; exact fun z => hn (z ▸ ha)
  · by_cases hm : m < h.length
    · rw [List.getElem?_append_left hm] at e1
      rw [List.getElem?_append_left (by rw [r.len]; exact hm)] at e2
      exact (r.cell m cc a e1 e2).more
    · have hm' : m = h.length := by
        have := (List.getElem?_eq_some_iff.mp e1).1
        simp at this; omega
      subst hm'
      rw [List.getElem?_append_right (Nat.le_refl _)] at e1
      rw [← r.len, List.getElem?_append_right (Nat.le_refl _)] at e2
      simp at e1 e2; subst e1; subst e2
      exact rc
theorem key_pairs {ι : List Addr} {H : Hp} : ∀ {kvs : List (D × D)} {ps : List (V × V)}, PairR K ι H kvs ps → (kvs.all fun kv => keyD kv.1) = true →
    ∃ ks : List (Key × V), ps = ks.map (fun kv => (kV kv.1, kv.2)) ∧ Paired (fun p q => keyOf p.1 = some q.1 ∧ Rp K ι H p.2 q.2) kvs ks
  | [], _, .nil, _ => ⟨[], rfl, .nil⟩
  | (k, d) :: kvs, (y, v) :: ps, .cons z t, a => by
    rw [List.all_cons, Bool.and_eq_true] at a
    obtain ⟨ks, e1, r⟩ := key_pairs t a.2
    obtain ⟨kk, ek⟩ := keyD_of a.1
    refine ⟨(kk, v) :: ks, ?_, .cons ⟨ek, z.2⟩ r⟩
    have ey : y = kV kk := keyOf_rp ek z.1
    rw [e1, List.map_cons, ey]
theorem merge_rel {ι : List Addr} {H : Hp} : ∀ {kvs : List (D × D)} {ks : List (Key × V)} {acc : List (D × D)} {aK : List (Key × V)}, Paired (fun p q => keyOf p.1 = some q.1 ∧ Rp K ι H p.2 q.2) acc aK → Paired (fun p q => keyOf p.1 = some q.1 ∧ Rp K ι H p.2 q.2) kvs ks →
    Paired (fun p q => keyOf p.1 = some q.1 ∧ Rp K ι H p.2 q.2) (kvs.foldl (fun acc kv => putK acc kv.1 kv.2) acc) (mergeK aK ks)
  | [], _, _, _, ra, .nil => ra
  | kv :: kvs, k :: ks, acc, aK, ra, .cons z t => by
    have := put_rel (K := K) (ι := ι) (H := H) (fun a b x => keyOf_inj) z.1 z.2 ra
    exact merge_rel (kvs := kvs) (ks := ks) (acc := putK acc kv.1 kv.2) (aK := L2.putK aK k.1 k.2) this t
end
theorem p_dctK {X : Cx} {Z : XI} {cl : Cl} {es : CL} {keys : List (Option Expr)} {values : List Expr} {pos : Pos} (hp : PPs X pos keys values (prs Z X.K cl es)) (hall : keys.all (·.isSome) = true) (hl : keys.length = values.length) (h0 : keys ≠ []) (h15 : keys.length ≤ 15) : PE X (.Dict keys values pos) (fun σ H Q => ∃ ι δ h, RelE X.K ι δ h σ H ∧ PostE (Z.at X.K σ) X.K ι H ((evalL cl es δ h).nx.bind dispK) Q) := by
  refine pe_imp (pe_disp hp hall hl h0 h15) ?_
  rintro σ H Q ⟨ι, δ, h, re, q⟩ p np
  obtain ⟨xs, h1, ea, q⟩ := Post.of_nx q
  unfold dispK at q
  cases ep : pairsD xs with
  | none => rw [ep] at q; exact q.elim
  | some kvs =>
    rw [ep] at q
    by_cases c : (kvs.all (fun kv => keyD kv.1) && decide (kvs.length ≤ 15)) = true
    · simp only [if_pos c] at q
      rw [Bool.and_eq_true, decide_eq_true_eq] at c
      have pn : p ∉ ι := fun hp => by obtain ⟨_, e, _⟩ := re.rel.mut p hp; rw [np] at e; cases e
      refine tp_ok (re.same (same_new np)) ea ep fun ι1 H1 ps ex r pr => ?_
      have e1 : H1 p = some (.dK []) := ex.fr p _ upd_same pn
      obtain ⟨ex', hx, nx⟩ := ex.pre
      have px : p ∉ ex' := fun hp => by have := nx p hp; rw [upd_same] at this; cases this
      have pn1 : p ∉ ι1 := fun hp => by
        rw [hx] at hp
        rcases List.mem_append.mp hp with hp | hp
        · exact pn hp
        · exact px hp
      obtain ⟨ks, rfl, rk⟩ := key_pairs pr c.1
      refine ⟨e1, ks, rfl, by rw [← Paired.len rk]; exact c.2, ?_⟩
      have rw1 := r.wr (o' := .dK (mergeK [] ks)) e1 rfl pn1
      refine q (ι1 ++ [p]) _ _ ⟨⟨ex' ++ [p], by rw [hx, List.append_assoc], fun a ha => ?_⟩, fun a u e hn => ?_⟩ (rw1.app pn1 (.inl ⟨_, upd_same, ?_⟩)) (.ref (by rw [← rw1.len]; simp))
      · rcases List.mem_append.mp ha with ha | ha
        · have := nx a ha
          rw [upd_ne (fun z : a = p => px (z ▸ ha))] at this
          exact this
        · simp at ha; subst ha; exact np
      · rw [upd_ne (ne_of_none e np)]
        exact ex.fr a u (same_new np a u e) hn
      · exact Paired.mapX (fun _ _ z => ⟨z.1, (z.2.wr e1 rfl).more⟩) (merge_rel .nil rk)
    · simp only [if_neg c] at q; exact q.elim
theorem p_dctT {X : Cx} {Z : XI} {cl : Cl} {es : CL} {keys : List (Option Expr)} {values : List Expr} {pos : Pos} (hp : PPs X pos keys values (prs Z X.K cl es)) (hall : keys.all (·.isSome) = true) (hl : keys.length = values.length) (hu : X.A.units + 64 < cLine) (h0 : keys ≠ []) (h15 : keys.length ≤ 15) : PE X (.Dict keys values pos) (fun σ H Q => ∃ ι δ h, RelE X.K ι δ h σ H ∧ PostE (Z.at X.K σ) X.K ι H ((evalL cl es δ h).nx.bind dispT) Q) := by
  refine pe_imp (pe_dispT (by omega) hp hall hl h0 h15) ?_
  rintro σ H Q ⟨ι, δ, h, re, q⟩ p np
  obtain ⟨xs, h1, ea, q⟩ := Post.of_nx q
  unfold dispT at q
  match xs, ea, q with
  | [k, v], ea, q =>
    by_cases c : tkeyD k = true
    · simp only [if_pos c] at q
      have pn : p ∉ ι := fun hp => by obtain ⟨_, e, _⟩ := re.rel.mut p hp; rw [np] at e; cases e
      refine tp_ok (re.same (same_new np)) ea (kvs := [(k, v)]) rfl fun ι1 H1 ps ex r pr => ?_
      have e1 : H1 p = some (.dK []) := ex.fr p _ upd_same pn
      obtain ⟨ex', hx, nx⟩ := ex.pre
      have px : p ∉ ex' := fun hp => by have := nx p hp; rw [upd_same] at this; cases this
      have pn1 : p ∉ ι1 := fun hp => by
        rw [hx] at hp
        rcases List.mem_append.mp hp with hp | hp
        · exact pn hp
        · exact px hp
      cases pr with
      | @cons _ pv _ _ z t =>
        cases t
        obtain ⟨kk, ek⟩ := tkeyD_of c
        obtain ⟨pk, py⟩ := pv
        obtain ⟨z1, z2⟩ := z
        obtain ⟨b, eb0, eb⟩ := tkeyOf_rp ek z1
        have eb0 : pk = .ref b := eb0
        subst eb0
        refine ⟨e1, b, kk, py, rfl, eb, ?_⟩
        have rw1 := r.wr (o' := tdO p [(kk, b, py)]) e1 rfl pn1
        refine q (ι1 ++ [p]) _ _ ⟨⟨ex' ++ [p], by rw [hx, List.append_assoc], fun a ha => ?_⟩, fun a u e hn => ?_⟩ (rw1.app pn1 (.inr ⟨[(kk, b, py)], by simp, upd_same, fun x hx => by simp at hx; subst hx; exact eb.wr e1 rfl, .cons ⟨ek, (z2.wr e1 rfl).more⟩ .nil⟩)) (.ref (by rw [← rw1.len]; simp))
        · rcases List.mem_append.mp ha with ha | ha
          · have := nx a ha
            rw [upd_ne (fun z : a = p => px (z ▸ ha))] at this
            exact this
          · simp at ha; subst ha; exact np
        · rw [upd_ne (ne_of_none e np)]
          exact ex.fr a u (same_new np a u e) hn
    · simp only [if_neg c] at q; exact q.elim
  | [], ea, q => exact q.elim
  | [_], ea, q => exact q.elim
  | _ :: _ :: _ :: _, ea, q => exact q.elim
theorem p_dct {X : Cx} {Z : XI} {cl : Cl} {es : CL} {keys : List (Option Expr)} {values : List Expr} {pos : Pos} (hp : PPs X pos keys values (prs Z X.K cl es)) (hall : keys.all (·.isSome) = true) (hl : keys.length = values.length) (hu : X.A.units + 64 < cLine) (h0 : keys ≠ []) (h15 : keys.length ≤ 15) : PE X (.Dict keys values pos) (tE Z X.K cl (.dctL es)) := by
  refine ⟨fun pins s σ H Q I h0' => ?_⟩
  obtain ⟨ι, δ, h, re, q⟩ := h0'
  simp only [evalE] at q
  obtain ⟨xs, h1, ea, q'⟩ := Post.of_nx q
  have enx : (evalL cl es δ h).nx = .ok xs h1 := by rw [ea]; rfl
  by_cases c : ∃ ys r, xs = .tup ys :: r
  · obtain ⟨ys, r, rfl⟩ := c
    exact (p_dctT hp hall hl hu h0 h15).run pins s σ H Q I ⟨ι, δ, h, re, by rw [enx]; exact q'⟩
  · have e : dispF xs h1 = dispK xs h1 := by
      unfold dispF
      split
      · rename_i ys r; exact absurd ⟨ys, r, rfl⟩ c
      · rfl
    rw [e] at q'
    exact (p_dctK hp hall hl h0 h15).run pins s σ H Q I ⟨ι, δ, h, re, by rw [enx]; exact q'⟩
end Mi

namespace Mi
open PySem L2
/-! ## sorted(set(..)) -/
theorem insU_mem {x y : Int} : ∀ {l : List Int}, y ∈ insU x l ↔ y = x ∨ y ∈ l
  | [] => by simp [insU]
  | z :: r => by
    unfold insU
    split
    · simp
    · split
      · rename_i _ e; subst e; simp
      · simp only [List.mem_cons, insU_mem]
        constructor
        · rintro (h | h | h) <;> simp [h]
        · rintro (h | h | h) <;> simp [h]
theorem insU_asc {x : Int} : ∀ {l : List Int}, l.Pairwise (· < ·) → (insU x l).Pairwise (· < ·)
  | [], _ => by simp [insU]
  | z :: r, h => by
    rw [List.pairwise_cons] at h
    unfold insU
    split
    · rename_i c
      refine List.pairwise_cons.mpr ⟨fun y hy => ?_, List.pairwise_cons.mpr h⟩
      rcases List.mem_cons.mp hy with rfl | hy
      · exact c
      · have := h.1 y hy; omega
    · split
      · exact List.pairwise_cons.mpr h
      · refine List.pairwise_cons.mpr ⟨fun y hy => ?_, insU_asc h.2⟩
        rcases insU_mem.mp hy with rfl | hy
        · omega
        · exact h.1 y hy
theorem sdd_mem {y : Int} : ∀ {l : List Int}, y ∈ sdd l ↔ y ∈ l
  | [] => by simp [sdd]
  | x :: r => by
    show y ∈ insU x (sdd r) ↔ _
    rw [insU_mem, sdd_mem, List.mem_cons]
theorem sdd_asc : ∀ {l : List Int}, (sdd l).Pairwise (· < ·)
  | [] => .nil
  | x :: r => insU_asc (sdd_asc (l := r))
theorem asc_ext : ∀ {l m : List Int}, l.Pairwise (· < ·) → m.Pairwise (· < ·) → (∀ y, y ∈ l ↔ y ∈ m) → l = m
  | [], [], _, _, _ => rfl
  | [], y :: m, _, _, h => absurd ((h y).mpr List.mem_cons_self) (by simp)
  | y :: l, [], _, _, h => absurd ((h y).mp List.mem_cons_self) (by simp)
  | x :: l, y :: m, hl, hm, h => by
    rw [List.pairwise_cons] at hl hm
    have e : x = y := by
      rcases List.mem_cons.mp ((h x).mp List.mem_cons_self) with e | hx
      · exact e
      · rcases List.mem_cons.mp ((h y).mpr List.mem_cons_self) with e | hy
        · exact e.symm
        · have := hl.1 y hy; have := hm.1 x hx; omega
    subst e
    congr 1
    refine asc_ext hl.2 hm.2 fun z => ?_
    have := h z
    simp only [List.mem_cons] at this
    constructor
    · intro hz
      rcases this.mp (.inr hz) with e | hz'
      · have := hl.1 z hz; omega
      · exact hz'
    · intro hz
      rcases this.mpr (.inr hz) with e | hz'
      · have := hm.1 z hz; omega
      · exact hz'
section
variable {X : Cx} {Z : XI} {cl : Cl} {a b : Expr} {ca cb : CE} {pos : Pos}
/-- set(a list, a tuple of ints) -/
def rSetI (K : PySem.W.Frag) (w : World) : List V → Hp → VK → Prop := fun xs H Q => ∃ (l : Addr) (ns : List Int), xs = [.ref l] ∧ (SqL K H l (ns.map V.int) ∨ SqT K H l (ns.map V.int)) ∧ ns.length < 1000 ∧
  ∀ p c, H p = none → c ≤ ns.length → Q (.ref p) (upd H p (SetO w p (fun j => decide (j ∈ ns)) c))
theorem cr_setI (hc : X.calm = true) : CallR X (.type "set") (rSetI X.K X.w) := by
  intro pins s σ H xs us Q I r h
  obtain ⟨l, ns, rfl, hl, hz, q⟩ := h
  rw [Vals.ref1 r]
  have hn : H s.heap.objs.size = none := I.hok.fresh (Nat.le_refl _)
  have hb : ns.length + 1 < scanBound := by unfold scanBound; omega
  rcases hl with hl | hl
  · obtain ⟨its, rv, pl, _⟩ := I.list hl
    refine call_setL ns (I.ok.hd hc) pl.isList (by simpa using rv.ints) hb fun h' tk c R hc' k => ?_
    exact ⟨.ref s.heap.objs.size, upd H s.heap.objs.size (SetO X.w s.heap.objs.size (fun j => decide (j ∈ ns)) c), I.laid (t' := tk) k (Nat.le_refl _) (setO_new R), rfl, q _ c hn hc'⟩
  · obtain ⟨its, rv, pl, _⟩ := I.tuple hl
    refine call_set_tupI ns (I.ok.hd hc) pl (by simpa using rv.ints) hb fun h' tk c R hc' k => ?_
    exact ⟨.ref s.heap.objs.size, upd H s.heap.objs.size (SetO X.w s.heap.objs.size (fun j => decide (j ∈ ns)) c), I.laid (t' := tk) k (Nat.le_refl _) (setO_new R), rfl, q _ c hn hc'⟩
theorem p_sset {p p2 pos2 : Pos} (hc : X.calm = true) (hg : Gl X "sorted") (hm : X.mg "sorted" = none) (hg2 : Gl X "set") (hm2 : X.mg "set" = none) (ha : PE X a (tE Z X.K cl ca)) (na : starEach [a] X.env = (false, eval a X.env) :: starEach [] X.env) :
    PE X (.Call (.Name "sorted" p) [.Call (.Name "set" p2) [a] [] pos2] [] pos) (tE Z X.K cl (.sset ca)) := by
  have h1 := pe_callTy (pos := pos2) (p := p2) (cr_setI hc) hg2 hm2 (by decide +kernel) (pa_cons ha pa_nil na) (by decide) (by decide) na (by rfl)
  refine pe_imp (pe_callB (cr_sortedSet hc) hg hm (by decide +kernel) (pa_cons h1 pa_nil rfl) (by decide) (by decide) (by rfl) (by rfl)) ?_
  rintro σ H Q ⟨ι, δ, h, re, q⟩
  simp only [evalE] at q
  refine step_E re (trE_ok re q) fun x h1 ι1 v H1 e1 r1 rx q => ?_
  unfold ssetF at q
  cases ei : itemsD h1 x with
  | none => rw [ei] at q; exact q.elim
  | some ys =>
    cases en : intsD ys with
    | none => simp only [ei, en] at q; exact q.elim
    | some ns =>
      simp only [ei, en] at q
      by_cases c : ns.length < 64
      · rw [if_pos c] at q
        obtain ⟨_, q⟩ := mkL_some q
        obtain ⟨l, vs, rfl, sq, rl⟩ := rx.itemsOf r1.rel ei
        obtain ⟨rfl, _⟩ := rl.intsD en
        refine ⟨l, ns, rfl, sq, by omega, fun p c2 np hc2 => ⟨p, _, c2, rfl, upd_same, by omega, fun ms p2 asc mem _ np2 => ?_⟩⟩
        have em : ms = sdd ns := asc_ext asc sdd_asc fun y => by rw [mem, sdd_mem]; simp
        subst em
        have ex : Ext ι1 H1 ι1 (upd H1 p (SetO X.w p (fun j => decide (j ∈ ns)) c2)) := Ext.same (same_new np)
        have r2 := r1.rel.same (same_new np (o := SetO X.w p (fun j => decide (j ∈ ns)) c2))
        exact PostE.newL (q.shift ex r2.mut) r2 RpL.ints p2 np2
      · rw [if_neg c] at q; exact q.elim
theorem p_kix {x : Str} {l : List (Str × D)} {p : Pos} {u : Addr} (hg : Gl X x) (hm : X.mg x = some (.ref u)) (hk : ∀ z d, lkD l z = some d → ∃ v, KDct X.K X.w u z v ∧ ∀ ι H, Rp X.K ι H d v) (hb : PE X b (tE Z X.K cl cb)) (hs : PlainIx b)
    (hn : x ≠ "__name__" := by decide) (hdb : (x == ("__debug__" : Str)) = false := by decide) : PE X (.Subscript (.Name x p) b pos) (tE Z X.K cl (.kix l cb)) := by
  refine pe_imp (pe_ix ix_kdict (pe_glob (v := .ref u) hg hm rfl hdb) hb hs) ?_
  rintro σ H Q ⟨ι, δ, h, re, q⟩
  simp only [evalE] at q
  refine step_E re (trE_ok re q) fun x h1 ι1 v H1 e1 r1 rx q => ?_
  cases rx <;> first | exact q.elim | skip
  rename_i z
  have q : PostE (Z.at X.K σ) X.K ι1 H1 (ofO (lkD l z) h1) Q := q
  cases e : lkD l z with
  | none => rw [e] at q; exact q.elim
  | some d =>
    rw [e] at q
    obtain ⟨v, kd, rp⟩ := hk z d e
    exact ⟨u, z, v, rfl, rfl, kd, PostE.val q r1.rel (rp _ _)⟩
end
end Mi

namespace Mi
open PySem L2
/-! ## reading the text -/
def beqN : List Nat → List Nat → Bool
  | [], [] => true
  | x :: r, y :: s => Nat.beq x y && beqN r s
  | _, _ => false
theorem beqN_eq : ∀ {a b : List Nat}, beqN a b = true → a = b
  | [], [], _ => rfl
  | [], _ :: _, h => by cases h
  | _ :: _, [], h => by cases h
  | x :: r, y :: s, h => by
    simp only [beqN, Bool.and_eq_true] at h
    rw [Nat.eq_of_beq_eq_true h.1, beqN_eq h.2]
theorem beqN_refl : ∀ a : List Nat, beqN a a = true
  | [] => rfl
  | x :: r => by simp [beqN, beqN_refl r]
def eqS (a b : Str) : Bool := beqN a.cps.toList b.cps.toList
theorem eqS_eq {a b : Str} (h : eqS a b = true) : a = b := by
  obtain ⟨a⟩ := a; obtain ⟨b⟩ := b
  have := beqN_eq h
  exact congrArg Str.mk (Array.toList_inj.mp this)
theorem eqS_ne {a b : Str} (h : eqS a b = false) : a ≠ b := by
  rintro rfl
  unfold eqS at h
  rw [beqN_refl] at h; cases h
def lkS {α : Type} : List (Str × α) → Str → Option α
  | [], _ => none
  | (y, v) :: r, x => if eqS x y then some v else lkS r x
theorem lkS_eq {α : Type} {x : Str} : ∀ {l : List (Str × α)}, lkS l x = l.lookup x
  | [] => rfl
  | (y, v) :: r => by
    rw [lkS, List.lookup_cons]
    by_cases h : eqS x y = true
    · rw [if_pos h, eqS_eq h]; simp
    · rw [if_neg h]
      have : x ≠ y := eqS_ne (by simpa using h)
      rw [show (x == y) = false by simpa using this]
      exact lkS_eq
def ixS : List Str → Str → Nat → Option Nat
  | [], _, _ => none
  | y :: r, x, i => if eqS x y then some i else ixS r x (i + 1)
theorem ixS_eq {x : Str} : ∀ {l : List Str} {i j : Nat}, ixS l x i = some j → ∃ k, j = i + k ∧ l[k]? = some x
  | [], _, _, h => by cases h
  | y :: r, i, j, h => by
    rw [ixS] at h
    by_cases c : eqS x y = true
    · rw [if_pos c] at h; cases h
      exact ⟨0, rfl, by rw [eqS_eq c]; rfl⟩
    · rw [if_neg c] at h
      obtain ⟨k, e, q⟩ := ixS_eq h
      exact ⟨k + 1, by omega, q⟩
/-! ### side conditions -/
def isStar : Expr → Bool
  | .Starred _ _ => true
  | _ => false
def isSlice : Expr → Bool
  | .Slice _ _ _ _ => true
  | _ => false
def isSet : Expr → Bool
  | .Set _ _ _ => true
  | _ => false
def isComp : Expr → Bool
  | .ListComp _ _ _ _ | .SetComp _ _ _ _ | .DictComp _ _ _ _ _ => true
  | _ => false
def isCall : Expr → Bool
  | .Call _ _ _ _ => true
  | _ => false
theorem star_cons {e : Expr} {es : List Expr} {env : Env} (h : isStar e = false) : starEach (e :: es) env = (false, eval e env) :: starEach es env := by
  cases e <;> first | rfl | cases h
theorem star_none {env : Env} {pos : Pos} : ∀ {es : List Expr}, es.all (fun e => !isStar e) = true → (backTo pos (starEach es env)).any (·.1) = false
  | [], _ => rfl
  | e :: es, h => by
    simp only [List.all_cons, Bool.and_eq_true, Bool.not_eq_true'] at h
    rw [star_cons h.1]
    show (false || (backTo pos (starEach es env)).any (·.1)) = false
    rw [star_none h.2]; rfl
theorem star_all {env : Env} {pos : Pos} : ∀ {es : List Expr}, es.all (fun e => !isStar e) = true → (backTo pos (starEach es env)).all (fun x => !x.1) = true
  | [], _ => rfl
  | e :: es, h => by
    simp only [List.all_cons, Bool.and_eq_true, Bool.not_eq_true'] at h
    rw [star_cons h.1]
    show ((!false) && (backTo pos (starEach es env)).all (fun x => !x.1)) = true
    rw [star_all h.2]; rfl
theorem asg_cons {e : Expr} {es : List Expr} {env : Env} (h : isStar e = false) : assignEach (e :: es) env = (false, assign e env) :: assignEach es env := by
  cases e <;> first | rfl | cases h
theorem asg_len {env : Env} : ∀ {es : List Expr}, es.all (fun e => !isStar e) = true → (assignEach es env).length = es.length ∧ (assignEach es env).findIdx? (·.1) = none
  | [], _ => ⟨rfl, rfl⟩
  | e :: es, h => by
    simp only [List.all_cons, Bool.and_eq_true, Bool.not_eq_true'] at h
    rw [asg_cons h.1]
    obtain ⟨h1, h2⟩ := asg_len (env := env) h.2
    refine ⟨by rw [List.length_cons, List.length_cons, h1], ?_⟩
    rw [List.findIdx?_cons]
    simp [h2]
theorem slice_plain {b : Expr} (h : isSlice b = false) : PlainIx b := by
  intro o i
  cases b <;> first | rfl | cases h
theorem marks {o : CmpOp} {b : Expr} (h : isSet b = false) : behindInMarks o b = false := by
  cases b <;> first | rfl | cases h
theorem marks2 {o o' : CmpOp} {b c : Expr} (h : isSet c = false) : lastMarks [o, o'] [b, c] = false := marks h
theorem folded {e : Expr} {env : Env} {x : Value} (h : isSet e = false) : foldedSetIterable e env x = pure x := by
  cases e <;> first | rfl | cases h
theorem swaps {e : Expr} {t : Option Expr} {l : Nat} {env : Env} (h : isComp e = false) : swapsWith e t l env = pure false := by
  cases e <;> first | rfl | cases h
theorem base_ok {o : Expr} {m : Str} {env : Env} {w : Sem Value} (h : isCall o = false) : attributeBase o m env w = w := by
  cases o <;> first | rfl | cases h
/-- a test that is a plain value -/
def isPlainT : Expr → Bool
  | .UnaryOp .Not _ _ | .BoolOp _ _ _ | .IfExp _ _ _ _ | .Compare _ _ _ _ => false
  | _ => true
theorem plainT {a : Expr} {env : Env} (h : isPlainT a = true) (whole : Sem Value) : isTrue a env whole = (do let v ← whole; standAt a.pos; holding [v] (truthy v)) := by
  cases a <;> first | rfl | (exact absurd h Bool.false_ne_true) | skip
  rename_i op _ _
  cases op <;> first | rfl | (exact absurd h Bool.false_ne_true)
end Mi

namespace Mi
open PySem L2 PySem.W PyProof.Rows
/-! ## super().__init__(..) in an __init__ of an own exception class -/
/-- what the written part says of the def at f: its closure names the class D -/
structure SupF (P : Program) (K : Frag) (F : NdefX.NF) (f D : Addr) : Prop where
  fn : ∃ oc od doc pm ctv osl, K.lookup f = some ⟨oc, od, .func (F.fd doc pm ctv), osl⟩
  cl : ∃ cc cl cld csl, F.cl = [(("__class__" : Str), cc)] ∧ K.lookup cc = some ⟨cl, cld, .cell (some (.ref D)), csl⟩
  code : ∃ ccl cdd vs ccs file tf, K.lookup F.c = some ⟨ccl, cdd, .fields vs, ccs⟩ ∧ vs[2]? = some (.str file tf) ∧ ((P.main.file : Str) == file) = true
  par : ∃ ar : Arg, (F.params.posonlyargs ++ F.params.args).head? = some ar ∧ ar.arg = ("self" : Str)
  ks : F.scope.names.lookup ("super" : Str) = some .globalImplicit
  kc : F.scope.names.lookup ("__class__" : Str) = some .free
  ka : F.scope.names.lookup ("self" : Str) = some .local
  top : (P.main.scope.names.lookup ("super" : Str)).isSome = false
  clD : ∃ cd, clsIn K D = some cd
  any : nsIn K cStatics "thirdparty.any" = some none
/-- the instance's class C, over D; behind D its mro says __init__ is i -/
structure SupC (K : Frag) (C D : Addr) (i : Value) : Prop where
  mro : mroIn K C (.ref D) = some true
  cls : ∃ cd, clsIn K C = some cd ∧ alongIn K "__init__" ((cd.mro.dropWhile (· != .ref D)).drop 1) = some (some i)
section
variable {X : Cx} {pins : List (Addr × Obj)} {σ : L2.St} {H : Hp} {s : Shared} {E : Value → Shared → Prop}
/-- new things that nobody tracks -/
theorem inv_grow {h' : Heap} {t' : Nat} (I : Inv X pins σ H s) (k : ∀ b o, s.heap.get? b = some o → h'.get? b = some o) : Inv X pins σ H { s with heap := h', toks := t' } :=
  I.call' (ch := []) rfl (Un.kept k) (I.hok.kept k) I.bare (fun _ z => nomatch z)
theorem self_at (I : Inv X pins σ H s) {x : Str} {v : V} {i : Nat} (hN : X.N[i]? = some x) (hs : σ[i]? = some (some v)) (hl : X.env.scope.names.lookup x = some .local) :
    ∃ m u, s.heap.Ns X.env.locals m ∧ m x = some u ∧ RelV v u := by
  obtain ⟨m, hn, r⟩ := I.loc
  obtain ⟨u, ru, hu⟩ := r i x v hN hs (.inl hl)
  refine ⟨m, u, hn, ?_, ru⟩
  rcases hu with ⟨_, h⟩ | ⟨h, _⟩
  · exact h
  · rcases h with h | h <;> (have h : X.env.scope.names.lookup x = _ := h; rw [hl] at h; cases h)
/-- the bound __init__ called: the args are laid anew -/
theorem bound_ve {a C u : Addr} {A : Around} {us : List Value} {Q : Value → Shared → Prop} (T : OexC X.K C) (I : L2.Inv X pins σ H s) (ea : H a = some (exo a C none)) (hu : s.heap.get? u = some (kxs_mw "ValueError.__init__" a)) (hl : us.length ≤ sizeLine)
    (h : ∀ s', L2.Inv X pins σ H s' → Q .none s') : wpAny (model X.prog X.w) A (call (.ref u) us) Q E s := by
  obtain ⟨nm, q, N, bs, bm, sn, sub, ab, col, dd, k0, k1, k2, k3, k5, hC, hbm⟩ := T.cls
  obtain ⟨t1, ho⟩ := exo_at I.hok ea
  have hC' := I.kIn _ _ hC
  obtain ⟨hp, g, d, t, os⟩ := s
  refine wpAny_call (codeAny_of_tree ?_)
  show wpAny _ A.in1 (callAny (.ref u) ⟨us, []⟩) _ _ _
  simp only [callAny]
  refine wpAny_bind (wpAny_load hu ?_)
  have cw : (Value.type "method-wrapper" == Value.type "method" || Value.type "method-wrapper" == Value.type "builtin_function_or_method" || Value.type "method-wrapper" == Value.type "method-wrapper") = true := by decide
  simp only [kxs_mw, cw, if_true]
  refine KFB.if_so (by decide) (wpAny_bind (check_bound_init PySem.F.excBase_ValueError.toExcCallFacts hC' ho rfl (wpAny_bind (wpAny_pure (wpAny_pure ?_)))))
  refine ⟨plainId_quiet PySem.F.excBase_ValueError.init.plain _, codeAny_builtin PySem.F.excBase_ValueError.initEntry ?_⟩
  refine exc_init_tree (cls := .ref C) (t0 := t1) (dv := none) (c2 := .none) (c3 := .none) (b4 := .bool false) ho hl fun h' k hx _ => ?_
  have J := I.write (t' := t) (x := a) (e := a) (o := exo a C none) (by rw [ea]; exact True.intro) (.inl rfl) k ⟨_, hx⟩ (exo_ok hx)
  have same : upd H a (exo a C none) = H := by
    funext b
    by_cases hb : b = a
    · subst hb; rw [upd_same, ea]
    · exact upd_ne hb
  rw [same] at J
  exact h _ J
theorem super_ve {F : NdefX.NF} {f L D C a : Addr} {p0 p1 p2 p3 pp : Pos} {e : Expr} {pl : Sem Bool} {Q : Flow → Shared → Prop} (SF : SupF X.prog X.K F f D) (SC : SupC X.K C D (.builtin "ValueError.__init__")) (T : OexC X.K C) (hv : subIn X.K (.ref C) (.type "ValueError") = some true)
    (henv : X.env = NdefX.envF F f L) (hN : X.N[0]? = some ("self" : Str)) (hs : σ[0]? = some (some (.ref a))) (I : L2.Inv X pins σ H s) (ea : H a = some (exo a C none)) (hms : X.mg "super" = none)
    (ev : ∀ s1, L2.Inv X pins σ H s1 → wpAny (model X.prog X.w) X.A (eval e X.env) (fun _ s' => ∃ t, s' = { s1 with toks := t }) E s1)
    (he : starEach [e] X.env = (false, eval e X.env) :: starEach [] X.env)
    (hcall : eval (.Call (.Attribute (.Call (.Name "super" p0) [] [] p1) "__init__" p2) [e] [] p3) X.env = (do
      let ov ← attributeBase (.Call (.Name "super" p0) [] [] p1) "__init__" X.env (eval (.Call (.Name "super" p0) [] [] p1) X.env)
      standAt p2.atName
      let (f, first) ← holding [ov] (getMethod ov "__init__" pl)
      callWith p3 f first (backTo p3 (starEach [e] X.env)) []))
    (hint : interactive X.env = false) (hsw : swapsWith (.Call (.Attribute (.Call (.Name "super" p0) [] [] p1) "__init__" p2) [e] [] p3) none pp.line X.env = pure false)
    (h : ∀ s', L2.Inv X pins σ H s' → Q .next s') :
    PySem.wpAt (model X.prog X.w) X.A (.func F.body X.env) (exec (.Expr (.Call (.Attribute (.Call (.Name "super" p0) [] [] p1) "__init__" p2) [e] [] p3) pp) X.env) Q E s := by
  obtain ⟨oc, od, doc, pm, ctv, osl, hf⟩ := SF.fn
  obtain ⟨cc, cl, cld, csl, hcl, hcell⟩ := SF.cl
  obtain ⟨ccl, cdd, vs, ccs, file, tf, hcode, hvs, hfile⟩ := SF.code
  obtain ⟨ar, hp, har⟩ := SF.par
  obtain ⟨cdD, hD⟩ := SF.clD
  obtain ⟨cdC, hC, hal⟩ := SC.cls
  have hk : X.env.scope.kind = .function := I.ok.kind
  have hks : X.env.kindOf "super" = some .globalImplicit := by rw [henv]; exact SF.ks
  have hkc : X.env.kindOf "__class__" = some .free := by rw [henv]; exact SF.kc
  have hka : X.env.kindOf ar.arg = some .local := by rw [henv, har]; exact SF.ka
  have K0 := I.kIn
  obtain ⟨oD, hD1, hD2⟩ : ∃ oD, s.heap.get? D = some oD ∧ oD.data = .cls cdD := by
    have hD' := hD
    unfold clsIn at hD'
    split at hD'
    · rename_i c d' cd' sl ho
      cases hD'
      exact ⟨_, K0 _ _ ho, rfl⟩
    · cases hD'
  obtain ⟨m, u, hm, hmu, ru⟩ := self_at I hN hs (by rw [henv]; exact SF.ka)
  have hu : u = .ref a := ru
  subst hu
  obtain ⟨t1, ha⟩ := exo_at I.hok ea
  refine ks_wpAt_Expr_any (ks_wpAt_MethodCall (pl := pl) ?_ hcall) hint hsw
  refine ks_wpAt_super_base (env := X.env) hks hkc rfl (by rw [henv]) (K0 _ _ hf) rfl hp (by rw [henv]) (K0 _ _ hcode) rfl hvs hfile SF.top ?_
  obtain ⟨mb, b1, b2⟩ := I.mod.blt
  refine ks_loadName_global hk hks (PySem.Calls.loadGlobal_builtin (by rw [I.ok.glob]; exact I.mod.glob.keeps I.bk) hms (by rw [I.ok.blt]; exact b1.keeps I.bk) ((b2 _ (by decide +kernel)).trans (show bootBuiltins "super" = some (.type "super") from by kernel_rfl)) ⟨rfl, ?_⟩)
  refine wpAny_loadName_free hk hkc (by rw [henv, NdefX.envF, hcl]; rfl) ⟨_, K0 _ _ hcell, rfl⟩ ?_
  refine wpAny_loadName_local hk hka hm (by rw [har]; exact hmu) ?_
  refine ks_wpAny_isType_cls hD1 hD2 ⟨rfl, ?_⟩
  obtain ⟨hh, g, dr, t, os⟩ := s
  refine ks_wpAny_call_super hD1 hD2 ha rfl (fun c z => nomatch z) (looks_mroIn K0 SC.mro) (fun h' eso k => ?_)
  have I1 : L2.Inv X pins σ H ⟨h', g, dr, t, os⟩ := inv_grow (t' := t) I k
  have K1 := I1.kIn
  have IA : InstAt h' a { cls := .ref C, dict := none, data := .fields #[.ref t1, .none, .none, .none, .bool false, .none] } C none := ⟨k _ _ ha, rfl, rfl, trivial⟩
  have hav : Looks (model X.prog X.w) h' (isInstance (.ref a) (.type "ValueError")) true := IA.type.andThen (looks_subIn K1 hv)
  refine kxs_getMethod kxs_ValueError eso (looks_opaque K1 SF.any) (l₀ := cdC.mro) (fun A Q E s k q => wpAny_bind ((looks_clsIn K1 hC) A _ E s k (wpAny_pure q))) rfl K1 hal hav (ks_ne K1 IA hC) rfl ?_
  have I2 : L2.Inv X pins σ H ⟨h'.push (kxs_mw "ValueError.__init__" a), g, dr, t + 1, os⟩ := inv_grow (t' := t + 1) I1 (fun b o e => Heap.get?_push_of_some _ e)
  have eu : (h'.push (kxs_mw "ValueError.__init__" a)).get? h'.objs.size = some (kxs_mw "ValueError.__init__" a) := Heap.get?_push_size _ rfl
  show wpAny _ _ (callWith p3 (.ref h'.objs.size) [] (backTo p3 (starEach [e] X.env)) []) _ _ _
  rw [he]
  refine kxs_callWith (i := "ValueError.__init__") (x := a) rfl ?_
  refine PySem.Calls.evalArgs_plain ?_
  refine PySem.Calls.spliced_cons (wpAny_mono (ev _ I2) (fun v s' hs => ?_) fun _ _ z => z)
  obtain ⟨tk, rfl⟩ := hs
  refine PySem.Calls.spliced_nil ⟨eu, ?_⟩
  have I3 : L2.Inv X pins σ H ⟨h'.push (kxs_mw "ValueError.__init__" a), g, dr, tk, os⟩ := inv_grow (t' := tk) I2 fun _ _ e => e
  exact bound_ve T I3 ea eu (by rw [sizeLine_eq]; show 1 ≤ 16777216; omega) h
/-- super().__init__(e), where it is a def of ours that keeps the code -/
theorem super_own {F : NdefX.NF} {f L D C a D2 f2 : Addr} {fd2 : FuncData} {k2 : Nat} {v : V} {spS : Sp} {p0 p1 p2 p3 pp : Pos} {e : Expr} {pl : Sem Bool} {Q : Flow → Shared → Prop} (SF : SupF X.prog X.K F f D) (SC : SupC X.K C D (.ref f2)) (T : OexC X.K C)
    (F2 : FnOk X.prog X.w X.K X.mg X.base CX0 k2 f2 fd2 ["self", "code"] spS) (B2 : Binds X.K fd2 ["self", "code"] []) (hf2 : fnIn X.K f2 = true) (ht2 : typeIn X.K (.ref f2) = some (.type "function")) (hr : Room k2 X.A)
    (henv : X.env = NdefX.envF F f L) (hN : X.N[0]? = some ("self" : Str)) (hs : σ[0]? = some (some (.ref a))) (I : L2.Inv X pins σ H s) (ea : H a = some (exo a C none)) (hms : X.mg "super" = none)
    (ev : ∀ s1, L2.Inv X pins σ H s1 → wpAny (model X.prog X.w) X.A (eval e X.env) (fun u s' => RelV v u ∧ ∃ t, s' = { s1 with toks := t }) E s1)
    (he : starEach [e] X.env = (false, eval e X.env) :: starEach [] X.env)
    (hcall : eval (.Call (.Attribute (.Call (.Name "super" p0) [] [] p1) "__init__" p2) [e] [] p3) X.env = (do
      let ov ← attributeBase (.Call (.Name "super" p0) [] [] p1) "__init__" X.env (eval (.Call (.Name "super" p0) [] [] p1) X.env)
      standAt p2.atName
      let (f, first) ← holding [ov] (getMethod ov "__init__" pl)
      callWith p3 f first (backTo p3 (starEach [e] X.env)) []))
    (hint : interactive X.env = false) (hsw : swapsWith (.Call (.Attribute (.Call (.Name "super" p0) [] [] p1) "__init__" p2) [e] [] p3) none pp.line X.env = pure false)
    (Qs : Hp → Prop) (hsp : spS [.ref a, v] H (fun v' H' => v' = .non ∧ Qs H') (fun _ _ _ => False))
    (h : ∀ H' s', L2.Inv X pins σ H' s' → Qs H' → Q .next s') :
    PySem.wpAt (model X.prog X.w) X.A (.func F.body X.env) (exec (.Expr (.Call (.Attribute (.Call (.Name "super" p0) [] [] p1) "__init__" p2) [e] [] p3) pp) X.env) Q E s := by
  obtain ⟨oc, od, doc, pm, ctv, osl, hf⟩ := SF.fn
  obtain ⟨cc, cl, cld, csl, hcl, hcell⟩ := SF.cl
  obtain ⟨ccl, cdd, vs, ccs, file, tf, hcode, hvs, hfile⟩ := SF.code
  obtain ⟨ar, hp, har⟩ := SF.par
  obtain ⟨cdD, hD⟩ := SF.clD
  obtain ⟨cdC, hC, hal⟩ := SC.cls
  have hk : X.env.scope.kind = .function := I.ok.kind
  have hks : X.env.kindOf "super" = some .globalImplicit := by rw [henv]; exact SF.ks
  have hkc : X.env.kindOf "__class__" = some .free := by rw [henv]; exact SF.kc
  have hka : X.env.kindOf ar.arg = some .local := by rw [henv, har]; exact SF.ka
  have K0 := I.kIn
  obtain ⟨oD, hD1, hD2⟩ : ∃ oD, s.heap.get? D = some oD ∧ oD.data = .cls cdD := by
    have hD' := hD
    unfold clsIn at hD'
    split at hD'
    · rename_i c d' cd' sl ho
      cases hD'
      exact ⟨_, K0 _ _ ho, rfl⟩
    · cases hD'
  obtain ⟨m, u, hm, hmu, ru⟩ := self_at I hN hs (by rw [henv]; exact SF.ka)
  have hu : u = .ref a := ru
  subst hu
  obtain ⟨t1, ha⟩ := exo_at I.hok ea
  refine ks_wpAt_Expr_any (ks_wpAt_MethodCall (pl := pl) ?_ hcall) hint hsw
  refine ks_wpAt_super_base (env := X.env) hks hkc rfl (by rw [henv]) (K0 _ _ hf) rfl hp (by rw [henv]) (K0 _ _ hcode) rfl hvs hfile SF.top ?_
  obtain ⟨mb, b1, b2⟩ := I.mod.blt
  refine ks_loadName_global hk hks (PySem.Calls.loadGlobal_builtin (by rw [I.ok.glob]; exact I.mod.glob.keeps I.bk) hms (by rw [I.ok.blt]; exact b1.keeps I.bk) ((b2 _ (by decide +kernel)).trans (show bootBuiltins "super" = some (.type "super") from by kernel_rfl)) ⟨rfl, ?_⟩)
  refine wpAny_loadName_free hk hkc (by rw [henv, NdefX.envF, hcl]; rfl) ⟨_, K0 _ _ hcell, rfl⟩ ?_
  refine wpAny_loadName_local hk hka hm (by rw [har]; exact hmu) ?_
  refine ks_wpAny_isType_cls hD1 hD2 ⟨rfl, ?_⟩
  obtain ⟨hh, g, dr, t, os⟩ := s
  refine ks_wpAny_call_super hD1 hD2 ha rfl (fun c z => nomatch z) (looks_mroIn K0 SC.mro) (fun h' eso k => ?_)
  have I1 : L2.Inv X pins σ H ⟨h', g, dr, t, os⟩ := inv_grow (t' := t) I k
  have K1 := I1.kIn
  have IA : InstAt h' a { cls := .ref C, dict := none, data := .fields #[.ref t1, .none, .none, .none, .bool false, .none] } C none := ⟨k _ _ ha, rfl, rfl, trivial⟩
  obtain ⟨of, hof, hofc⟩ : ∃ of, h'.get? f2 = some of ∧ of.cls = .type "function" := by
    have ht' : (X.K.lookup f2).map (·.cls) = some (.type "function") := ht2
    cases z : X.K.lookup f2 with
    | none => rw [z] at ht'; cases ht'
    | some of => rw [z] at ht'; exact ⟨of, K1 _ _ z, Option.some.inj ht'⟩
  refine ks_wpAny_getMethod_super eso (looks_opaque K1 SF.any) (l₀ := cdC.mro) (fun A Q E s k q => wpAny_bind ((looks_clsIn K1 hC) A _ E s k (wpAny_pure q))) rfl K1 hal hof hofc (ks_ne K1 IA hC) rfl ?_
  have I2 : L2.Inv X pins σ H ⟨h'.push (methodObj (.ref f2) (.ref a)), g, dr, t + 1, os⟩ := inv_grow (t' := t + 1) I1 (fun b o e => Heap.get?_push_of_some _ e)
  have eu : (h'.push (methodObj (.ref f2) (.ref a))).get? h'.objs.size = some (methodObj (.ref f2) (.ref a)) := Heap.get?_push_size _ rfl
  show wpAny _ _ (callWith p3 (.ref h'.objs.size) [] (backTo p3 (starEach [e] X.env)) []) _ _ _
  rw [he]
  refine callWith_of rfl (keeps_M (K := X.K) (q := h'.objs.size) (f := f2) (self := .ref a) hf2) (PySem.Calls.evalArgs_plain ?_)
  refine PySem.Calls.spliced_cons (wpAny_mono (ev _ I2) (fun u0 s' hs => ?_) fun _ _ z => z)
  obtain ⟨ru0, tk, rfl⟩ := hs
  have I3 : L2.Inv X pins σ H ⟨h'.push (methodObj (.ref f2) (.ref a)), g, dr, tk, os⟩ := inv_grow (t' := tk) I2 fun _ _ e => e
  refine PySem.Calls.spliced_nil ⟨⟨eu, I3.kIn⟩, ?_⟩
  have rv : Vals [V.ref a, v] [Value.ref a, u0] := .cons rfl (.cons ru0 .nil)
  refine wpAny_call (ks_codeAny_call_bound eu (codeAny_mono (F2.run X.A X.stack _ H ⟨[.ref a, u0], []⟩ [.ref a, u0] [.ref a, v] _ _ hr I3.env0 (B2 _ _ I3.kIn rfl) rv hsp) fun r s' hq' => ?_))
  cases r with
  | error er => exact hq'.elim
  | ok fl =>
    cases fl with
    | ret u =>
      obtain ⟨v', H', J, rv', ev', q⟩ := I3.after hq'
      exact h H' s' J q
    | next => exact False.elim hq'
    | brk => exact False.elim hq'
    | cont => exact False.elim hq'
end
/-! ### the promise of SymError's __init__: code is kept -/
/-- a class under D whose instances' code is plain -/
structure UnderD (K : Frag) (C D : Addr) : Prop where
  T : OexC K C
  S : SupC K C D (.builtin "ValueError.__init__")
  v : subIn K (.ref C) (.type "ValueError") = some true
  no : findIn K (.ref C) "code" = some none
def spSym (K : Frag) (D : Addr) : Sp := fun vs H Q _ => ∃ (a C : Addr) (v : V), vs = [.ref a, v] ∧ UnderD K C D ∧ H a = some (exo a C none) ∧
  ∀ dx, H dx = none → dx ≠ a → Q .non (upd (upd H dx (exd dx [("code", v)])) a (exo a C (some dx)))
/-- the text of such an __init__ -/
structure SymBody (b : List Stmt) where
  {p0 p1 p2 p3 p4 pp q0 q1 q2 q3 : Pos}
  {pl : Env → Sem Bool}
  eq : b = [.Expr (.Call (.Attribute (.Call (.Name "super" p0) [] [] p1) "__init__" p2) [.Name "code" p4] [] p3) pp, .Assign [.Attribute (.Name "self" q0) "code" q1] (.Name "code" q2) q3]
  call : ∀ env, eval (.Call (.Attribute (.Call (.Name "super" p0) [] [] p1) "__init__" p2) [.Name "code" p4] [] p3) env = (do
      let ov ← attributeBase (.Call (.Name "super" p0) [] [] p1) "__init__" env (eval (.Call (.Name "super" p0) [] [] p1) env)
      standAt p2.atName
      let (f, first) ← holding [ov] (getMethod ov "__init__" (pl env))
      callWith p3 f first (backTo p3 (starEach [.Name "code" p4] env)) [])
  sw : ∀ env, swapsWith (.Call (.Attribute (.Call (.Name "super" p0) [] [] p1) "__init__" p2) [.Name "code" p4] [] p3) none pp.line env = pure false
  sw2 : ∀ env, swapsWith (.Name "code" q2) (some (.Attribute (.Name "self" q0) "code" q1)) q3.line env = pure false
section
variable {CX : CXT} {P : Program} {w : World} {K : Frag} {mg : Str → Option Value} {base : Heap} {F : NdefX.NF} {f D : Addr}
theorem sym_init {doc pm ctv : Value} {oc : Value} {od : Option Addr} {osl : Array (Option Value)} (SF : SupF P K F f D) (hf : K.lookup f = some ⟨oc, od, .func (F.fd doc pm ctv), osl⟩) (hcd : codeIn K (.ref F.c) F.qual = true) (S : NdefX.NScope ["self", "code", "__class__"] ["self", "code"] ["__class__"] F.scope) (hb : SymBody F.body) (hms : mg "super" = none) :
    FnOk P w K mg base CX 1 f (F.fd doc pm ctv) ["self", "code"] (spSym K D) := by
  refine ⟨fun vs H Q E h => ?_, fun A outer s H args us vs Q E hr e0 hbd hv h => ?_⟩
  · obtain ⟨_, _, _, rfl, _⟩ := h; rfl
  · obtain ⟨a, C, v, rfl, U, ea, q⟩ := h
    have kin : K.In s.heap := e0.mod.kin.keeps fun b o e => (e0.bs b o e).1
    have lim : s.heap.NoLimit := e0.mod.nolimit.keeps fun b o e => (e0.bs b o e).1
    refine ks_codeAny_call_defAt (fd := F.fd doc pm ctv) (body := F.body) hr.depth (kin _ _ hf) rfl lim (codeRec_of kin hcd) rfl hbd S.nocell (fun x hx => ?_) (fun h₁ hns kp => ?_) S.co S.gen S.kind
    · exact S.par _ (List.of_mem_zip hx).1
    · have CA : NdefX.CellsAt F.cl ["__class__"] [none] s.heap H := by
        obtain ⟨cc, cl, cld, csl, hcl, hcell⟩ := SF.cl
        rw [hcl]
        have key : ∀ (y : Str) (c : Addr), [(("__class__" : Str), cc)].lookup y = some c → y = "__class__" ∧ c = cc := fun y c e => by
          rw [List.lookup_cons] at e
          by_cases h : y = "__class__"
          · subst h; simp at e; exact ⟨rfl, e.symm⟩
          · have : (y == ("__class__" : Str)) = false := by simpa using h
            rw [this] at e; cases e
        refine ⟨rfl, fun y c e => ?_, fun x y c e1 e2 => by rw [(key x c e1).1, (key y c e2).1], fun i y e => ?_⟩
        · obtain ⟨_, rfl⟩ := key y c e
          obtain ⟨g1, g2⟩ := e0.bs _ _ (e0.mod.kin _ _ hcell)
          exact ⟨g2, _, _, g1, rfl⟩
        · cases i with
          | zero =>
            have e : some ("__class__" : Str) = some y := e
            cases e
            exact ⟨cc, by simp, fun v hv => by simp at hv⟩
          | succ i => simp at e
      have I := NdefX.inv_startN (CX := CX) (E := E) (f := f) (tk := s.toks + ((["self", "code"] : List Str).zip us).length) S hr.hd e0 (rfl : [V.ref a, v].length = 2) hv CA hns kp
      obtain ⟨hbody, hcall, hsw, hsw2⟩ := hb
      rename_i p0 p1 p2 p3 p4 pp q0 q1 q2 q3 pl
      have ev : ∀ s1, L2.Inv (NdefX.ncx CX P w K mg base ["self", "code", "__class__"] F f A outer s H E) [] (NdefX.startF ["self", "code", "__class__"] [V.ref a, v] [none]) H s1 → wpAny (model P w) (A.deeper (NdefX.envF F f s.heap.objs.size)) (eval (.Name "code" p4) (NdefX.envF F f s.heap.objs.size)) (fun _ s' => ∃ t, s' = { s1 with toks := t })
          (NdefX.ncx CX P w K mg base ["self", "code", "__class__"] F f A outer s H E).xe s1 := fun s1 I1 => by
        obtain ⟨m, u, hm, hmu, _⟩ := self_at (i := 1) (x := "code") I1 rfl rfl (S.par _ (by simp))
        exact PySem.ESX.ldL hm hmu ⟨_, rfl⟩ S.kind (S.par _ (by simp))
      refine (show PySem.wpAt (model P w) (NdefX.ncx CX P w K mg base ["self", "code", "__class__"] F f A outer s H E).A (.func F.body (NdefX.ncx CX P w K mg base ["self", "code", "__class__"] F f A outer s H E).env) (execs F.body (NdefX.ncx CX P w K mg base ["self", "code", "__class__"] F f A outer s H E).env)
        (fun fl s' => CR CX outer P w H s Q E (.ok (.ret (match fl with | .ret v => v | _ => .none))) s') (NdefX.ncx CX P w K mg base ["self", "code", "__class__"] F f A outer s H E).xe { s with heap := h₁, toks := s.toks + ((["self", "code"] : List Str).zip us).length } from ?_)
      rw [hbody]
      have st1 := fun (Q : Flow → Shared → Prop) => super_ve (Q := Q) (p0 := p0) (p1 := p1) (p2 := p2) (p3 := p3) (pp := pp) (e := .Name "code" p4) (X := NdefX.ncx CX P w K mg base ["self", "code", "__class__"] F f A outer s H E) SF U.S U.T U.v rfl rfl rfl I ea hms ev rfl (hcall _) (by show interactive (NdefX.envF F f s.heap.objs.size) = false; unfold interactive; rw [show (NdefX.envF F f s.heap.objs.size).scope.kind = .function from S.kind]; rfl) (hsw _)
      simp only [hbody] at st1
      refine ks_wpAt_execs_cons (st1 _ fun s' I' => ?_)
      refine PySem.wpAt_of_wpAny ?_
      have vis : ∀ x, x ∈ (["self", "code"] : List Str) → Vis F.scope x := fun x hx => .inl (S.par x hx)
      have ht := pss_one (ps_ost (X := NdefX.ncx CX P w K mg base ["self", "code", "__class__"] F f A outer s H E) (f := "code") (p' := q1) (pos := q3) (pe_var (i := 0) (x := "self") (pos := q0) rfl (vis _ (by simp))) (pe_var (i := 1) (x := "code") (pos := q2) rfl (vis _ (by simp))) (hsw2 _))
      refine wpAny_mono (ht.run [] _ _ H { nx := fun _ H' => Q .non H', rt := Q } I' ?_) (fun fl s'' hs => ?_) fun e s'' hs => hs
      · refine ⟨_, rfl, _, rfl, a, C, rfl, U.T, U.no, .inl ⟨ea, fun dx hn ne => q dx hn ne⟩⟩
      · cases fl with
        | next =>
          obtain ⟨σ', H', J, hq⟩ := hs
          exact ⟨V.non, H', J.os, J.bare, J.base, J.hok, rfl, hq⟩
        | ret u =>
          obtain ⟨v', σ', H', J, rv, hq⟩ := hs
          exact ⟨v', H', J.os, J.bare, J.base, J.hok, rv, hq⟩
        | brk => obtain ⟨_, _, _, hq⟩ := hs; exact hq.elim
        | cont => obtain ⟨_, _, _, hq⟩ := hs; exact hq.elim
end
end Mi

namespace Mi
open PySem L2 PySem.W PyProof.Rows
/-! ## an __init__ that hands a code on and keeps one more field -/
inductive ArgIs (ps : List Str) (vs : List V) : Expr → V → Prop
  | name {j : Nat} {nm : Str} {p : Pos} {v : V} (h1 : ps[j]? = some nm) (h2 : vs[j]? = some v) (hd : (nm == ("__debug__" : Str)) = false) : ArgIs ps vs (.Name nm p) v
  | str {z : Str} {j : Nat} {p : Pos} : ArgIs ps vs (.Constant (.str z) j p) (.str z)
structure TwoBody (b : List Stmt) (e : Expr) (fld nm : Str) where
  {p0 p1 p2 p3 pp q0 q1 q2 q3 : Pos}
  {pl : Env → Sem Bool}
  eq : b = [.Expr (.Call (.Attribute (.Call (.Name "super" p0) [] [] p1) "__init__" p2) [e] [] p3) pp, .Assign [.Attribute (.Name "self" q0) fld q1] (.Name nm q2) q3]
  call : ∀ env, eval (.Call (.Attribute (.Call (.Name "super" p0) [] [] p1) "__init__" p2) [e] [] p3) env = (do
      let ov ← attributeBase (.Call (.Name "super" p0) [] [] p1) "__init__" env (eval (.Call (.Name "super" p0) [] [] p1) env)
      standAt p2.atName
      let (f, first) ← holding [ov] (getMethod ov "__init__" (pl env))
      callWith p3 f first (backTo p3 (starEach [e] env)) [])
  sw : ∀ env, swapsWith (.Call (.Attribute (.Call (.Name "super" p0) [] [] p1) "__init__" p2) [e] [] p3) none pp.line env = pure false
  sw2 : ∀ env, swapsWith (.Name nm q2) (some (.Attribute (.Name "self" q0) fld q1)) q3.line env = pure false
theorem startF_at {N : List Str} {vs : List V} {i : Nat} {v : V} (h : vs[i]? = some v) : (NdefX.startF N vs [none])[i]? = some (some v) := by
  unfold NdefX.startF
  have hi := (List.getElem?_eq_some_iff.mp h).1
  rw [List.getElem?_append_left (by simpa using hi), List.getElem?_map, h]; rfl
/-- its promise; mkV: the code from the arguments -/
def spTwo (K : Frag) (D1 D f2 : Addr) (ps : List Str) (fld : Str) (ar : List V → V → V → Prop) : Sp := fun vs H Q _ => vs.length = ps.length ∧ ∃ (a C : Addr) (ws : List V) (vc y : V), vs = .ref a :: ws ∧ ar vs vc y ∧ UnderD K C D ∧ SupC K C D1 (.ref f2) ∧ findIn K (.ref C) fld = some none ∧ H a = some (exo a C none) ∧
  ∀ dx, H dx = none → dx ≠ a → Q .non (upd (upd H dx (exd dx [(fld, y), ("code", vc)])) a (exo a C (some dx)))
section
variable {P : Program} {w : World} {K : Frag} {mg : Str → Option Value} {base : Heap} {F : NdefX.NF} {f D D1 f2 : Addr} {fd2 : FuncData}
theorem two_init {k : Nat} {ps rest : List Str} {fld nm : Str} {i : Nat} {e : Expr} {ar : List V → V → V → Prop} {doc pm ctv : Value} {oc : Value} {od : Option Addr} {osl : Array (Option Value)} (SF : SupF P K F f D1) (hf : K.lookup f = some ⟨oc, od, .func (F.fd doc pm ctv), osl⟩) (hcd : codeIn K (.ref F.c) F.qual = true)
    (hps : ps = ("self" : Str) :: rest) (S : NdefX.NScope (ps ++ [("__class__" : Str)]) ps [("__class__" : Str)] F.scope) (hb : TwoBody F.body e fld nm) (hms : mg "super" = none) (hi : ps[i]? = some nm) (hnd : (nm == ("__debug__" : Str)) = false) (hnc : (nm == ("__classdict__" : Str)) = false)
    (hse : ∀ env, starEach [e] env = (false, eval e env) :: starEach [] env)
    (har : ∀ vs vc y, ar vs vc y → ArgIs ps vs e vc ∧ vs[i]? = some y)
    (F2 : FnOk P w K mg base CX0 k f2 fd2 ["self", "code"] (spSym K D)) (B2 : Binds K fd2 ["self", "code"] []) (hf2 : fnIn K f2 = true) (ht2 : typeIn K (.ref f2) = some (.type "function")) :
    FnOk P w K mg base CX0 (k + 1) f (F.fd doc pm ctv) ps (spTwo K D1 D f2 ps fld ar) := by
  refine ⟨fun vs H Q E h => h.1, fun A outer s H args us vs Q E hr e0 hbd hv h => ?_⟩
  obtain ⟨hl, a, C, ws, vc, y, hvs, hay, U, SC, hno, ea, q⟩ := h
  obtain ⟨hae, hy⟩ := har _ _ _ hay
  have kin : K.In s.heap := e0.mod.kin.keeps fun b o e => (e0.bs b o e).1
  have lim : s.heap.NoLimit := e0.mod.nolimit.keeps fun b o e => (e0.bs b o e).1
  refine ks_codeAny_call_defAt (fd := F.fd doc pm ctv) (body := F.body) hr.depth (kin _ _ hf) rfl lim (codeRec_of kin hcd) rfl hbd S.nocell (fun x hx => S.par _ (List.of_mem_zip hx).1) (fun h₁ hns kp => ?_) S.co S.gen S.kind
  have CA : NdefX.CellsAt F.cl [("__class__" : Str)] [none] s.heap H := by
    obtain ⟨cc, cl, cld, csl, hcl, hcell⟩ := SF.cl
    rw [hcl]
    have key : ∀ (y : Str) (c : Addr), [(("__class__" : Str), cc)].lookup y = some c → y = "__class__" ∧ c = cc := fun y c e => by
      rw [List.lookup_cons] at e
      by_cases h : y = "__class__"
      · subst h; simp at e; exact ⟨rfl, e.symm⟩
      · have : (y == ("__class__" : Str)) = false := by simpa using h
        rw [this] at e; cases e
    refine ⟨rfl, fun y c e => ?_, fun x y c e1 e2 => by rw [(key x c e1).1, (key y c e2).1], fun i y e => ?_⟩
    · obtain ⟨_, rfl⟩ := key y c e
      obtain ⟨g1, g2⟩ := e0.bs _ _ (e0.mod.kin _ _ hcell)
      exact ⟨g2, _, _, g1, rfl⟩
    · cases i with
      | zero =>
        have e : some ("__class__" : Str) = some y := e
        cases e
        exact ⟨cc, by simp, fun v hv => by simp at hv⟩
      | succ i => simp at e
  have I := NdefX.inv_startN (CX := CX0) (E := E) (f := f) (tk := s.toks + (ps.zip us).length) S hr.hd e0 hl hv CA hns kp
  generalize hX : NdefX.ncx CX0 P w K mg base (ps ++ [("__class__" : Str)]) F f A outer s H E = X at I
  obtain ⟨hbody, hcall, hsw, hsw2⟩ := hb
  rename_i p0 p1 p2 p3 pp q0 q1 q2 q3 pl
  have hNat : ∀ (j : Nat) (x : Str), ps[j]? = some x → X.N[j]? = some x := fun j x hj => by
    rw [← hX]
    show (ps ++ [("__class__" : Str)])[j]? = some x
    rw [List.getElem?_append_left (List.getElem?_eq_some_iff.mp hj).1]; exact hj
  have hvis : ∀ x ∈ ps, X.env.scope.names.lookup x = some .local := fun x hx => by rw [← hX]; exact S.par x hx
  have hkind : X.env.scope.kind = .function := by rw [← hX]; exact S.kind
  have ev : ∀ s1, L2.Inv X [] (NdefX.startF (ps ++ [("__class__" : Str)]) vs [none]) H s1 → wpAny (model X.prog X.w) X.A (eval e X.env) (fun u s' => RelV vc u ∧ ∃ t, s' = { s1 with toks := t }) X.xe s1 := fun s1 I1 => by
    cases hae with
    | name h1 h2 hd =>
      obtain ⟨m, u, hm, hmu, ru⟩ := self_at I1 (hNat _ _ h1) (startF_at h2) (hvis _ (List.mem_of_getElem? h1))
      exact wpAny_Name (wpAny_loadName_local hkind (hvis _ (List.mem_of_getElem? h1)) hm hmu ⟨ru, _, rfl⟩) hd
    | str => exact PySem.Calls.Constant_str ⟨⟨_, rfl⟩, _, rfl⟩
  suffices hh : PySem.wpAt (model X.prog X.w) X.A (.func F.body X.env) (execs F.body X.env) (fun fl s' => CR CX0 outer P w H s Q E (.ok (.ret (match fl with | .ret v => v | _ => .none))) s') X.xe { s with heap := h₁, toks := s.toks + (ps.zip us).length } by subst hX; exact hh
  rw [hbody]
  have hself : ps[0]? = some ("self" : Str) := by rw [hps]; rfl
  have hv0 : vs[0]? = some (.ref a) := by rw [hvs]; rfl
  have st1 := fun (Q' : Flow → Shared → Prop) (Qs : Hp → Prop) => super_own (Q := Q') (p0 := p0) (p1 := p1) (p2 := p2) (p3 := p3) (pp := pp) (e := e) (X := X) (F := F) (f := f) (L := s.heap.objs.size) (D := D1) (C := C) (a := a) (D2 := D) (v := vc) (Qs := Qs) (by rw [← hX]; exact SF) (by rw [← hX]; exact SC) (by rw [← hX]; exact U.T)
    (by rw [← hX]; exact F2) (by rw [← hX]; exact B2) (by rw [← hX]; exact hf2) (by rw [← hX]; exact ht2) (by rw [← hX]; exact hr.deeper _) (by rw [← hX]; rfl) (hNat _ _ hself) (startF_at hv0) I ea (by rw [← hX]; exact hms) ev (hse _) (hcall _) (by unfold interactive; rw [hkind]; rfl) (hsw _)
  simp only [hbody] at st1
  refine ks_wpAt_execs_cons (st1 _ (fun H' => ∃ dx, H dx = none ∧ dx ≠ a ∧ H' = upd (upd H dx (exd dx [("code", vc)])) a (exo a C (some dx))) ⟨a, C, vc, rfl, U, ea, fun dx h1 h2 => ⟨rfl, dx, h1, h2, rfl⟩⟩ fun H' s' I' hQ => ?_)
  obtain ⟨dx, hn, ne, rfl⟩ := hQ
  refine PySem.wpAt_of_wpAny ?_
  have ht := pss_one (ps_ost (X := X) (f := fld) (p' := q1) (pos := q3) (pe_var (i := 0) (x := "self") (pos := q0) (hNat _ _ hself) (.inl (hvis _ (List.mem_of_getElem? hself)))) (pe_var (i := i) (x := nm) (pos := q2) (hNat _ _ hi) (.inl (hvis _ (List.mem_of_getElem? hi))) hnd hnc) (hsw2 _))
  refine wpAny_mono (ht.run [] _ _ _ { nx := fun _ H' => Q .non H', rt := Q } I' ?_) (fun fl s'' hs => ?_) fun e s'' hs => hs
  · refine ⟨y, startF_at hy, _, startF_at hv0, a, C, rfl, by rw [← hX]; exact U.T, by rw [← hX]; exact hno, .inr ⟨dx, [("code", vc)], by rw [upd_same], by rw [upd_ne ne, upd_same], by simp, ?_⟩⟩
    have e : upd (upd (upd H dx (exd dx [("code", vc)])) a (exo a C (some dx))) dx (exd dx [(fld, y), ("code", vc)]) = upd (upd H dx (exd dx [(fld, y), ("code", vc)])) a (exo a C (some dx)) := by
      funext b
      by_cases h1 : b = dx
      · subst h1; rw [upd_same, upd_ne ne, upd_same]
      · rw [upd_ne h1]
        by_cases h2 : b = a
        · subst h2; rw [upd_same, upd_same]
        · rw [upd_ne h2, upd_ne h2, upd_ne h1, upd_ne h1]
    show Q .non _
    rw [e]; exact q dx hn ne
  · subst hX
    cases fl with
    | next =>
      obtain ⟨σ', H', J, hq⟩ := hs
      exact ⟨V.non, H', J.os, J.bare, J.base, J.hok, rfl, hq⟩
    | ret u =>
      obtain ⟨v', σ', H', J, rv, hq⟩ := hs
      exact ⟨v', H', J.os, J.bare, J.base, J.hok, rv, hq⟩
    | brk => obtain ⟨_, _, _, hq⟩ := hs; exact hq.elim
    | cont => obtain ⟨_, _, _, hq⟩ := hs; exact hq.elim
end
end Mi

namespace Mi
open PySem L2
/-! ## raise -/
def mkFv (vs : List V) : List (Str × XA) → Option (List (Str × V))
  | [] => some []
  | (f, .ar i) :: r => match vs[i]?, mkFv vs r with
    | some v, some l => some ((f, v) :: l)
    | _, _ => none
  | (f, .st z) :: r => (mkFv vs r).map ((f, .str z) :: ·)
theorem mkFv_ok {K : PySem.W.Frag} {ι : List Addr} {H : Hp} {xs : List D} {vs : List V} (r : RpL K ι H xs vs) : ∀ {fl : List (Str × XA)} {fs : List (Str × D)}, mkFs xs fl = some fs → ∃ fvs, mkFv vs fl = some fvs ∧ FldR K ι H fs fvs
  | [], _, e => by cases e; exact ⟨_, rfl, .nil⟩
  | (f, .ar i) :: l, fs, e => by
    simp only [mkFs] at e
    cases hi : xs[i]? with
    | none => rw [hi] at e; cases e
    | some d =>
      cases hl : mkFs xs l with
      | none => rw [hi, hl] at e; cases e
      | some gs =>
        rw [hi, hl] at e
        cases e
        obtain ⟨v, hv, rv⟩ := r.get hi
        obtain ⟨fvs, e2, r2⟩ := mkFv_ok r hl
        exact ⟨(f, v) :: fvs, by simp only [mkFv, hv, e2], .cons rv r2⟩
  | (f, .st z) :: l, fs, e => by
    simp only [mkFs] at e
    obtain ⟨gs, hl, rfl⟩ := Option.map_eq_some_iff.mp e
    obtain ⟨fvs, e2, r2⟩ := mkFv_ok r hl
    exact ⟨(f, .str z) :: fvs, by simp only [mkFv, e2]; rfl, .cons (.str z) r2⟩
/-- an __init__ with one argument that keeps fl -/
def InitP (C : Addr) (fl : List (Str × XA)) (sp : Sp) : Prop := ∀ (v : V) (H : Hp) (a : Addr) (Q : VK) (E : XK), H a = none →
  (∀ dx fvs, H dx = none → dx ≠ a → mkFv [v] fl = some fvs → Q .non (upd (upd (upd H a (exo a C none)) dx (exd dx fvs)) a (exo a C (some dx)))) → sp [.ref a, v] (upd H a (exo a C none)) Q E
structure InitOk (P : Program) (w : World) (K : PySem.W.Frag) (mg : Str → Option Value) (base : Heap) (c : Str) (fl : List (Str × XA)) : Prop where
  ex : ∃ (C fI : Addr) (k : Nat) (fd : FuncData) (ps : List Str) (sp : Sp), k ≤ 3 ∧ mg c = some (.ref C) ∧ OexC K C ∧ PySem.W.findIn K (.ref C) "__init__" = some (some (.ref fI)) ∧ PySem.W.typeIn K (.ref fI) = some (.type "function") ∧
    FnOk P w K mg base CX0 k fI fd ps sp ∧ Binds K fd ps [] ∧ InitP C fl sp
theorem FldR.ext {K : PySem.W.Frag} {ι ι1 : List Addr} {H H1 : Hp} (e : Ext ι H ι1 H1) (m : MutI ι H) : ∀ {fs : List (Str × D)} {fvs : List (Str × V)}, FldR K ι H fs fvs → FldR K ι1 H1 fs fvs
  | _, _, .nil => .nil
  | _, _, .cons h t => .cons (h.ext e m) (t.ext e m)
theorem FldR.lk {K : PySem.W.Frag} {ι : List Addr} {H : Hp} {f : Str} {d : D} : ∀ {fs : List (Str × D)} {fvs : List (Str × V)}, FldR K ι H fs fvs → lkX fs f = some d → ∃ v, fvs.lookup f = some v ∧ Rp K ι H d v
  | _, _, .nil, e => by cases e
  | _, _, .cons (f := g) (v := v) h t, e => by
    rw [lkX] at e
    by_cases c : g = f
    · rw [if_pos c] at e; cases e
      exact ⟨v, by rw [c, List.lookup_cons_self], h⟩
    · rw [if_neg c] at e
      obtain ⟨w, e1, r1⟩ := t.lk e
      refine ⟨w, ?_, r1⟩
      rw [List.lookup_cons, show (f == g) = false from by simpa using Ne.symm c]
      exact e1
section
variable {X : Cx} {Z : XI} {cl : Cl} {ce : CE} {e : Expr} {c : Str} {fl : List (Str × XA)} {p pos pos' : Pos}
theorem s_raise (R : InitOk X.prog X.w X.K X.mg X.base c fl) (hr : Room 4 X.A) (tk : Takes X Z.W) (zm : Z.mg = X.mg) (hc : X.calm = true) (hg : Gl X c) (he : PE X e (tE Z X.K cl ce)) (hdb : (c == ("__debug__" : Str)) = false) (hs : starEach [e] X.env = (false, eval e X.env) :: starEach [] X.env) :
    PS X (.Raise (some (.Call (.Name c p) [e] [] pos)) none pos') (tS Z X.K cl (.raise_ c fl ce)) := by
  obtain ⟨C, fI, k, fd, ps, sp, hk, hm, T, iC, tI, F, hb, P⟩ := R.ex
  refine ps_imp (ps_raise hc tk (pmk_oex (ds := []) (dvs := []) T iC tI F (hr.mono (by omega)) hb .nil pass0 hg hm (pa_cons he pa_nil hs) hdb hs rfl)) ?_
  rintro E σ H ⟨ι, δ, h, re, q⟩
  simp only [execS] at q
  refine F_E re q fun x h1 ι1 v H1 e1 r1 rx q => ?_
  cases em : mkFs [x] fl with
  | none => rw [em] at q; exact q.elim
  | some fs =>
    rw [em] at q
    obtain ⟨fvs, ev, fr⟩ := mkFv_ok (.cons rx .nil : RpL X.K ι1 H1 [x] [v]) em
    refine ⟨by simp, fun a na => P v H1 a _ _ na fun dx fvs' hd ne e' => ?_⟩
    rw [ev] at e'; cases e'
    refine ⟨rfl, dx, fvs, upd_same, by rw [upd_ne ne, upd_same], hd, ?_⟩
    have eH : upd (del (upd (upd (upd H1 a (exo a C none)) dx (exd dx fvs)) a (exo a C (some dx))) a) dx (.xd fvs) = upd H1 dx (.xd fvs) := by
      funext b
      by_cases h1 : b = dx
      · subst h1; rw [upd_same, upd_same]
      · rw [upd_ne h1, upd_ne h1]
        by_cases h2 : b = a
        · subst h2; rw [del_same, na]
        · rw [del_ne h2, upd_ne h2, upd_ne h1, upd_ne h2]
    rw [eH]
    have ex : Ext ι1 H1 ι1 (upd H1 dx (.xd fvs)) := Ext.same (same_new hd)
    have rr := r1.rel.same (same_new hd (o := .xd fvs))
    exact q ι1 σ _ ex (r1.ext ex rr) (.ref C) dx fvs (by rw [zm]; exact hm) upd_same (fr.ext ex r1.rel.mut)
end
end Mi

namespace Mi
open PySem L2 PySem.W PyProof.Rows PySem.Calls
/-! ## isinstance of a caught error that has a dict -/
section
variable {prog : Program} {w : World} {A : Around} {E : Value → Shared → Prop} {s : Shared} {K : Frag} {x D : Addr} {ox : Obj} {od : Option Obj}
theorem fo_cls {C : Addr} {nm : Str} {a g : Value} {cd : ClassData} (hc : clsIn K C = some cd) (ha : findIn K (.ref C) nm = some (some a)) (hg : specialIn K a "__get__" = some (some g)) (ht : takesIn K a = some true) : findObj K C od nm = some (.bind g a) := by
  simp [findObj, hc, ha, hg, ht]
theorem cls_of {Q : Option Value → Shared → Prop} (T : ExcC K D) (X : K.In s.heap) (I : InstAt s.heap x ox D od) (h : Q (some (.ref D)) { s with toks := s.toks + 1 }) : wpAny (model prog w) A (getAttr? (.ref x) "__class__") Q E s := by
  obtain ⟨cdD, hcD, _⟩ := any_some T.hd
  have fo : findObj K D od "__class__" = some (.bind (.builtin "getset_descriptor.__get__") (.builtin "object.__class__")) := fo_cls hcD T.ha T.hn T.ht
  obtain ⟨hh, gg, dd, tt, oo⟩ := s
  have ty := I.type (M := model prog w)
  have lg := looks_findIn (M := model prog w) X T.hg
  have lk := looks_findIn (M := model prog w) X T.hk
  have lf := looks_find (M := model prog w) X I fo
  have ie : Looks (model prog w) hh (isInstance (.ref x) (.type "BaseException")) true := ty.andThen (looks_subIn X T.hs)
  have b0 : (false && onTheHeap (Value.builtin "BaseException.__getattribute__")) = false := rfl
  have b1 : (onTheHeap (Value.ref D) && Value.builtin "BaseException.__getattribute__" == Value.builtin "object.__getattribute__") = false := by
    rw [show (Value.builtin "BaseException.__getattribute__" == Value.builtin "object.__getattribute__") = false from by decide +kernel]; rfl
  unfold getAttr? getAttrBy? getAttrBy; refine wpAny_bind (wpAny_mkText ?_)
  refine wpAny_bind (wpAny_attempt (wpAny_holding ?_)); refine wpAny_bind (ty.at ?_); refine wpAny_bind (lg.at ?_)
  show wpAny _ _ (ite ((onTheHeap (Value.ref D) && Value.builtin "BaseException.__getattribute__" == Value.builtin "object.__getattribute__") = true) _ _) _ _ _
  rw [b1, if_neg Bool.false_ne_true]; unfold getAttrByItsOwn hookBefore; refine wpAny_bind ?_
  have b2 : onTheHeap (Value.ref D) = true := rfl
  rw [if_pos b2]; refine lk.at ?_
  refine wpAny_bind (wpAny_attempt (wpAny_holding ?_)); unfold callGetattribute
  rw [b0, if_neg Bool.false_ne_true]; unfold boundAndCalled
  rw [PySem.F.excAttr_ValueError.ga.bind (.ref x)]; refine wpAny_bind (wpAny_pure ?_)
  show wpAny _ _ (call (.builtin "BaseException.__getattribute__") [.ref x, .str "__class__" tt]) _ _ _
  refine wpAny_call (codeAny_call_builtin PySem.F.excAttr_ValueError.ga.plain PySem.F.entry_bexc_ga ?_)
  have ar := PySem.F.args_bexc_ga (.ref x) (.str "__class__" tt)
  refine (@check_slot (model prog w) _ _ ⟨hh, gg, dd, tt + 1, oo⟩ "BaseException.__getattribute__" "BaseException" "__getattribute__" (.ref x) [.str "__class__" tt] [] _ (by decide +kernel) (by decide +kernel) ie ar ?_)
  unfold Builtin.«object.__getattribute__»; refine wpAny_bind ?_
  refine wpAny_of_eq (a := ((Value.ref x : Value), [Value.str "__class__" tt])) (by first | rfl | (simp only [slotArgs]; rfl)) ?_
  refine wpAny_bind (wpAny_pure (wpAny_bind (ty.at (wpAny_bind (lf.at ?_)))))
  show wpAny _ _ (holding [Value.builtin "object.__class__"] (call (.builtin "getset_descriptor.__get__") [.builtin "object.__class__", .ref x, .ref D]) >>= ret) _ _ _
  refine wpAny_bind (wpAny_holding (wpAny_call (class_get (s := ⟨hh, gg, dd, tt + 1, oo⟩) X I T.hm ?_))); refine wpAny_pure ?_
  show wpAny _ _ (handedOut (.ref D)) _ _ _
  rw [handedOut_of (v := .ref D) rfl]
  first
    | exact wpAny_pure (wpAny_pure h)
    | exact wpAny_pure h
theorem kx_cls (T : ExcC K D) : KitX K (.ref x) (.ref D) (fun h => ∃ od, InstAt h x ox D od) where
  ty := fun _ _ _ ⟨_, I⟩ => I.type
  it := fun _ _ X _ => by
    obtain ⟨cdD, hcD, _⟩ := any_some T.hd
    unfold clsIn at hcD
    split at hcD
    · rename_i ho
      intro A' Q' E' s' k q
      unfold isType loadHead; exact wpAny_bind (wpAny_loadPart (k _ _ (X _ _ ho)) (wpAny_pure q))
    · cases hcD
  ne := fun h tp dd its n sl X htp => by
    obtain ⟨cdD, hcD, _⟩ := any_some T.hd
    unfold clsIn at hcD
    split at hcD
    · rename_i ho
      have hx := X _ _ ho
      by_cases c : D = tp
      · subst c; rw [hx] at htp; cases htp
      · simpa using c
    · cases hcD
  ca := fun X ⟨_, I⟩ k => cls_of T X I k
end
/-- isinstance(e, c), e the error that the suite holds -/
theorem isE_call {X : Cx} {a D : Addr} {oe : Obj} {d : Option Addr} {pn : List (Addr × Obj)} (C : ExcC X.K D) (hz : Zc (.ref D) d oe) (hf : ∃ vs, oe.data = .fields vs) :
    CallR (X.suite a ((a, oe) :: pn)) (.builtin "isinstance") fun xs H Q => rIsE X.K D a xs H Q ∧ ∀ dd, d = some dd → ∃ fs, H dd = some (.xd fs) := by
  intro pins s σ H xs us Q I r ⟨h, hd⟩
  obtain ⟨c, cv, b, rfl, hcv, e, q⟩ := h
  cases r with
  | cons rx rr =>
    cases rr with
    | cons rt rr =>
      cases rr
      cases rx
      have ec := hcv _ rt
      subst ec
      obtain ⟨hget, _⟩ := I.pin (a, oe) (List.mem_append.mpr (.inl List.mem_cons_self))
      obtain ⟨vs, hv⟩ := hf
      have J : ∃ od, InstAt s.heap a oe D od := by
        have nc : notCls oe = true := by unfold notCls; rw [hv] <;> rfl
        cases d with
        | none => exact ⟨none, hget, hz.1, nc, by rw [hz.2]; trivial⟩
        | some dd =>
          obtain ⟨fs, ef⟩ := hd dd rfl
          obtain ⟨mA, hns, _⟩ := (I.hok dd _ ef : ObjOk _ _ _ _ _ (.xd fs))
          obtain ⟨o2, ho2, _⟩ := lookIn_ns hns
          exact ⟨some o2, hget, hz.1, nc, by rw [hz.2]; exact ho2⟩
      exact kia_one (kx_cls C) I.kIn J e (fun z => nomatch z) fun tk => ⟨.bl b, H, I.kept (t' := tk) fun _ _ z => z, rfl, q⟩
end Mi

namespace Mi
open PySem L2
/-! ## except suites -/
def okFld (f : Str) : Bool := eqS f "code" || eqS f "most"
structure Known (K : PySem.W.Frag) (mg : Str → Option Value) (c : Str) (C : Addr) : Prop where
  mg : mg c = some (.ref C)
  xf : XfC K C
  ec : ExcC K C
  code : PySem.W.findIn K (.ref C) "code" = some none
  most : PySem.W.findIn K (.ref C) "most" = some none
theorem Known.fld {K : PySem.W.Frag} {mg : Str → Option Value} {c : Str} {C : Addr} (k : Known K mg c C) {f : Str} (h : okFld f = true) : PySem.W.findIn K (.ref C) f = some none := by
  unfold okFld at h
  rw [Bool.or_eq_true] at h
  rcases h with h | h <;> cases eqS_eq h
  · exact k.code
  · exact k.most
/-- what the text says of the class y: which of the classes are under it -/
def ClsTab (K : PySem.W.Frag) (mg : Str → Option Value) (y : Str) (tab : List (Str × Bool)) : Prop := ∃ CY, mg y = some (.ref CY) ∧ ∀ c b, lkX tab c = some b → ∃ C, Known K mg c C ∧ PySem.W.kitOne K (.ref C) (.ref CY) = some b ∧ PySem.W.exmOne K (.ref C) (.ref CY) = some b
/-- the suite holds an error of the class c with the fields fs at slot i -/
structure Hd (K : PySem.W.Frag) (mg : Str → Option Value) (a : Addr) (cls : Value) (d : Option Addr) (i : Nat) (σ : St) (ι : List Addr) (h : HS) (H : Hp) (c : Str) (fs : List (Str × D)) : Prop where
  rel : RelH K ι h H
  slot : σ[i]? = some (some (.ref a))
  obj : ∃ dd fvs C, d = some dd ∧ H dd = some (.xd fvs) ∧ FldR K ι H fs fvs ∧ cls = .ref C ∧ Known K mg c C
section
variable {K : PySem.W.Frag} {mg : Str → Option Value} {a : Addr} {cls : Value} {d : Option Addr} {i : Nat} {σ : St} {ι ι1 : List Addr} {h h1 : HS} {H H1 : Hp} {c : Str} {fs : List (Str × D)}
theorem Hd.ext (x : Hd K mg a cls d i σ ι h H c fs) (e : Ext ι H ι1 H1) (r : RelH K ι1 h1 H1) : Hd K mg a cls d i σ ι1 h1 H1 c fs := by
  obtain ⟨dd, fvs, C, rfl, ed, fr, rfl, k⟩ := x.obj
  refine ⟨r, x.slot, dd, fvs, C, rfl, e.fr dd _ ed fun hm => ?_, fr.ext e x.rel.mut, rfl, k⟩
  obtain ⟨o, eo, z⟩ := x.rel.mut dd hm
  rw [ed] at eo; cases eo; cases z
def tX (K : PySem.W.Frag) (mg : Str → Option Value) (a : Addr) (cls : Value) (d : Option Addr) (i : Nat) (e : XE) : TE := fun σ H Q => ∃ ι h c fs x, Hd K mg a cls d i σ ι h H c fs ∧ evX c fs e = some x ∧
  ∀ ι1 v H1, Ext ι H ι1 H1 → RelH K ι1 h H1 → Rp K ι1 H1 x v → Q v H1
def tXB (K : PySem.W.Frag) (mg : Str → Option Value) (a : Addr) (cls : Value) (d : Option Addr) (i : Nat) (e : XE) : TT := fun σ H Q => ∃ ι h c fs b, Hd K mg a cls d i σ ι h H c fs ∧ evX c fs e = some (.bl b) ∧ Q b H
def tXs (K : PySem.W.Frag) (Z : XI) (a : Addr) (cls : Value) (d : Option Addr) (i : Nat) (s : XS) : TS := fun E σ H => ∃ ι δ h c fs, Hd K Z.mg a cls d i σ ι h H c fs ∧ RelE K ι δ h σ H ∧ PostF Z K ι H (execX c fs s δ h) E
end
section
variable {X : Cx} {a : Addr} {oe : Obj} {cls : Value} {d : Option Addr} {pn : List (Addr × Obj)} {i : Nat} {n : Str} {p pos pos' apos : Pos}
theorem x_lit {D0 : D} {v : V} {e : Expr} (h : PE (X.suite a ((a, oe) :: pn)) e (tC v)) (rp : ∀ ι H, Rp X.K ι H D0 v) : PE (X.suite a ((a, oe) :: pn)) e (tX X.K X.mg a cls d i (.lit D0)) := by
  refine pe_imp h ?_
  rintro σ H Q ⟨ι, h, c, fs, x, hd, ev, k⟩
  cases ev
  exact k ι v H Ext.refl hd.rel (rp _ _)
theorem x_fld {f : Str} (hN : X.N[i]? = some n) (hv : Vis X.env.scope n) (n1 : (n == ("__debug__" : Str)) = false) (n2 : (n == ("__classdict__" : Str)) = false) (ok : okFld f = true) (hz : Zc cls d oe) (hf : ∃ vs, oe.data = .fields vs) :
    PE (X.suite a ((a, oe) :: pn)) (.Attribute (.Name n p) f pos) (tX X.K X.mg a cls d i (.fld f)) := by
  refine ⟨fun pins s σ H Q I h => ?_⟩
  obtain ⟨ι, h, c, fs, x, hd, ev, k⟩ := h
  obtain ⟨dd, fvs, C, rfl, ed, fr, rfl, kn⟩ := hd.obj
  obtain ⟨v, lv, rv⟩ := fr.lk (show lkX fs f = some x from ev)
  exact (pe_xf (X := X) kn.xf (kn.fld ok) hz hf (pe_var (X := X.suite a ((a, oe) :: pn)) hN hv n1 n2)).run pins s σ H Q I ⟨.ref a, hd.slot, rfl, rfl, dd, fvs, v, rfl, ed, lv, k ι v H Ext.refl hd.rel rv⟩
theorem x_isi {y : Str} {tab : List (Str × Bool)} {p2 p3 : Pos} (T : ClsTab X.K X.mg y tab) (hg0 : Gl X "isinstance") (hm0 : X.mg "isinstance" = none) (hN : X.N[i]? = some n) (hv : Vis X.env.scope n) (n1 : (n == ("__debug__" : Str)) = false) (n2 : (n == ("__classdict__" : Str)) = false) (hg : Gl X y) (hdb : (y == ("__debug__" : Str)) = false)
    (hz : Zc cls d oe) (hf : ∃ vs, oe.data = .fields vs) : PT (X.suite a ((a, oe) :: pn)) (.Call (.Name "isinstance" p) [.Name n p2, .Name y p3] [] pos) (tXB X.K X.mg a cls d i (.isi tab)) := by
  refine ⟨fun pins s σ H Q I h => ?_⟩
  obtain ⟨ι, h, c, fs, b, hd, ev, k⟩ := h
  obtain ⟨dd, fvs, C, rfl, ed, fr, rfl, kn⟩ := hd.obj
  obtain ⟨CY, hm, ht⟩ := T
  have hb : lkX tab c = some b := by
    have ev : (lkX tab c).map D.bl = some (.bl b) := ev
    obtain ⟨b', e1, e2⟩ := Option.map_eq_some_iff.mp ev
    cases e2; exact e1
  obtain ⟨C', kn', hk, _⟩ := ht c b hb
  have hCC : C' = C := by have := kn'.mg.symm.trans kn.mg; cases this; rfl
  subst hCC
  have hpe := pe_callB (X := X.suite a ((a, oe) :: pn)) (p := p) (pos := pos) (isE_call kn.ec hz hf) hg0 hm0 (by decide +kernel) (pa_cons (pe_var (X := X.suite a ((a, oe) :: pn)) (pos := p2) hN hv n1 n2) (pa_cons (pe_glob (X := X.suite a ((a, oe) :: pn)) (v := .ref CY) (pos := p3) hg hm rfl hdb) pa_nil rfl) rfl) (by decide) (by decide) rfl rfl
  refine PyProof.Rows.isTrue_plain (thn (hpe.run pins s σ H (fun v H1 => v = .bl b ∧ H1 = H) I ?_) fun v s1 ⟨x, H1, I1, r1, e1, e2⟩ => ?_) (plainT rfl _)
  · exact ⟨.ref a, hd.slot, ⟨.ref CY, .ref CY, b, rfl, fun u r => r, hk, rfl, rfl⟩, fun dd' e => by cases e; exact ⟨fvs, ed⟩⟩
  · subst e1 e2
    exact t_tru (X := X.suite a ((a, oe) :: pn)) pins s1 σ H1 _ v Q I1 r1 ⟨ι, h, .bl b, b, hd.rel, .bl b, rfl, k⟩
theorem x_not {e : Expr} {x : XE} (he : PT (X.suite a ((a, oe) :: pn)) e (tXB X.K X.mg a cls d i x)) : PT (X.suite a ((a, oe) :: pn)) (.UnaryOp .Not e pos) (tXB X.K X.mg a cls d i (.not_ x)) := by
  refine pt_imp (pt_not he) ?_
  rintro σ H Q ⟨ι, h, c, fs, b, hd, ev, k⟩
  simp only [evX] at ev
  cases e1 : evX c fs x with
  | none => rw [e1] at ev; cases ev
  | some y =>
    rw [e1] at ev
    cases y <;> first | (cases ev; done) | skip
    rename_i b'
    cases ev
    exact ⟨ι, h, c, fs, b', hd, e1, k⟩
theorem x_and1 {e : Expr} {x : XE} (he : PT (X.suite a ((a, oe) :: pn)) e (tXB X.K X.mg a cls d i x)) : PW (X.suite a ((a, oe) :: pn)) (.BoolOp .And [e] pos) (tXB X.K X.mg a cls d i x) := pw_and1 he
theorem x_or1 {e : Expr} {x : XE} (he : PT (X.suite a ((a, oe) :: pn)) e (tXB X.K X.mg a cls d i x)) : PW (X.suite a ((a, oe) :: pn)) (.BoolOp .Or [e] pos) (tXB X.K X.mg a cls d i x) := pw_or1 he
theorem x_and {e e2 : Expr} {r : List Expr} {x y : XE} (he : PT (X.suite a ((a, oe) :: pn)) e (tXB X.K X.mg a cls d i x)) (hr : PW (X.suite a ((a, oe) :: pn)) (.BoolOp .And (e2 :: r) pos) (tXB X.K X.mg a cls d i y)) : PW (X.suite a ((a, oe) :: pn)) (.BoolOp .And (e :: e2 :: r) pos) (tXB X.K X.mg a cls d i (.and_ x y)) := by
  refine pw_imp (pw_and he hr) ?_
  rintro σ H Q ⟨ι, h, c, fs, b, hd, ev, k⟩
  simp only [evX] at ev
  cases e1 : evX c fs x with
  | none => rw [e1] at ev; cases ev
  | some z =>
    rw [e1] at ev
    cases z <;> first | (cases ev; done) | skip
    rename_i b'
    cases b' with
    | true => exact ⟨ι, h, c, fs, true, hd, e1, ι, h, c, fs, b, hd, ev, k⟩
    | false => cases ev; exact ⟨ι, h, c, fs, false, hd, e1, k⟩
theorem x_or {e e2 : Expr} {r : List Expr} {x y : XE} (he : PT (X.suite a ((a, oe) :: pn)) e (tXB X.K X.mg a cls d i x)) (hr : PW (X.suite a ((a, oe) :: pn)) (.BoolOp .Or (e2 :: r) pos) (tXB X.K X.mg a cls d i y)) : PW (X.suite a ((a, oe) :: pn)) (.BoolOp .Or (e :: e2 :: r) pos) (tXB X.K X.mg a cls d i (.or_ x y)) := by
  refine pw_imp (pw_or he hr) ?_
  rintro σ H Q ⟨ι, h, c, fs, b, hd, ev, k⟩
  simp only [evX] at ev
  cases e1 : evX c fs x with
  | none => rw [e1] at ev; cases ev
  | some z =>
    rw [e1] at ev
    cases z <;> first | (cases ev; done) | skip
    rename_i b'
    cases b' with
    | false => exact ⟨ι, h, c, fs, false, hd, e1, ι, h, c, fs, b, hd, ev, k⟩
    | true => cases ev; exact ⟨ι, h, c, fs, true, hd, e1, k⟩
theorem x_ife {ec e1 e2 : Expr} {x y z : XE} (hc : PT (X.suite a ((a, oe) :: pn)) ec (tXB X.K X.mg a cls d i x)) (h1 : PE (X.suite a ((a, oe) :: pn)) e1 (tX X.K X.mg a cls d i y)) (h2 : PE (X.suite a ((a, oe) :: pn)) e2 (tX X.K X.mg a cls d i z)) :
    PE (X.suite a ((a, oe) :: pn)) (.IfExp ec e1 e2 pos) (tX X.K X.mg a cls d i (.ife x y z)) := by
  refine pe_imp (pe_ifExp hc h1 h2) ?_
  rintro σ H Q ⟨ι, h, c, fs, w, hd, ev, k⟩
  simp only [evX] at ev
  cases e1 : evX c fs x with
  | none => rw [e1] at ev; cases ev
  | some t =>
    rw [e1] at ev
    cases t <;> first | (cases ev; done) | skip
    rename_i b'
    cases b' with
    | true => exact ⟨ι, h, c, fs, true, hd, e1, ι, h, c, fs, w, hd, ev, k⟩
    | false => exact ⟨ι, h, c, fs, false, hd, e1, ι, h, c, fs, w, hd, ev, k⟩
theorem x_tup {e1 e2 : Expr} {x y : XE} {x1 : Nat} (h1 : PE (X.suite a ((a, oe) :: pn)) e1 (tX X.K X.mg a cls d i x)) (h2 : PE (X.suite a ((a, oe) :: pn)) e2 (tX X.K X.mg a cls d i y)) (s1 : isStar e1 = false) (s2 : isStar e2 = false) :
    PE (X.suite a ((a, oe) :: pn)) (.Tuple [e1, e2] x1 pos) (tX X.K X.mg a cls d i (.tup x y)) := by
  refine pe_imp (pe_tupS (pa_cons h1 (pa_cons h2 pa_nil (star_cons s2)) (star_cons s1))) ?_
  rintro σ H Q ⟨ι, h, c, fs, w, hd, ev, k⟩
  simp only [evX] at ev
  cases e1 : evX c fs x with
  | none => rw [e1] at ev; cases ev
  | some u =>
    cases e2 : evX c fs y with
    | none => rw [e1, e2] at ev; cases ev
    | some v =>
      rw [e1, e2] at ev
      cases ev
      refine ⟨ι, h, c, fs, u, hd, e1, fun ι1 v1 H1 x1 r1 p1 => ?_⟩
      have hd1 := hd.ext x1 r1
      refine ⟨ι1, h, c, fs, v, hd1, e2, fun ι2 v2 H2 x2 r2 p2 => ⟨by rw [sizeLine_eq]; show 2 ≤ 16777216; omega, fun p ob np hob => ?_⟩⟩
      have x3 : Ext ι2 H2 ι2 (upd H2 p (.frz ob (.tup [v1, v2]))) := Ext.same (same_new np)
      have r3 := r2.same (same_new np (o := .frz ob (.tup [v1, v2])))
      exact k ι2 _ _ ((x1.trans r1.mut x2).trans r2.mut x3) r3 (.tup (TupS.new hob) (.cons ((p1.ext x2 r1.mut).ext x3 r2.mut) (.cons (p2.ext x3 r2.mut) .nil)))
end
/-! ### suites -/
section
variable {X : Cx} {Z : XI} {a : Addr} {oe : Obj} {cls : Value} {d : Option Addr} {pn : List (Addr × Obj)} {i : Nat} {n : Str} {p pos pos' apos : Pos}
theorem xs_ret {e : Expr} {x : XE} (zm : Z.mg = X.mg) (he : PE (X.suite a ((a, oe) :: pn)) e (tX X.K X.mg a cls d i x)) : PSs (X.suite a ((a, oe) :: pn)) [.Return (some e) pos] (tXs X.K Z a cls d i (.ret x)) := by
  refine pss_imp (pss_one (ps_ret he)) ?_
  rintro E σ H ⟨ι, δ, h, c, fs, hd, re, q⟩
  simp only [execX] at q
  cases ev : evX c fs x with
  | none => rw [ev] at q; exact q.elim
  | some w =>
    rw [ev] at q
    exact ⟨ι, h, c, fs, w, by rw [← zm]; exact hd, ev, fun ι1 v H1 x1 r1 rv => q ι1 v H1 x1 r1 rv⟩
theorem xs_if {ec e : Expr} {x y : XE} {s : XS} {r : List Stmt} (zm : Z.mg = X.mg) (hc : PT (X.suite a ((a, oe) :: pn)) ec (tXB X.K X.mg a cls d i x)) (he : PE (X.suite a ((a, oe) :: pn)) e (tX X.K X.mg a cls d i y)) (hr : PSs (X.suite a ((a, oe) :: pn)) r (tXs X.K Z a cls d i s)) :
    PSs (X.suite a ((a, oe) :: pn)) (.If ec [.Return (some e) pos'] [] pos :: r) (tXs X.K Z a cls d i (.ifr x y s)) := by
  refine pss_imp (pss_cons (ps_if hc (pss_one (ps_ret he)) pss_nil) hr) ?_
  rintro E σ H ⟨ι, δ, h, c, fs, hd, re, q⟩
  simp only [execX] at q
  have hd' : Hd X.K X.mg a cls d i σ ι h H c fs := by rw [← zm]; exact hd
  cases e1 : evX c fs x with
  | none => rw [e1] at q; exact q.elim
  | some t =>
    rw [e1] at q
    cases t <;> first | (exact q.elim) | skip
    rename_i b'
    cases b' with
    | true =>
      cases ev : evX c fs y with
      | none => simp only [ev] at q; exact q.elim
      | some w =>
        simp only [ev] at q
        exact ⟨ι, h, c, fs, true, hd', e1, ι, h, c, fs, w, hd', ev, fun ι1 v H1 x1 r1 rv => q ι1 v H1 x1 r1 rv⟩
    | false => exact ⟨ι, h, c, fs, false, hd', e1, ι, δ, h, c, fs, hd, re, q⟩
theorem xs_app {t : Str} {j : Nat} {e : Expr} {x : XE} {p2 apos cpos : Pos} (zm : Z.mg = X.mg) (hN : X.N[j]? = some t) (hv : Vis X.env.scope t) (n1 : (t == ("__debug__" : Str)) = false) (n2 : (t == ("__classdict__" : Str)) = false) (he : PE (X.suite a ((a, oe) :: pn)) e (tX X.K X.mg a cls d i x)) (hst : isStar e = false) (hl : (apos.endLine == cpos.line) = true)
    (hsw : swapsWith (.Call (.Attribute (.Name t p2) "append" apos) [e] [] cpos) none pos.line (X.suite a ((a, oe) :: pn)).env = pure false) :
    PSs (X.suite a ((a, oe) :: pn)) [.Expr (.Call (.Attribute (.Name t p2) "append" apos) [e] [] cpos) pos] (tXs X.K Z a cls d i (.app j x)) := by
  have few : ((backTo cpos (starEach [e] (X.suite a ((a, oe) :: pn)).env)).all (fun x => !x.1) && (backToKw cpos (keywordEach [] (X.suite a ((a, oe) :: pn)).env)).all (fun x => x.1.isSome)
      && decide ([e].length + ([] : List Keyword).length + (if ([] : List Keyword).isEmpty then 0 else 1) < 30)) = true := by
    rw [star_all (by simp [hst])]
    simp [keywordEach, backToKw]
  refine pss_imp (pss_one (ps_expr (pe_bm (X := X.suite a ((a, oe) :: pn)) PySem.F.plainAttrs_list PySem.F.slot_list_append PySem.F.type_list_append mt_append (pe_var (X := X.suite a ((a, oe) :: pn)) (pos := p2) hN hv n1 n2) (pa_cons he pa_nil (star_cons hst)) (base_ok (by rfl)) few hl (star_cons hst) (star_none (by rfl))) hsw)) ?_
  rintro E σ H ⟨ι, δ, h, c, fs, hd, re, q⟩
  have hd' : Hd X.K X.mg a cls d i σ ι h H c fs := by rw [← zm]; exact hd
  simp only [execX] at q
  cases e1 : δ[j]? with
  | none => simp only [e1] at q; exact q.elim
  | some o =>
    cases o with
    | none => simp only [e1] at q; exact q.elim
    | some dd =>
      cases dd with
      | ref m =>
        cases ev : evX c fs x with
        | none => simp only [e1, ev] at q; exact q.elim
        | some w =>
          simp only [e1, ev] at q
          cases hm : h[m]? with
          | none => simp only [hm] at q; exact q.elim
          | some cc =>
            cases cc with
            | lst xs =>
              simp only [hm] at q
              by_cases cl : xs.length < LIM
              · rw [if_pos cl] at q
                obtain ⟨v, hv1, rv⟩ := re.env j _ e1
                cases rv with
                | @ref _ pa er =>
                  obtain ⟨_, ws, z, _, ea, ra⟩ := (Rp.ref er : Rp X.K ι H _ _).lstOf hd.rel hm
                  cases z
                  refine ⟨.ref pa, hv1, .inl ⟨rfl, ws, SqL.of ea⟩, ι, h, c, fs, w, hd', ev, fun ι1 v1 H1 x1 r1 p1 => ?_⟩
                  have er1 := x1.get er
                  obtain ⟨_, ws1, z, _, ea1, ra1⟩ := (Rp.ref er1 : Rp X.K ι1 H1 _ _).lstOf r1 hm
                  cases z
                  refine ⟨pa, ws1, v1, rfl, rfl, ea1, by rw [← LIM_line, ← ra1.length]; exact cl, ?_⟩
                  have re1 := re.ext x1 r1
                  have x2 : Ext ι1 H1 ι1 (upd H1 pa (.lst (ws1 ++ [v1]))) := Ext.write er1
                  have rp := ra1.append (RpL.cons p1 .nil)
                  exact q ι1 σ _ (x1.trans r1.mut x2) (re1.ext x2 (r1.write er1 ⟨_, upd_same, rp.ext x2 r1.mut⟩))
              · rw [if_neg cl] at q; exact q.elim
            | _ => simp only [hm] at q; exact q.elim
      | _ => simp only [e1] at q; exact q.elim
theorem execX_next {c : Str} {fs : List (Str × D)} {δ δ' : En} {h h' : HS} : ∀ {s : XS}, execX c fs s δ h = .next δ' h' → δ' = δ
  | .ret e, q => by
    simp only [execX] at q
    cases ev : evX c fs e <;> rw [ev] at q <;> cases q
  | .app i e, q => by
    simp only [execX] at q
    repeat' split at q
    all_goals first | (cases q; rfl) | cases q
  | .ifr t e r, q => by
    simp only [execX] at q
    repeat' split at q
    all_goals first | (cases q; done) | exact execX_next q
  | .pass, q => by cases q; rfl
theorem execX_no {c : Str} {fs : List (Str × D)} {δ : En} {h : HS} : ∀ {s : XS}, (∀ δ' h', execX c fs s δ h ≠ .brk δ' h') ∧ (∀ δ' h', execX c fs s δ h ≠ .cont δ' h') ∧ ∀ c' fs' δ' h', execX c fs s δ h ≠ .exc c' fs' δ' h'
  | .ret e => by
    simp only [execX]
    cases evX c fs e <;> simp
  | .app i e => by
    simp only [execX]
    refine ⟨?_, ?_, ?_⟩ <;> intros <;> (repeat' split) <;> simp
  | .ifr t e r => by
    simp only [execX]
    have ih := execX_no (c := c) (fs := fs) (δ := δ) (h := h) (s := r)
    refine ⟨?_, ?_, ?_⟩ <;> intros <;> (repeat' split) <;> first | exact ih.1 _ _ | exact ih.2.1 _ _ | exact ih.2.2 _ _ _ _ | simp
  | .pass => by simp [execX]
theorem RelE.unset2 {K : PySem.W.Frag} {ι : List Addr} {δ : En} {h : HS} {σ : St} {H : Hp} {v : Option V} (re : RelE K ι δ h σ H) : RelE K ι (δ.set i none) h (σ.set i v) H := by
  refine ⟨re.rel, by rw [List.length_set, List.length_set, re.len], fun j d' e => ?_⟩
  by_cases hj : i = j
  · subst hj
    by_cases hl : i < δ.length
    · rw [List.getElem?_set_self hl] at e; cases e
    · rw [List.getElem?_eq_none (by simpa using hl)] at e; cases e
  · rw [List.getElem?_set_ne hj] at e
    obtain ⟨w, e1, r1⟩ := re.env j d' e
    exact ⟨w, by rw [List.getElem?_set_ne hj]; exact e1, r1⟩
theorem s_try {cl : Cl} {b suite : List Stmt} {b₀ : Stmt} {cb : CSs} {ks : List (Str × Bool)} {s : XS} {x : Str} (hs : X.stack = X.env :: X.outer) (hf : X.env.frame = some X.env.locals) (hN : X.N.Nodup) (hi : X.N[i]? = some n) (hln : X.env.kindOf n = some .local) (T : ClsTab X.K X.mg x ks) (hg : Gl X x) (hdb : (x == ("__debug__" : Str)) = false)
    (tk : Takes X Z.W) (zm : Z.mg = X.mg) (hb : ∀ (W : WX) (pn : List (Addr × Obj)) (xe : Value → Shared → Prop), Takes (X.tr pn xe) W → PassesOwn (model X.prog X.w) X.A X.env xe → PSs (X.tr pn xe) b (tSs ⟨Z.mg, W⟩ X.K cl cb))
    (hsu : ∀ (a : Addr) (oe : Obj) (cls : Value) (d : Option Addr) (pn : List (Addr × Obj)), Zc cls d oe → (∃ vs, oe.data = .fields vs) → PSs (X.suite a ((a, oe) :: pn)) (b₀ :: suite) (tXs X.K Z a cls d i s)) :
    PS X (.Try b [.ExceptHandler (some (.Name x p)) (some n) (b₀ :: suite) pos'] [] [] pos) (tS Z X.K cl (.try_ cb i ks s)) := by
  obtain ⟨CY, hm, ht⟩ := T
  refine ps_imp (ps_try_as hs hf hN hi hln (c := .ref CY) ⟨hg, hdb, .inl hm⟩ tk hb hsu) ?_
  rintro E σ H ⟨ι, δ, h, re, q⟩
  simp only [execS] at q
  refine ⟨ι, δ, h, re, ?_⟩
  cases e : execB cl cb δ h with
  | next δ1 h1 => rw [e] at q; exact q
  | brk δ1 h1 => rw [e] at q; exact q
  | cont δ1 h1 => rw [e] at q; exact q
  | ret v h1 => rw [e] at q; exact q
  | bad => rw [e] at q; exact q
  | exc c fs δ1 h1 =>
    rw [e] at q
    intro ι1 σ1 H1 e1 r1 cls dd fvs hcls hdd hfr
    cases el : lkX ks c with
    | none => simp only [el] at q; exact q.elim
    | some bb =>
      obtain ⟨C, kn, hk, hx⟩ := ht c bb el
      have hc2 : cls = .ref C := by
        have hcls : Z.mg c = some cls := hcls
        rw [zm, kn.mg] at hcls; cases hcls; rfl
      subst hc2
      refine ⟨bb, hx, fun hb a na => ?_, fun hb => ?_⟩
      · subst hb
        simp only [el] at q
        by_cases hl : i < δ1.length
        · rw [if_pos hl] at q
          have r2 := r1.unset2 (i := i) (v := some (.ref a))
          refine ⟨ι1, δ1.set i none, h1, c, fs, ⟨r1.rel, ?_, dd, fvs, C, rfl, hdd, hfr, rfl, by rw [zm]; exact kn⟩, r2, ?_⟩
          · rw [List.getElem?_set_self (by rw [← r1.len]; exact hl)]
          · have q := PostF.shift e1 r1.rel.mut q
            cases ex : execX c fs s (δ1.set i none) h1 with
            | next δ2 h2 =>
              rw [ex] at q
              have := execX_next ex
              subst this
              intro ι2 σ2 H2 e2 r3
              have r4 := r3.unset2 (i := i) (v := none)
              rw [List.set_set] at r4
              exact q ι2 _ H2 e2 r4
            | ret v h2 => rw [ex] at q; exact q
            | brk δ2 h2 => exact absurd ex (execX_no.1 _ _)
            | cont δ2 h2 => exact absurd ex (execX_no.2.1 _ _)
            | exc c' fs' δ2 h2 => exact absurd ex (execX_no.2.2 _ _ _ _)
            | bad => rw [ex] at q; exact q
        · rw [if_neg hl] at q; exact q.elim
      · subst hb
        simp only [el] at q
        exact q ι1 σ1 H1 e1 r1 _ dd fvs hcls hdd hfr
end
end Mi

namespace Mi
open PySem L2
/-- what is known of a block of the text -/
structure Sg where
  N : List Str
  sc : Scope
  fn : Str → Bool
  df : Str → Option Nat
  bi : Str → Bool
  cn : Str → Option D
  dd : Str → Option (List (Str × D))
  rs : Str → Option (List (Str × XA)) := fun _ => none
  ex : Str → Option (List (Str × Bool)) := fun _ => none
  top : Bool := false
def Sg.ix (G : Sg) (x : Str) : Option Nat := ixS G.N x 0
def Sg.kd (G : Sg) (x : Str) : Option NameKind := lkS G.sc.names x
def Sg.vis (G : Sg) (x : Str) : Bool := match G.kd x with
  | some .local | some .cell | some .free => true
  | _ => false
def Sg.loc (G : Sg) (x : Str) : Bool := match G.kd x with
  | some .local => true
  | some .cell => G.fn x
  | _ => false
def Sg.isLoc (G : Sg) (x : Str) : Bool := match G.kd x with
  | some .local => true
  | _ => false
def Sg.gl (G : Sg) (x : Str) : Bool := match G.kd x with
  | some .globalImplicit => true
  | _ => false
def Sg.blk (G : Sg) (scope : Scope) : Sg := { G with sc := relS scope G.sc, fn := fun x => scope.names.lookup x == some .cell, top := false }
/-- a written dict of the module, with text keys -/
def DdOk (K : PySem.W.Frag) (w : World) (mg : Str → Option Value) (x : Str) (l : List (Str × D)) : Prop := ∃ a, mg x = some (.ref a) ∧ ∀ z d, lkD l z = some d → ∃ v, KDct K w a z v ∧ ∀ ι H, Rp K ι H d v
structure Ctx (G : Sg) (Z : XI) (cl : Cl) (X : Cx) : Prop where
  tk : Takes X Z.W
  zm : Z.mg = X.mg
  N : X.N = G.N
  sc : X.env.scope = G.sc
  fn : ∀ x, G.fn x = true → X.fn x = true
  nd : X.N.Nodup
  kind : X.env.scope.kind = .function
  calm : X.calm = true
  hu : X.A.units + 64 < cLine
  po : PassesOwn (model X.prog X.w) X.A X.env X.xe
  bi : ∀ x, G.bi x = true → X.mg x = none
  df : ∀ f np, G.df f = some np → ∃ fa fd ps k, FnOk X.prog X.w X.K X.mg X.base (L2.CX X.prog X.w) k fa fd ps (spD Z.mg X.K cl f np) ∧ Room k X.A ∧ X.mg f = some (.ref fa) ∧ PySem.W.keepIn X.K (.ref fa) = true ∧ Binds X.K fd ps [] ∧ ∀ args h, args.length ≠ np → cl f args h = .bad
  dn : ∀ f, G.df f = none → ∀ args h, cl f args h = .bad
  cn : ∀ x d, G.cn x = some d → ∃ u v, X.mg x = some u ∧ RelV v u ∧ ∀ ι H, Rp X.K ι H d v
  dd : ∀ x l, G.dd x = some l → DdOk X.K X.w X.mg x l
  rm : Room 4 X.A
  rs : ∀ c fl, G.rs c = some fl → InitOk X.prog X.w X.K X.mg X.base c fl
  ex : ∀ y tab, G.ex y = some tab → ClsTab X.K X.mg y tab
  fr : G.top = true → X.stack = X.env :: X.outer ∧ X.env.frame = some X.env.locals
section
variable {G : Sg} {Z : XI} {cl : Cl} {X : Cx} {x : Str} {i : Nat}
theorem Ctx.ix (C : Ctx G Z cl X) (h : G.ix x = some i) : X.N[i]? = some x := by
  obtain ⟨k, e, q⟩ := ixS_eq h
  rw [Nat.zero_add] at e
  rw [C.N, e]; exact q
theorem Ctx.kd (C : Ctx G Z cl X) : X.env.kindOf x = G.kd x := by
  unfold Env.kindOf Sg.kd
  rw [C.sc, lkS_eq]
theorem Ctx.lk (C : Ctx G Z cl X) : X.env.scope.names.lookup x = G.kd x := by
  unfold Sg.kd
  rw [C.sc, lkS_eq]
theorem Ctx.vis (C : Ctx G Z cl X) (h : G.vis x = true) : Vis X.env.scope x := by
  unfold Vis
  rw [C.lk]
  unfold Sg.vis at h
  split at h <;> first | (rename_i e; rw [e]; simp; done) | cases h
theorem Ctx.loc (C : Ctx G Z cl X) (h : G.loc x = true) : L2.Loc X.env.scope x ∧ (X.fn x = true ∨ X.env.scope.names.lookup x = some .local) := by
  unfold L2.Loc
  rw [C.lk]
  unfold Sg.loc at h
  split at h
  · rename_i e; rw [e]; exact ⟨.inl rfl, .inr rfl⟩
  · rename_i e; rw [e]; exact ⟨.inr rfl, .inl (C.fn x h)⟩
  · cases h
theorem Ctx.isLoc (C : Ctx G Z cl X) (h : G.isLoc x = true) : X.env.scope.names.lookup x = some .local := by
  rw [C.lk]
  unfold Sg.isLoc at h
  split at h
  · assumption
  · cases h
theorem Ctx.gl (C : Ctx G Z cl X) (h : G.gl x = true) : Gl X x := by
  unfold Gl
  rw [C.kd]
  unfold Sg.gl at h
  split at h
  · assumption
  · cases h
/-- nothing may be raised -/
def XI.z0 (Z : XI) : XI := ⟨Z.mg, fun _ _ _ _ => False⟩
theorem Ctx.blk {s : Shared} {H : Hp} {scope : Scope} {C : Addr} {cells : List (Str × Addr)} {fp : List Addr} (c : Ctx G Z cl X) (hk : scope.kind = .function) :
    Ctx (G.blk scope) Z.z0 cl (X.blk s H scope (compEnvC scope cells C X.env) fp) where
  tk := fun _ _ ⟨_, _, _, _, _, _, _, _, _, _, _, _, _, _, _, _, w⟩ => w.elim
  zm := c.zm
  N := c.N
  sc := by show relS scope X.env.scope = _; rw [c.sc]; rfl
  fn := fun x h => h
  nd := c.nd
  kind := hk
  calm := c.calm
  hu := c.hu
  po := PassesOwn.never
  bi := c.bi
  df := c.df
  dn := c.dn
  cn := c.cn
  dd := c.dd
  rm := c.rm
  rs := c.rs
  ex := c.ex
  fr := fun h => (by cases h)
theorem Ctx.tr (c : Ctx G Z cl X) {W : WX} {pn : List (Addr × Obj)} {xe : Value → Shared → Prop} (t : Takes (X.tr pn xe) W) (p : PassesOwn (model X.prog X.w) X.A X.env xe) : Ctx G ⟨Z.mg, W⟩ cl (X.tr pn xe) where
  tk := t
  zm := c.zm
  N := c.N
  sc := c.sc
  fn := c.fn
  nd := c.nd
  kind := c.kind
  calm := c.calm
  hu := c.hu
  po := p
  bi := c.bi
  df := c.df
  dn := c.dn
  cn := c.cn
  dd := c.dd
  rm := c.rm
  rs := c.rs
  ex := c.ex
  fr := c.fr
end
end Mi

namespace Mi
open PySem L2
section
variable {X : Cx} {Z : XI} {tg : Expr} {cl : Cl} {e a b : Expr} {ce ca cb : CE} {p pos : Pos}
theorem i_rng2 (hg : Gl X "range") (hm : X.mg "range" = none) (ha : PE X a (tE Z X.K cl ca)) (hb : PE X b (tE Z X.K cl cb)) (na : isStar a = false) (nb : isStar b = false) :
    PI X tg (.Call (.Name "range" p) [a, b] [] pos) (tI Z X.K cl (.rng (.cons ca (.cons cb .nil)))) := by
  refine pi_imp (pi_range2 hg hm (p_cons ha (p_cons hb p_nil (star_cons nb)) (star_cons na)) (by rw [star_cons na, star_cons nb]; rfl) (by rw [star_cons nb]; rfl)) ?_
  rintro σ H Q ⟨ι, δ, h, re, q⟩
  simp only [evalI] at q
  refine ⟨ι, δ, h, re, ?_⟩
  cases ee : evalL cl (.cons ca (.cons cb .nil)) δ h with
  | ok xs h1 =>
    rw [ee, R.bind_ok] at q
    intro ι1 vs H1 ex r1 rp
    cases er : rngF xs with
    | none => rw [er] at q; exact q.elim
    | some pr =>
      rw [er] at q
      have two : ∃ x y, xs = [x, y] := by
        simp only [evalL] at ee
        obtain ⟨x, h2, _, ee⟩ := R.bind_eq ee
        obtain ⟨ys, h3, e2, ee⟩ := R.bind_eq ee
        obtain ⟨y, h4, _, e2⟩ := R.bind_eq e2
        simp only [R.bind_ok] at e2
        cases e2; cases ee
        exact ⟨_, _, rfl⟩
      obtain ⟨x, y, rfl⟩ := two
      obtain ⟨i, j, rfl, rfl, rfl, hi, hj, hij⟩ := rngF_two er
      match vs, rp with
      | [_, _], .cons (.int _) (.cons (.int _) .nil) =>
        have q := q ι1 (Itr i (j - i).toNat) H1 ex r1 (rngWalk i j)
        refine ⟨i, j, rfl, ⟨by unfold LIM at hi; omega, by unfold LIM at hi; omega, by unfold LIM at hj; omega, by unfold LIM at hj; omega⟩, q⟩
  | exc _ _ _ => rw [ee] at q; exact q
  | bad => rw [ee] at q; exact q.elim
theorem rng3F_some {x y z : D} {l : List D} (e : rng3F [x, y, z] = some l) : ∃ i j c : Int, ∃ n : Nat, x = .int i ∧ y = .int j ∧ z = .int c ∧ RgC i j c n ∧ l = (List.range n).map fun t => .int (i + (t : Nat) * c) := by
  cases x <;> first | (simp [rng3F] at e; done) | skip
  cases y <;> first | (simp [rng3F] at e; done) | skip
  cases z <;> first | (simp [rng3F] at e; done) | skip
  rename_i i j c
  simp only [rng3F] at e
  by_cases hc : (decide (c ≠ 0) && decide (c.natAbs < 1073741824) && Builtin.Range.small i j c && decide (Builtin.Range.rangeSize i j c = ((Builtin.Range.rangeSize i j c).toNat : Int))) = true
  · rw [if_pos hc] at e
    simp only [Bool.and_eq_true, decide_eq_true_eq] at hc
    cases e
    exact ⟨i, j, c, _, rfl, rfl, rfl, ⟨hc.1.1.1, hc.1.1.2, hc.1.2, hc.2⟩, rfl⟩
  · rw [if_neg hc] at e; cases e
theorem rng3Walk {K : PySem.W.Frag} {H0 : Hp} {ι : List Addr} {H : Hp} (i c : Int) (n : Nat) : WalkR K H0 ι H ⟨(List.range n).map fun t => .int (i + (t : Nat) * c), none⟩ (Itc i c n) := by
  have hl : ((List.range n).map fun t : Nat => D.int (i + (t : Nat) * c)).length = n := by simp
  have W : L2.Walk (Itc i c n) n (fun _ => True) (fun t H x H' => H' = H ∧ x = .int (i + (t : Nat) * c)) := ⟨fun _ _ hi _ => hi, fun _ _ => Nat.le_refl _, fun _ _ _ _ _ _ y => y⟩
  refine ⟨_, _, [], by rw [hl]; exact W, no_t, fun _ _ _ _ _ _ _ => trivial, fun t x ι2 H2 h2 H3 hlt e2 _ r2 lv y => ?_⟩
  obtain ⟨rfl, rfl⟩ := y
  have hlt : t < ((List.range n).map fun t : Nat => D.int (i + (t : Nat) * c)).length := hlt
  rw [hl] at hlt
  exact ⟨.int (i + (t : Nat) * c), by show ((List.range n).map fun t : Nat => D.int (i + (t : Nat) * c))[t]? = _; simp [hlt], fun _ _ z => z, .int _⟩
theorem i_rng3 {a b c : Expr} {ca cb cc : CE} {p pos : Pos} (hg : Gl X "range") (hm : X.mg "range" = none) (ha : PE X a (tE Z X.K cl ca)) (hb : PE X b (tE Z X.K cl cb)) (hc : PE X c (tE Z X.K cl cc)) (na : isStar a = false) (nb : isStar b = false) (nc : isStar c = false) :
    PI X tg (.Call (.Name "range" p) [a, b, c] [] pos) (tI Z X.K cl (.rng3 (.cons ca (.cons cb (.cons cc .nil))))) := by
  refine pi_imp (pi_range3 hg hm (p_cons ha (p_cons hb (p_cons hc p_nil (star_cons nc)) (star_cons nb)) (star_cons na)) (star_cons na) (star_none (by simp [nb, nc]))) ?_
  rintro σ H Q ⟨ι, δ, h, re, q⟩
  simp only [evalI] at q
  refine ⟨ι, δ, h, re, ?_⟩
  cases ee : evalL cl (.cons ca (.cons cb (.cons cc .nil))) δ h with
  | ok xs h1 =>
    rw [ee, R.bind_ok] at q
    intro ι1 vs H1 ex r1 rp
    cases er : rng3F xs with
    | none => rw [er] at q; exact q.elim
    | some l =>
      rw [er] at q
      have three : ∃ x y z, xs = [x, y, z] := by
        unfold rng3F at er
        split at er
        · exact ⟨_, _, _, rfl⟩
        · cases er
      obtain ⟨x, y, z, rfl⟩ := three
      obtain ⟨i, j, c, n, rfl, rfl, rfl, hr, rfl⟩ := rng3F_some er
      match vs, rp with
      | [_, _, _], .cons (.int _) (.cons (.int _) (.cons (.int _) .nil)) =>
        exact ⟨i, j, c, n, rfl, hr, q ι1 (Itc i c n) H1 ex r1 (rng3Walk i c n)⟩
  | exc _ _ _ => rw [ee] at q; exact q
  | bad => rw [ee] at q; exact q.elim
theorem walk_revTX {K : PySem.W.Frag} {a : Addr} {n : Nat} : L2.Walk (RT.ItvT K a n) n (fun H => ∃ vs, SqT K H a vs ∧ vs.length = n) (fun i H x H' => H' = H ∧ ∀ vs, SqT K H a vs → vs[n - 1 - i]? = some x) :=
  ⟨fun i H hi ⟨vs, q, e⟩ => ⟨hi, vs, vs[n - 1 - i]'(by omega), q, List.getElem?_eq_getElem (by omega)⟩, fun H _ => Nat.le_refl _, fun i H x H' _ _ y => y⟩
theorem i_rev (hg : Gl X "reversed") (hm : X.mg "reversed" = none) (ha : PE X e (tE Z X.K cl ce)) (hs : isStar e = false) :
    PI X tg (.Call (.Name "reversed" p) [e] [] pos) (tI Z X.K cl (.rev ce)) := by
  refine pi_imp (RT.pi_revA hg hm ha (star_cons hs)) ?_
  rintro σ H Q ⟨ι, δ, h, re, q⟩
  simp only [evalI] at q
  refine step_I (F := fun w => ⟨w.items.reverse, w.live⟩) re q fun w ι2 a H1 h2 e2 r2 lv st k => ?_
  rcases st with st | st
  · obtain ⟨vs, sq, rr⟩ := st.choose_spec.2 ι2 H1 h2 (Ext.refl.toI r2.mut) (fun _ _ => rfl) r2 lv
    refine ⟨a, vs, rfl, .inl ⟨sq, k _ ?_⟩⟩
    rw [← rr.length]
    exact st.walkR walk_revXL
  · obtain ⟨vs, sq, rr⟩ := st.choose_spec.2 ι2 H1 h2 (Ext.refl.toI r2.mut) (fun _ _ => rfl) r2 lv
    refine ⟨a, vs, rfl, .inr ⟨sq, k _ ?_⟩⟩
    rw [← rr.length]
    exact st.walkR walk_revTX
end
section
variable {X : Cx} {Z : XI} {cl : Cl} {elt tg iter tg1 iter1 : Expr} {ifs ifs1 : List Expr} {scope : Scope} {own : List (Str × Nat)} {pos : Pos} {ci ci1 : CI} {ct ct1 : CB} {ce : CE} {t t1 : NT} {own1 : List Nat} {Z0 : XI}
theorem p_lc (hc : X.calm = true) (hN : X.N.Nodup) (hi : PI X tg iter (tI Z X.K cl ci)) (ok : BlkOk X.N X.env.scope scope own)
    (hg : ∀ (s : Shared) (H : Hp) (C : Addr) (cs : List (Str × Addr)) (fp : List Addr), PG (X.blk s H scope (compEnvC scope cs C X.env) fp) tg (gN X.K t))
    (ht : ∀ (s : Shared) (H : Hp) (C : Addr) (cs : List (Str × Addr)) (fp : List Addr), PTs (X.blk s H scope (compEnvC scope cs C X.env) fp) ifs (tB Z0 X.K cl ct))
    (he : ∀ (s : Shared) (H : Hp) (C : Addr) (cs : List (Str × Addr)) (fp : List Addr), PE (X.blk s H scope (compEnvC scope cs C X.env) fp) elt (tE Z0 X.K cl ce)) (hs : isSet iter = false) (hsl : ∀ i ∈ t.slots, i ∈ own.map (·.2)) :
    PE X (.ListComp elt [⟨tg, iter, ifs, 0⟩] scope pos) (tE Z X.K cl (.lc (own.map (·.2)) t ci ct ce)) := by
  refine pe_imp (pe_lc hc hN hi ok hg ht he fun x => folded hs) ?_
  rintro σ H Q ⟨ι, δ, h, re, q⟩
  exact lc_ok re q hsl
theorem p_lc2 (hc : X.calm = true) (hN : X.N.Nodup) (hi : PI X tg iter (tI Z X.K cl ci)) (ok : BlkOk X.N X.env.scope scope own)
    (hg : ∀ (s : Shared) (H : Hp) (C : Addr) (cs : List (Str × Addr)) (fp : List Addr), PG (X.blk s H scope (compEnvC scope cs C X.env) fp) tg (gN X.K t))
    (ht : ∀ (s : Shared) (H : Hp) (C : Addr) (cs : List (Str × Addr)) (fp : List Addr), PTs (X.blk s H scope (compEnvC scope cs C X.env) fp) ifs (tB Z0 X.K cl ct))
    (hi1 : ∀ (s : Shared) (H : Hp) (C : Addr) (cs : List (Str × Addr)) (fp : List Addr), PI (X.blk s H scope (compEnvC scope cs C X.env) fp) tg1 iter1 (tI Z0 X.K cl ci1))
    (hg1 : ∀ (s : Shared) (H : Hp) (C : Addr) (cs : List (Str × Addr)) (fp : List Addr), PG (X.blk s H scope (compEnvC scope cs C X.env) fp) tg1 (gN X.K t1))
    (ht1 : ∀ (s : Shared) (H : Hp) (C : Addr) (cs : List (Str × Addr)) (fp : List Addr), PTs (X.blk s H scope (compEnvC scope cs C X.env) fp) ifs1 (tB Z0 X.K cl ct1))
    (he : ∀ (s : Shared) (H : Hp) (C : Addr) (cs : List (Str × Addr)) (fp : List Addr), PE (X.blk s H scope (compEnvC scope cs C X.env) fp) elt (tE Z0 X.K cl ce)) (hs : isSet iter = false) (hs1 : isSet iter1 = false)
    (hsl : ∀ i ∈ t.slots, i ∈ own.map (·.2)) (hsl1 : ∀ i ∈ t1.slots, i ∈ own1) (hown : ∀ i ∈ own1, i ∈ own.map (·.2)) :
    PE X (.ListComp elt [⟨tg, iter, ifs, 0⟩, ⟨tg1, iter1, ifs1, 0⟩] scope pos) (tE Z X.K cl (.lc2 (own.map (·.2)) own1 t ci ct t1 ci1 ct1 ce)) := by
  refine pe_imp (pe_lc2 hc hN hi ok hown hg ht hi1 hg1 ht1 he (fun x => folded hs) fun _ _ => folded hs1) ?_
  rintro σ H Q ⟨ι, δ, h, re, q⟩
  exact lc2_ok re q hsl hsl1 hown
theorem F_set {K : PySem.W.Frag} {ι : List Addr} {δ : En} {h : HS} {σ : St} {H : Hp} {E : Ends} {k : Nat} {r : R D} (re : RelE K ι δ h σ H) (q : PostF Z K ι H (r.fl δ fun v h1 => (asgA cl (.nm k) v δ h1).nx.fl δ fun δ1 h2 => .next δ1 h2) E) : PostE (Z.at K σ) K ι H r fun x H1 => E.nx (σ.set k (some x)) H1 := by
  cases r with
  | ok v h1 =>
    have q : PostF Z K ι H ((asgA cl (.nm k) v δ h1).nx.fl δ fun δ1 h2 => .next δ1 h2) E := q
    intro ι1 u H1 e1 r1 ru
    simp only [asgA] at q
    by_cases c : k < δ.length
    · rw [if_pos c] at q
      exact q ι1 _ H1 e1 ((re.ext e1 r1).set ru)
    · rw [if_neg c] at q; exact q.elim
  | exc c fs h1 => exact fun ι1 H1 ex r1 => q ι1 σ H1 ex (re.ext ex r1)
  | bad => exact q
theorem s_setLc {k : Nat} {y : Str} {py spos : Pos} (hy : X.N[k]? = some y) (hyl : X.env.scope.names.lookup y = some .local) (hsw : swapsWith (.ListComp elt [⟨tg, iter, ifs, 0⟩] scope pos) (some (.Name y py)) spos.line X.env = pure true)
    (hc : X.calm = true) (hN : X.N.Nodup) (hi : PI X tg iter (tI Z X.K cl ci)) (ok : BlkOk X.N X.env.scope scope own)
    (hg : ∀ (s : Shared) (H : Hp) (C : Addr) (cs : List (Str × Addr)) (fp : List Addr), PG (X.blk s H scope (compEnvC scope cs C X.env) fp) tg (gN X.K t))
    (ht : ∀ (s : Shared) (H : Hp) (C : Addr) (cs : List (Str × Addr)) (fp : List Addr), PTs (X.blk s H scope (compEnvC scope cs C X.env) fp) ifs (tB Z0 X.K cl ct))
    (he : ∀ (s : Shared) (H : Hp) (C : Addr) (cs : List (Str × Addr)) (fp : List Addr), PE (X.blk s H scope (compEnvC scope cs C X.env) fp) elt (tE Z0 X.K cl ce)) (hs : isSet iter = false) (hsl : ∀ i ∈ t.slots, i ∈ own.map (·.2)) :
    PS X (.Assign [.Name y py] (.ListComp elt [⟨tg, iter, ifs, 0⟩] scope pos) spos) (tS Z X.K cl (.asg (.nm k) (.lc (own.map (·.2)) t ci ct ce))) := by
  refine ps_imp (ps_setLc hc hN hy hyl hsw hi ok hg ht he fun x => folded hs) ?_
  rintro E σ H ⟨ι, δ, h, re, q⟩
  simp only [execS] at q
  exact lc_ok re (F_set re q) hsl
theorem s_setLc2 {k : Nat} {y : Str} {py spos : Pos} (hy : X.N[k]? = some y) (hyl : X.env.scope.names.lookup y = some .local) (hsw : swapsWith (.ListComp elt [⟨tg, iter, ifs, 0⟩, ⟨tg1, iter1, ifs1, 0⟩] scope pos) (some (.Name y py)) spos.line X.env = pure true)
    (hc : X.calm = true) (hN : X.N.Nodup) (hi : PI X tg iter (tI Z X.K cl ci)) (ok : BlkOk X.N X.env.scope scope own)
    (hg : ∀ (s : Shared) (H : Hp) (C : Addr) (cs : List (Str × Addr)) (fp : List Addr), PG (X.blk s H scope (compEnvC scope cs C X.env) fp) tg (gN X.K t))
    (ht : ∀ (s : Shared) (H : Hp) (C : Addr) (cs : List (Str × Addr)) (fp : List Addr), PTs (X.blk s H scope (compEnvC scope cs C X.env) fp) ifs (tB Z0 X.K cl ct))
    (hi1 : ∀ (s : Shared) (H : Hp) (C : Addr) (cs : List (Str × Addr)) (fp : List Addr), PI (X.blk s H scope (compEnvC scope cs C X.env) fp) tg1 iter1 (tI Z0 X.K cl ci1))
    (hg1 : ∀ (s : Shared) (H : Hp) (C : Addr) (cs : List (Str × Addr)) (fp : List Addr), PG (X.blk s H scope (compEnvC scope cs C X.env) fp) tg1 (gN X.K t1))
    (ht1 : ∀ (s : Shared) (H : Hp) (C : Addr) (cs : List (Str × Addr)) (fp : List Addr), PTs (X.blk s H scope (compEnvC scope cs C X.env) fp) ifs1 (tB Z0 X.K cl ct1))
    (he : ∀ (s : Shared) (H : Hp) (C : Addr) (cs : List (Str × Addr)) (fp : List Addr), PE (X.blk s H scope (compEnvC scope cs C X.env) fp) elt (tE Z0 X.K cl ce)) (hs : isSet iter = false) (hs1 : isSet iter1 = false)
    (hsl : ∀ i ∈ t.slots, i ∈ own.map (·.2)) (hsl1 : ∀ i ∈ t1.slots, i ∈ own1) (hown : ∀ i ∈ own1, i ∈ own.map (·.2)) :
    PS X (.Assign [.Name y py] (.ListComp elt [⟨tg, iter, ifs, 0⟩, ⟨tg1, iter1, ifs1, 0⟩] scope pos) spos) (tS Z X.K cl (.asg (.nm k) (.lc2 (own.map (·.2)) own1 t ci ct t1 ci1 ct1 ce))) := by
  refine ps_imp (ps_setLc2 hc hN hy hyl hsw hi ok hown hg ht hi1 hg1 ht1 he (fun x => folded hs) fun _ _ => folded hs1) ?_
  rintro E σ H ⟨ι, δ, h, re, q⟩
  simp only [execS] at q
  exact lc2_ok re (F_set re q) hsl hsl1 hown
end
end Mi

namespace Mi
open PySem L2
/-! ## the translator: expressions -/
structure Tr where
  e : Sg → Expr → Option CE
  b : Sg → Expr → Option CB
  s : Sg → Stmt → Option CS
structure OkTr (cl : Cl) (T : Tr) : Prop where
  e : ∀ G x c, T.e G x = some c → ∀ X {Z : XI}, Ctx G Z cl X → PE X x (tE Z X.K cl c)
  b : ∀ G x c, T.b G x = some c → ∀ X {Z : XI}, Ctx G Z cl X → PT X x (tB Z X.K cl c)
  s : ∀ G x c, T.s G x = some c → ∀ X {Z : XI}, Ctx G Z cl X → PS X x (tS Z X.K cl c)
def noDbg (x : Str) : Bool := !(x == ("__debug__" : Str)) && !(x == ("__classdict__" : Str))
theorem noDbg_1 {x : Str} (h : noDbg x = true) : (x == ("__debug__" : Str)) = false := by
  unfold noDbg at h
  simp only [Bool.and_eq_true, Bool.not_eq_true'] at h
  exact h.1
theorem noDbg_2 {x : Str} (h : noDbg x = true) : (x == ("__classdict__" : Str)) = false := by
  unfold noDbg at h
  simp only [Bool.and_eq_true, Bool.not_eq_true'] at h
  exact h.2
def biNm : Bi → Str
  | .len => "len" | .any => "any" | .all => "all" | .sorted => "sorted" | .list => "list" | .tuple => "tuple" | .sum => "sum" | .min => "min" | .max => "max" | .abs => "abs" | .int => "int" | .str => "str" | .set_ => "set"
def biAll : List Bi := [.len, .any, .all, .sorted, .list, .tuple, .sum, .min, .max, .abs, .int]
def biOf (x : Str) : Option Bi := biAll.find? fun b => eqS x (biNm b)
theorem biOf_eq {x : Str} {b : Bi} (h : biOf x = some b) : x = biNm b ∧ b ∈ biAll := by
  unfold biOf at h
  exact ⟨eqS_eq (by simpa using List.find?_some h), List.mem_of_find?_eq_some h⟩
def meNm : Me → Str
  | .append => "append" | .pop => "pop" | .extend => "extend" | .index => "index" | .get => "get" | .setdefault => "setdefault" | .values => "values" | .count => "count" | .remove => "remove"
def meAll : List Me := [.append, .pop, .extend, .get, .index]
def meOf (x : Str) : Option Me := meAll.find? fun b => eqS x (meNm b)
theorem meOf_eq {x : Str} {b : Me} (h : meOf x = some b) : x = meNm b ∧ b ∈ meAll := by
  unfold meOf at h
  exact ⟨eqS_eq (by simpa using List.find?_some h), List.mem_of_find?_eq_some h⟩
def tyNm : Ty → Str
  | .int => "int" | .bool => "bool" | .tuple => "tuple" | .str => "str" | .list => "list"
def tyOf (x : Str) : Option Ty := [Ty.int, .bool, .tuple, .str, .list].find? fun b => eqS x (tyNm b)
theorem tyOf_eq {x : Str} {b : Ty} (h : tyOf x = some b) : x = tyNm b := by
  unfold tyOf at h
  exact eqS_eq (by simpa using List.find?_some h)
def trC : Const → Option D
  | .int i => some (.int i)
  | .str x => some (.str x)
  | .bool b => some (.bl b)
  | .none => some .non
  | _ => none
def nost (es : List Expr) : Bool := es.all fun e => !isStar e
def trL (T : Tr) (G : Sg) : List Expr → Option CL
  | [] => some .nil
  | e :: r => if isStar e then none else (T.e G e).bind fun x => (trL T G r).map fun y => .cons x y
def trO (T : Tr) (G : Sg) : Option Expr → Option CO
  | none => some .no
  | some e => (T.e G e).map .so
/-- a name that is the builtin -/
def isB (G : Sg) (x nm : Str) : Bool := eqS x nm && G.gl nm && G.bi nm
/-- what the text writes as e and e and .. -/
def trAV (T : Tr) (G : Sg) (op : BoolOp) : List Expr → Option CE
  | [] => none
  | [a] => T.e G a
  | a :: r => (T.e G a).bind fun x => (trAV T G op r).map fun y => match op with | .And => .andv x y | .Or => .orv x y
def trAB (T : Tr) (G : Sg) (op : BoolOp) : List Expr → Option CB
  | [] => none
  | [a] => T.b G a
  | a :: r => (T.b G a).bind fun x => (trAB T G op r).map fun y => match op with | .And => .and_ x y | .Or => .or_ x y
def trNms (G : Sg) : List Expr → Option (List Nat)
  | [] => some []
  | .Name x _ :: r => if G.loc x then (G.ix x).bind fun i => (trNms G r).map fun is => i :: is else none
  | _ => none
def trNT (G : Sg) : Expr → Option NT
  | .Name x _ => if G.loc x then (G.ix x).map .nm else none
  | .Tuple es _ _ => (trNms G es).map .tp
  | _ => none
def isTupE : Expr → Bool
  | .Tuple _ _ _ => true
  | _ => false
def trI (T : Tr) (G : Sg) (tg : Expr) (iter : Expr) : Option CI := match iter with
  | .Call (.Name f _) [a] [] _ =>
    if isStar a then none
    else if isB G f "range" then (T.e G a).map fun x => .rng (.cons x .nil)
    else if isB G f "enumerate" && isTupE tg then (T.e G a).map .enum
    else if isB G f "reversed" then (T.e G a).map .rev
    else (T.e G iter).map .seq
  | .Call (.Name f _) [a, b] [] _ =>
    if isStar a || isStar b then none
    else if isB G f "range" then (T.e G a).bind fun x => (T.e G b).map fun y => .rng (.cons x (.cons y .nil))
    else (T.e G iter).map .seq
  | .Call (.Name f _) [a, b, c] [] _ =>
    if isStar a || isStar b || isStar c then none
    else if isB G f "range" then (T.e G a).bind fun x => (T.e G b).bind fun y => (T.e G c).map fun z => .rng3 (.cons x (.cons y (.cons z .nil)))
    else (T.e G iter).map .seq
  | _ => (T.e G iter).map .seq
def trTs (T : Tr) (G : Sg) : List Expr → Option CB
  | [] => some .tru
  | [c] => T.b G c
  | _ => none
def ownOf (G : Sg) : List (Str × NameKind) → List (Str × Nat)
  | [] => []
  | (x, .local) :: r => match G.ix x with | some i => (x, i) :: ownOf G r | none => ownOf G r
  | (x, .cell) :: r => match G.ix x with | some i => (x, i) :: ownOf G r | none => ownOf G r
  | _ :: r => ownOf G r
def subN (a b : List Nat) : Bool := a.all fun i => b.any fun j => Nat.beq i j
theorem subN_eq {a b : List Nat} (h : subN a b = true) : ∀ i ∈ a, i ∈ b := fun i hi => by
  unfold subN at h
  have h := List.all_eq_true.mp h i hi
  obtain ⟨j, hj, e⟩ := List.any_eq_true.mp h
  rw [Nat.eq_of_beq_eq_true e]; exact hj
def trLC (T : Tr) (G : Sg) (elt : Expr) (gs : List Comprehension) (scope : Scope) : Option CE := match gs with
  | [⟨tg, iter, ifs, 0⟩] =>
    let own := ownOf G scope.names
    let G1 := G.blk scope
    if isSet iter || !blkC G.N G.sc scope own then none else
    (trNT G1 tg).bind fun t => if subN t.slots (own.map (·.2)) then (trI T G tg iter).bind fun ci => (trTs T G1 ifs).bind fun ct => (T.e G1 elt).map fun ce => .lc (own.map (·.2)) t ci ct ce else none
  | [⟨tg, iter, ifs, 0⟩, ⟨tg1, iter1, ifs1, 0⟩] =>
    let own := ownOf G scope.names
    let G1 := G.blk scope
    if isSet iter || isSet iter1 || !blkC G.N G.sc scope own then none else
    (trNT G1 tg).bind fun t => (trNT G1 tg1).bind fun t1 => if subN t.slots (own.map (·.2)) && subN t1.slots (own.map (·.2)) then
      (trI T G tg iter).bind fun ci => (trTs T G1 ifs).bind fun ct => (trI T G1 tg1 iter1).bind fun ci1 => (trTs T G1 ifs1).bind fun ct1 => (T.e G1 elt).map fun ce => .lc2 (own.map (·.2)) t1.slots t ci ct t1 ci1 ct1 ce else none
  | _ => none
/-- keys and values in turn -/
def trP (T : Tr) (G : Sg) : List (Option Expr) → List Expr → Option CL
  | [], [] => some .nil
  | some k :: ks, v :: vs => (T.e G k).bind fun x => (T.e G v).bind fun y => (trP T G ks vs).map fun r => .cons x (.cons y r)
  | _, _ => none
/-- x[..] -/
def trIx (T : Tr) (G : Sg) (a b : Expr) : Option CE := match a with
  | .Name x _ => match G.dd x with
    | some l => if G.gl x && noDbg x && !eqS x "__name__" then (T.e G b).map (.kix l) else none
    | none => (T.e G a).bind fun x => (T.e G b).map fun y => .ix x y
  | _ => (T.e G a).bind fun x => (T.e G b).map fun y => .ix x y
/-- the call of a name that holds a def -/
def trCallV (T : Tr) (G : Sg) (f : Str) (args : List Expr) : Option CE := match args with
  | [] => none
  | a :: r => if !noDbg f || !nost (a :: r) then none else (G.ix f).bind fun i => (trL T G (a :: r)).map (.callv i)
def trCall (T : Tr) (G : Sg) (f : Str) (args : List Expr) : Option CE :=
  if !G.gl f || !noDbg f || !nost args then none else
  match G.df f with
  | some _ => (trL T G args).map (.call f)
  | none => if !G.bi f then none else
    match args with
    | [] => none
    | [.Call (.Name g _) [a] [] _] =>
      if isB G g "range" && isB G f "list" && !isStar a then (T.e G a).map fun x => .lrg (.cons x .nil)
      else if isB G g "range" && isB G f "tuple" && !isStar a then (T.e G a).map fun x => .trg (.cons x .nil)
      else if isB G g "set" && isB G f "sorted" && !isStar a then (T.e G a).map .sset
      else (biOf f).bind fun b => (trL T G args).map (.bi b)
    | [.Call (.Name g _) [a, a2] [] _] =>
      if isB G g "range" && isB G f "list" && !isStar a && !isStar a2 then (T.e G a).bind fun x => (T.e G a2).map fun y => .lrg (.cons x (.cons y .nil))
      else (biOf f).bind fun b => (trL T G args).map (.bi b)
    | [a, .Name ty _] =>
      if eqS f "isinstance" then (tyOf ty).bind fun t => if G.gl ty && G.bi ty then (T.e G a).map (.isi t) else none
      else (biOf f).bind fun b => (trL T G args).map (.bi b)
    | _ => (biOf f).bind fun b => (trL T G args).map (.bi b)
def isRev : Expr → Bool
  | .Slice none none (some (.UnaryOp .USub (.Constant (.int 1) _ _) _)) _ => true
  | _ => false
def trE (T : Tr) (G : Sg) (x : Expr) : Option CE := match x with
  | .Name x _ => if !noDbg x then none else if G.vis x then (G.ix x).map .var else if G.gl x then (G.cn x).map .lit else none
  | .Constant c _ _ => (trC c).map .lit
  | .BinOp a o b _ => if opOk o then (T.e G a).bind fun x => (T.e G b).map fun y => .bin o x y else none
  | .UnaryOp .USub a _ => (T.e G a).map .neg
  | .UnaryOp .Not a _ => (T.e G a).map .notv
  | .Compare a [o] [b] _ => if isSet b then none else (T.e G a).bind fun x => (T.e G b).map fun y => .cmp o x y
  | .Compare a [o, o'] [b, c] _ => if isSet c then none else (T.e G a).bind fun x => (T.e G b).bind fun y => (T.e G c).map fun z => .chain o o' x y z
  | .BoolOp op es _ => trAV T G op es
  | .IfExp c a b _ => (T.b G c).bind fun t => (T.e G a).bind fun x => (T.e G b).map fun y => .ife t x y
  | .Tuple es _ _ => (trL T G es).map .tup
  | .List es _ => (trL T G es).map .lst
  | .Dict [] [] _ => some .dct0
  | .Dict (k :: ks) vs _ => if decide (ks.length < 15) then (trP T G (k :: ks) vs).map .dctL else none
  | .Subscript a (.Slice none none (some (.UnaryOp .USub (.Constant (.int 1) _ _) _)) _) _ => (T.e G a).map .rev
  | .Subscript a (.Slice lo hi none _) _ => (T.e G a).bind fun x => (trO T G lo).bind fun l => (trO T G hi).map fun u => .slice x l u
  | .Subscript a b _ => if isSlice b then none else trIx T G a b
  | .Call (.Name f _) args [] _ => if G.vis f then trCallV T G f args else trCall T G f args
  | .Call (.Attribute o m apos) args [] cpos => if isCall o || !nost args || !(apos.endLine == cpos.line) || !decide (args.length < 9) then none else
    (meOf m).bind fun m => (T.e G o).bind fun x => (trL T G args).map fun y => .meth m x y
  | .ListComp elt gs scope _ => trLC T G elt gs scope
  | _ => none
def trB (T : Tr) (G : Sg) (x : Expr) : Option CB := match x with
  | .UnaryOp .Not a _ => (T.b G a).map .not_
  | .BoolOp op es _ => trAB T G op es
  | .Compare a [o] [b] _ => if isSet b then none else (T.e G a).bind fun x => (T.e G b).map fun y => .cmp o x y
  | .Compare a [o, o'] [b, c] _ => if isSet c then none else (T.e G a).bind fun x => (T.e G b).bind fun y => (T.e G c).map fun z => .chain o o' x y z
  | e => if isPlainT e then (T.e G e).map .val else none
/-! ## it is right -/
section
variable {cl : Cl} {T : Tr} {G : Sg} {Z : XI} {X : Cx} {e : Expr} {c : CE} {pos : Pos}
theorem ok_C {k : Const} {d : D} {j : Nat} (h : trC k = some d) : PE X (.Constant k j pos) (tE Z X.K cl (.lit d)) := by
  cases k <;> first | cases h | skip
  · exact p_lit pe_non fun _ _ => .non
  · exact p_lit pe_bl fun _ _ => .bl _
  · exact p_lit pe_int fun _ _ => .int _
  · exact p_lit pe_str fun _ _ => .str _
theorem ok_L (O : OkTr cl T) (C : Ctx G Z cl X) : ∀ {es : List Expr} {cs : CL}, trL T G es = some cs → PA X es (tL Z X.K cl cs)
  | [], _, h => by cases h; exact p_nil
  | e :: r, cs, h => by
    rw [trL] at h
    by_cases s : isStar e = true
    · rw [if_pos s] at h; cases h
    · rw [if_neg s] at h
      obtain ⟨x, hx, h⟩ := Option.bind_eq_some_iff.mp h
      obtain ⟨y, hy, rfl⟩ := Option.map_eq_some_iff.mp h
      exact p_cons (O.e _ _ _ hx X C) (ok_L O C hy) (star_cons (by simpa using s))
theorem ok_O (O : OkTr cl T) (C : Ctx G Z cl X) : ∀ {o : Option Expr} {c : CO}, trO T G o = some c → PO X o (tO Z X.K cl c)
  | none, _, h => by cases h; exact p_no
  | some e, c, h => by
    obtain ⟨x, hx, rfl⟩ := Option.map_eq_some_iff.mp h
    exact p_so (O.e _ _ _ hx X C)
theorem isB_ok (C : Ctx G Z cl X) {x nm : Str} (h : isB G x nm = true) : x = nm ∧ Gl X nm ∧ X.mg nm = none := by
  unfold isB at h
  simp only [Bool.and_eq_true] at h
  exact ⟨eqS_eq h.1.1, C.gl h.1.2, C.bi _ h.2⟩
theorem ok_P (O : OkTr cl T) (C : Ctx G Z cl X) : ∀ {ks : List (Option Expr)} {vs : List Expr} {c : CL}, trP T G ks vs = some c → PPs X pos ks vs (prs Z X.K cl c) ∧ ks.all (·.isSome) = true ∧ ks.length = vs.length
  | [], [], _, h => by cases h; exact ⟨pps_nil, rfl, rfl⟩
  | [], _ :: _, _, h => by cases h
  | none :: _, _, _, h => by simp [trP] at h
  | some _ :: _, [], _, h => by simp [trP] at h
  | some k :: ks, v :: vs, c, h => by
    rw [trP] at h
    obtain ⟨x, hx, h⟩ := Option.bind_eq_some_iff.mp h
    obtain ⟨y, hy, h⟩ := Option.bind_eq_some_iff.mp h
    obtain ⟨r, hr, rfl⟩ := Option.map_eq_some_iff.mp h
    obtain ⟨h1, h2, h3⟩ := ok_P O C hr
    exact ⟨pps_cons (O.e _ _ _ hx X C) (O.e _ _ _ hy X C) h1, by simpa using h2, by simp [h3]⟩
theorem ok_Ix (O : OkTr cl T) (C : Ctx G Z cl X) {a b : Expr} (hs : isSlice b = false) (h : trIx T G a b = some c) : PE X (.Subscript a b pos) (tE Z X.K cl c) := by
  have plain : ((T.e G a).bind fun x => (T.e G b).map fun y => CE.ix x y) = some c → PE X (.Subscript a b pos) (tE Z X.K cl c) := fun h => by
    obtain ⟨x, hx, h⟩ := Option.bind_eq_some_iff.mp h
    obtain ⟨y, hy, rfl⟩ := Option.map_eq_some_iff.mp h
    exact p_ix C.hu (slice_plain hs) (O.e _ _ _ hx X C) (O.e _ _ _ hy X C)
  unfold trIx at h
  split at h
  · split at h
    · rename_i hd
      split at h
      · rename_i q
        simp only [Bool.and_eq_true, Bool.not_eq_true'] at q
        obtain ⟨⟨g, nd⟩, nn⟩ := q
        obtain ⟨y, hy, rfl⟩ := Option.map_eq_some_iff.mp h
        obtain ⟨u, m, hk⟩ := C.dd _ _ hd
        exact p_kix (C.gl g) m hk (O.e _ _ _ hy X C) (slice_plain hs) (fun z => by rw [z] at nn; exact absurd nn (by decide +kernel)) (noDbg_1 nd)
      · cases h
    · exact plain h
  · exact plain h
theorem ok_AV (O : OkTr cl T) (C : Ctx G Z cl X) {op : BoolOp} : ∀ {es : List Expr} {c : CE}, trAV T G op es = some c → PE X (.BoolOp op es pos) (tE Z X.K cl c)
  | [], _, h => by cases h
  | [a], c, h => pe_one (O.e _ _ _ h X C)
  | a :: b :: r, c, h => by
    rw [trAV] at h
    obtain ⟨x, hx, h⟩ := Option.bind_eq_some_iff.mp h
    obtain ⟨y, hy, rfl⟩ := Option.map_eq_some_iff.mp h
    cases op with
    | And => exact p_andv (O.e _ _ _ hx X C) (ok_AV O C hy)
    | Or => exact p_orv (O.e _ _ _ hx X C) (ok_AV O C hy)
    · simp
theorem ok_AB (O : OkTr cl T) (C : Ctx G Z cl X) {op : BoolOp} : ∀ {es : List Expr} {c : CB}, trAB T G op es = some c → PW X (.BoolOp op es pos) (tB Z X.K cl c)
  | [], _, h => by cases h
  | [a], c, h => by
    cases op with
    | And => exact p_and1 (O.b _ _ _ h X C)
    | Or => exact p_or1 (O.b _ _ _ h X C)
  | a :: b :: r, c, h => by
    rw [trAB] at h
    obtain ⟨x, hx, h⟩ := Option.bind_eq_some_iff.mp h
    obtain ⟨y, hy, rfl⟩ := Option.map_eq_some_iff.mp h
    cases op with
    | And => exact p_and (O.b _ _ _ hx X C) (ok_AB O C hy)
    | Or => exact p_or (O.b _ _ _ hx X C) (ok_AB O C hy)
    · simp
theorem ok_Nms (C : Ctx G Z cl X) : ∀ {es : List Expr} {is : List Nat}, trNms G es = some is → PGs X es (gNs is) ∧ (assignEach es X.env).length = is.length ∧ (assignEach es X.env).findIdx? (·.1) = none
  | [], _, h => by cases h; exact ⟨pgs_nil, rfl, rfl⟩
  | e :: r, is, h => by
    cases e <;> first | cases h | skip
    rename_i x p
    rw [trNms] at h
    by_cases l : G.loc x = true
    · rw [if_pos l] at h
      obtain ⟨i, hi, h⟩ := Option.bind_eq_some_iff.mp h
      obtain ⟨js, hj, rfl⟩ := Option.map_eq_some_iff.mp h
      obtain ⟨h1, h2, h3⟩ := ok_Nms C hj
      obtain ⟨l1, l2⟩ := C.loc l
      refine ⟨pgs_cons (pg_name C.nd (C.ix hi) l1 l2) h1 rfl, ?_, ?_⟩
      · show (assignEach r X.env).length + 1 = _
        rw [h2]; rfl
      · show List.findIdx? (fun x => x.1) ((false, assign (.Name x p) X.env) :: assignEach r X.env) = none
        rw [List.findIdx?_cons]; simp [h3]
    · rw [if_neg l] at h; cases h
theorem ok_NT (C : Ctx G Z cl X) {t : NT} (h : trNT G e = some t) : PG X e (gN X.K t) := by
  cases e <;> first | cases h | skip
  · rename_i x p
    rw [trNT] at h
    by_cases l : G.loc x = true
    · rw [if_pos l] at h
      obtain ⟨i, hi, rfl⟩ := Option.map_eq_some_iff.mp h
      obtain ⟨l1, l2⟩ := C.loc l
      exact pg_name C.nd (C.ix hi) l1 l2
    · rw [if_neg l] at h; cases h
  · rw [trNT] at h
    obtain ⟨is, hi, rfl⟩ := Option.map_eq_some_iff.mp h
    obtain ⟨h1, h2, h3⟩ := ok_Nms C hi
    exact pg_tup C.calm h1 h2 h3
theorem ok_I (O : OkTr cl T) (C : Ctx G Z cl X) {tg iter : Expr} {ci : CI} (h : trI T G tg iter = some ci) : PI X tg iter (tI Z X.K cl ci) := by
  unfold trI at h
  split at h
  · split at h
    · cases h
    · rename_i hs
      rw [Bool.not_eq_true] at hs
      split at h
      · rename_i hb
        obtain ⟨rfl, g, m⟩ := isB_ok C hb
        obtain ⟨x, hx, rfl⟩ := Option.map_eq_some_iff.mp h
        exact i_rng1 g m (O.e _ _ _ hx X C) (star_cons hs)
      · split at h
        · rename_i hb
          rw [Bool.and_eq_true] at hb
          obtain ⟨rfl, g, m⟩ := isB_ok C hb.1
          obtain ⟨x, hx, rfl⟩ := Option.map_eq_some_iff.mp h
          have ht := hb.2
          cases tg <;> first | cases ht | skip
          exact i_enum g m (O.e _ _ _ hx X C) (star_cons hs)
        · split at h
          · rename_i hb
            obtain ⟨rfl, g, m⟩ := isB_ok C hb
            obtain ⟨x, hx, rfl⟩ := Option.map_eq_some_iff.mp h
            exact i_rev g m (O.e _ _ _ hx X C) hs
          · obtain ⟨x, hx, rfl⟩ := Option.map_eq_some_iff.mp h
            exact i_seq (O.e _ _ _ hx X C)
  · split at h
    · cases h
    · rename_i hs
      simp only [Bool.or_eq_true, not_or, Bool.not_eq_true] at hs
      split at h
      · rename_i hb
        obtain ⟨rfl, g, m⟩ := isB_ok C hb
        obtain ⟨x, hx, h⟩ := Option.bind_eq_some_iff.mp h
        obtain ⟨y, hy, rfl⟩ := Option.map_eq_some_iff.mp h
        exact i_rng2 g m (O.e _ _ _ hx X C) (O.e _ _ _ hy X C) hs.1 hs.2
      · obtain ⟨x, hx, rfl⟩ := Option.map_eq_some_iff.mp h
        exact i_seq (O.e _ _ _ hx X C)
  · split at h
    · cases h
    · rename_i hs
      simp only [Bool.or_eq_true, not_or, Bool.not_eq_true] at hs
      split at h
      · rename_i hb
        obtain ⟨rfl, g, m⟩ := isB_ok C hb
        obtain ⟨x, hx, h⟩ := Option.bind_eq_some_iff.mp h
        obtain ⟨y, hy, h⟩ := Option.bind_eq_some_iff.mp h
        obtain ⟨z, hz, rfl⟩ := Option.map_eq_some_iff.mp h
        exact i_rng3 g m (O.e _ _ _ hx X C) (O.e _ _ _ hy X C) (O.e _ _ _ hz X C) hs.1.1 hs.1.2 hs.2
      · obtain ⟨x, hx, rfl⟩ := Option.map_eq_some_iff.mp h
        exact i_seq (O.e _ _ _ hx X C)
  · obtain ⟨x, hx, rfl⟩ := Option.map_eq_some_iff.mp h
    exact i_seq (O.e _ _ _ hx X C)
theorem ok_Ts (O : OkTr cl T) (C : Ctx G Z cl X) : ∀ {es : List Expr} {c : CB}, trTs T G es = some c → PTs X es (tB Z X.K cl c)
  | [], _, h => by cases h; exact pts_nilB
  | [a], c, h => pts_one (O.b _ _ _ h X C)
  | _ :: _ :: _, _, h => by cases h
theorem ok_bi {b : Bi} {p : Pos} {es : List Expr} {cs : CL} (C : Ctx G Z cl X) (hb : b ∈ biAll) (hg : Gl X (biNm b)) (hm : X.mg (biNm b) = none) (ha : PA X (e :: es) (tL Z X.K cl cs)) (hn : nost (e :: es) = true) :
    PE X (.Call (.Name (biNm b) p) (e :: es) [] pos) (tE Z X.K cl (.bi b cs)) := by
  have hn := hn
  unfold nost at hn
  simp only [List.all_cons, Bool.and_eq_true, Bool.not_eq_true'] at hn
  have s1 := star_cons (es := es) (env := X.env) hn.1
  have s2 := star_none (env := X.env) (pos := pos) (es := es) (by simpa using hn.2)
  cases b with
  | len => exact p_biB b_len hg hm (by decide +kernel) ha (by decide +kernel) (by decide +kernel) s1 s2
  | any => exact p_biB (b_any C.calm) hg hm (by decide +kernel) ha (by decide +kernel) (by decide +kernel) s1 s2
  | all => exact p_biB (b_all C.calm) hg hm (by decide +kernel) ha (by decide +kernel) (by decide +kernel) s1 s2
  | sorted => exact p_biB b_sorted hg hm (by decide +kernel) ha (by decide +kernel) (by decide +kernel) s1 s2
  | sum => exact p_biB (b_sum C.calm) hg hm (by decide +kernel) ha (by decide +kernel) (by decide +kernel) s1 s2
  | min => exact p_biB (b_min C.calm) hg hm (by decide +kernel) ha (by decide +kernel) (by decide +kernel) s1 s2
  | max => exact p_biB (b_max C.calm) hg hm (by decide +kernel) ha (by decide +kernel) (by decide +kernel) s1 s2
  | abs => exact p_biB b_abs hg hm (by decide +kernel) ha (by decide +kernel) (by decide +kernel) s1 s2
  | list => exact p_biT b_list hg hm (by decide +kernel) ha (by decide +kernel) (by decide +kernel) s1 s2
  | tuple => exact p_biT b_tuple hg hm (by decide +kernel) ha (by decide +kernel) (by decide +kernel) s1 s2
  | int => exact p_biT b_int hg hm (by decide +kernel) ha (by decide +kernel) (by decide +kernel) s1 s2
  | str => exact absurd hb (by decide)
  | set_ => exact absurd hb (by decide)
theorem ok_LC (O : OkTr cl T) (C : Ctx G Z cl X) {gs : List Comprehension} {scope : Scope} (h : trLC T G e gs scope = some c) : PE X (.ListComp e gs scope pos) (tE Z X.K cl c) := by
  unfold trLC at h
  split at h
  · dsimp only at h
    split at h
    · cases h
    · rename_i hs
      simp only [Bool.or_eq_true, not_or, Bool.not_eq_true, Bool.not_eq_true', Bool.not_eq_false] at hs
      obtain ⟨t, ht, h⟩ := Option.bind_eq_some_iff.mp h
      split at h
      · rename_i sl
        obtain ⟨ci, hi, h⟩ := Option.bind_eq_some_iff.mp h
        obtain ⟨ct, hc, h⟩ := Option.bind_eq_some_iff.mp h
        obtain ⟨ce, he, rfl⟩ := Option.map_eq_some_iff.mp h
        have ok := blkOk_by hs.2
        rw [← C.N, ← C.sc] at ok
        exact p_lc C.calm C.nd (ok_I O C hi) ok (fun _ _ _ _ _ => ok_NT (cl := cl) (Z := Z.z0) (C.blk ok.kind) ht) (fun _ _ _ _ _ => ok_Ts O (C.blk ok.kind) hc) (fun _ _ _ _ _ => O.e _ _ _ he _ (C.blk ok.kind)) hs.1 (subN_eq sl)
      · cases h
  · dsimp only at h
    split at h
    · cases h
    · rename_i hs
      simp only [Bool.or_eq_true, not_or, Bool.not_eq_true, Bool.not_eq_true', Bool.not_eq_false] at hs
      obtain ⟨t, ht, h⟩ := Option.bind_eq_some_iff.mp h
      obtain ⟨t1, ht1, h⟩ := Option.bind_eq_some_iff.mp h
      split at h
      · rename_i sl
        rw [Bool.and_eq_true] at sl
        obtain ⟨ci, hi, h⟩ := Option.bind_eq_some_iff.mp h
        obtain ⟨ct, hc, h⟩ := Option.bind_eq_some_iff.mp h
        obtain ⟨ci1, hi1, h⟩ := Option.bind_eq_some_iff.mp h
        obtain ⟨ct1, hc1, h⟩ := Option.bind_eq_some_iff.mp h
        obtain ⟨ce, he, rfl⟩ := Option.map_eq_some_iff.mp h
        have ok := blkOk_by hs.2
        rw [← C.N, ← C.sc] at ok
        exact p_lc2 C.calm C.nd (ok_I O C hi) ok (fun _ _ _ _ _ => ok_NT (cl := cl) (Z := Z.z0) (C.blk ok.kind) ht) (fun _ _ _ _ _ => ok_Ts O (C.blk ok.kind) hc) (fun _ _ _ _ _ => ok_I O (C.blk ok.kind) hi1)
          (fun _ _ _ _ _ => ok_NT (cl := cl) (Z := Z.z0) (C.blk ok.kind) ht1) (fun _ _ _ _ _ => ok_Ts O (C.blk ok.kind) hc1) (fun _ _ _ _ _ => O.e _ _ _ he _ (C.blk ok.kind)) hs.1.1 hs.1.2 (subN_eq sl.1) (fun _ h => h) (subN_eq sl.2)
      · cases h
  · cases h
end
end Mi

namespace Mi
open PySem L2
section
variable {cl : Cl} {T : Tr} {G : Sg} {Z : XI} {X : Cx} {e : Expr} {c : CE} {pos : Pos}
theorem ok_Call0 (O : OkTr cl T) (C : Ctx G Z cl X) {f : Str} {args : List Expr} {p : Pos} {b : Bi} {c : CE} (hb : (biOf f).bind (fun b => (trL T G args).map (.bi b)) = some c) (ha : args ≠ []) (g : Gl X f) (m : X.mg f = none) (hn : nost args = true) :
    PE X (.Call (.Name f p) args [] pos) (tE Z X.K cl c) := by
  obtain ⟨b, e1, h⟩ := Option.bind_eq_some_iff.mp hb
  obtain ⟨cs, hc, rfl⟩ := Option.map_eq_some_iff.mp h
  obtain ⟨rfl, hb2⟩ := biOf_eq e1
  cases args with
  | nil => exact absurd rfl ha
  | cons x r => exact ok_bi C hb2 g m (ok_L O C hc) hn
theorem ok_CallV (O : OkTr cl T) (C : Ctx G Z cl X) {f : Str} {args : List Expr} {p : Pos} (hv : G.vis f = true) (h : trCallV T G f args = some c) : PE X (.Call (.Name f p) args [] pos) (tE Z X.K cl c) := by
  unfold trCallV at h
  cases args with
  | nil => cases h
  | cons a r =>
    simp only at h
    split at h
    · cases h
    rename_i hs
    simp only [Bool.or_eq_true, not_or, Bool.not_eq_true, Bool.not_eq_true', Bool.not_eq_false] at hs
    obtain ⟨nd, ns⟩ := hs
    obtain ⟨i, hi, h⟩ := Option.bind_eq_some_iff.mp h
    obtain ⟨cs, hc, rfl⟩ := Option.map_eq_some_iff.mp h
    have hn := ns
    unfold nost at hn
    simp only [List.all_cons, Bool.and_eq_true, Bool.not_eq_true'] at hn
    exact p_callv C.df C.dn C.tk (C.ix hi) (C.vis hv) (ok_L O C hc) (noDbg_1 nd) (noDbg_2 nd) (star_cons hn.1) (star_none (by simpa using hn.2))
theorem ok_Call (O : OkTr cl T) (C : Ctx G Z cl X) {f : Str} {args : List Expr} {p : Pos} (h : trCall T G f args = some c) : PE X (.Call (.Name f p) args [] pos) (tE Z X.K cl c) := by
  unfold trCall at h
  split at h
  · cases h
  rename_i hs
  simp only [Bool.or_eq_true, not_or, Bool.not_eq_true, Bool.not_eq_true', Bool.not_eq_false] at hs
  obtain ⟨⟨g, nd⟩, ns⟩ := hs
  have g := C.gl g
  split at h
  · rename_i np hd
    obtain ⟨cs, hc, rfl⟩ := Option.map_eq_some_iff.mp h
    obtain ⟨fa, fd, ps, k, F, r, m, kp, bd, ar⟩ := C.df _ _ hd
    cases args with
    | nil =>
      rw [trL] at hc; cases hc
      exact p_call0 F C.tk r g m kp bd ar (noDbg_1 nd)
    | cons x es =>
      have hn := ns
      unfold nost at hn
      simp only [List.all_cons, Bool.and_eq_true, Bool.not_eq_true'] at hn
      exact p_call F C.tk r g m kp bd ar (ok_L O C hc) (noDbg_1 nd) (star_cons hn.1) (star_none (by simpa using hn.2))
  · split at h
    · cases h
    rename_i hb
    simp only [Bool.not_eq_true, Bool.not_eq_false'] at hb
    have m := C.bi _ (by simpa using hb)
    split at h
    · cases h
    · split at h
      · rename_i q
        simp only [Bool.and_eq_true, Bool.not_eq_true'] at q
        obtain ⟨⟨q1, q2⟩, q3⟩ := q
        obtain ⟨rfl, g1, m1⟩ := isB_ok C q1
        obtain ⟨rfl, g2, m2⟩ := isB_ok C q2
        obtain ⟨x, hx, rfl⟩ := Option.map_eq_some_iff.mp h
        exact p_lrg1 C.calm g2 m2 g1 m1 (O.e _ _ _ hx X C) (star_cons q3)
      · split at h
        · rename_i q
          simp only [Bool.and_eq_true, Bool.not_eq_true'] at q
          obtain ⟨⟨q1, q2⟩, q3⟩ := q
          obtain ⟨rfl, g1, m1⟩ := isB_ok C q1
          obtain ⟨rfl, g2, m2⟩ := isB_ok C q2
          obtain ⟨x, hx, rfl⟩ := Option.map_eq_some_iff.mp h
          exact p_trg1 C.calm g2 m2 g1 m1 (O.e _ _ _ hx X C) (star_cons q3)
        · split at h
          · rename_i q
            simp only [Bool.and_eq_true, Bool.not_eq_true'] at q
            obtain ⟨⟨q1, q2⟩, q3⟩ := q
            obtain ⟨rfl, g1, m1⟩ := isB_ok C q1
            obtain ⟨rfl, g2, m2⟩ := isB_ok C q2
            obtain ⟨x, hx, rfl⟩ := Option.map_eq_some_iff.mp h
            exact p_sset C.calm g2 m2 g1 m1 (O.e _ _ _ hx X C) (star_cons q3)
          · exact ok_Call0 (b := .len) O C h (by simp) g m ns
    · split at h
      · rename_i q
        simp only [Bool.and_eq_true, Bool.not_eq_true'] at q
        obtain ⟨⟨⟨q1, q2⟩, q3⟩, q4⟩ := q
        obtain ⟨rfl, g1, m1⟩ := isB_ok C q1
        obtain ⟨rfl, g2, m2⟩ := isB_ok C q2
        obtain ⟨x, hx, h⟩ := Option.bind_eq_some_iff.mp h
        obtain ⟨y, hy, rfl⟩ := Option.map_eq_some_iff.mp h
        refine p_lrg2 C.calm g2 m2 g1 m1 (O.e _ _ _ hx X C) (O.e _ _ _ hy X C) (star_cons q3) (star_cons q4) (star_none ?_)
        simp [q4]
      · exact ok_Call0 (b := .len) O C h (by simp) g m ns
    · split at h
      · rename_i q
        cases eqS_eq q
        obtain ⟨t, ht, h⟩ := Option.bind_eq_some_iff.mp h
        cases tyOf_eq ht
        split at h
        · rename_i q2
          rw [Bool.and_eq_true] at q2
          obtain ⟨x, hx, rfl⟩ := Option.map_eq_some_iff.mp h
          have hn := ns
          unfold nost at hn
          simp only [List.all_cons, Bool.and_eq_true, Bool.not_eq_true'] at hn
          exact p_isi g m (C.gl q2.1) (C.bi _ q2.2) (by cases t <;> decide +kernel) (by cases t <;> decide +kernel) (by cases t <;> decide +kernel) (O.e _ _ _ hx X C) (star_cons hn.1)
        · cases h
      · exact ok_Call0 (b := .len) O C h (by simp) g m ns
    · rename_i ne _ _ _
      exact ok_Call0 (b := .len) O C h (by assumption) g m ns
theorem ok_Meth (O : OkTr cl T) (C : Ctx G Z cl X) {m : Me} {o : Expr} {co : CE} {args : List Expr} {cs : CL} {apos cpos : Pos} (hm : m ∈ meAll) (ho : PE X o (tE Z X.K cl co)) (ha : trL T G args = some cs) (hc : isCall o = false) (hn : nost args = true) (hl : (apos.endLine == cpos.line) = true) (h9 : args.length < 9) :
    PE X (.Call (.Attribute o (meNm m) apos) args [] cpos) (tE Z X.K cl (.meth m co cs)) := by
  cases args with
  | nil =>
    rw [trL] at ha; cases ha
    cases m with
    | append => exact p_meth0 PySem.F.plainAttrs_list PySem.F.slot_list_append PySem.F.type_list_append m_append ho (fun _ _ => rfl) (base_ok hc) hl
    | pop => exact p_meth0 PySem.F.plainAttrs_list PySem.F.slot_list_pop PySem.F.type_list_pop m_pop ho (fun _ _ => rfl) (base_ok hc) hl
    | get => exact p_meth0 PySem.F.plainAttrs_dict PySem.F.slot_dict_get PySem.F.type_dict_get (m_get C.hu) ho (fun _ _ => rfl) (base_ok hc) hl
    | extend => exact p_meth0 PySem.F.plainAttrs_list PySem.F.slot_list_extend PySem.F.type_list_extend m_extend ho (fun _ _ => rfl) (base_ok hc) hl
    | index => exact p_index0 ho (base_ok hc) hl
    | _ => exact absurd hm (by decide)
  | cons e es =>
    have hn' := hn
    unfold nost at hn
    simp only [List.all_cons, Bool.and_eq_true, Bool.not_eq_true'] at hn
    have few : ((backTo cpos (starEach (e :: es) X.env)).all (fun x => !x.1) && (backToKw cpos (keywordEach [] X.env)).all (fun x => x.1.isSome)
      && decide ((e :: es).length + ([] : List Keyword).length + (if ([] : List Keyword).isEmpty then 0 else 1) < 30)) = true := by
      rw [star_all (by exact hn')]
      simp [keywordEach, backToKw]
      simp at h9
      omega
    have s1 := star_cons (es := es) (env := X.env) hn.1
    have s2 := star_none (env := X.env) (pos := cpos) (es := es) (by simpa using hn.2)
    cases m with
    | append => exact p_meth PySem.F.plainAttrs_list PySem.F.slot_list_append PySem.F.type_list_append m_append ho (ok_L O C ha) (fun _ _ => rfl) (base_ok hc) few hl s1 s2
    | pop => exact p_meth PySem.F.plainAttrs_list PySem.F.slot_list_pop PySem.F.type_list_pop m_pop ho (ok_L O C ha) (fun _ _ => rfl) (base_ok hc) few hl s1 s2
    | get => exact p_meth PySem.F.plainAttrs_dict PySem.F.slot_dict_get PySem.F.type_dict_get (m_get C.hu) ho (ok_L O C ha) (fun _ _ => rfl) (base_ok hc) few hl s1 s2
    | extend => exact p_meth PySem.F.plainAttrs_list PySem.F.slot_list_extend PySem.F.type_list_extend m_extend ho (ok_L O C ha) (fun _ _ => rfl) (base_ok hc) few hl s1 s2
    | index => exact p_index ho (ok_L O C ha) (base_ok hc) few hl s1 s2
    | _ => exact absurd hm (by decide)
theorem ok_E (O : OkTr cl T) (C : Ctx G Z cl X) (h : trE T G e = some c) : PE X e (tE Z X.K cl c) := by
  unfold trE at h
  split at h
  · -- a name
    split at h
    · cases h
    rename_i nd
    simp only [Bool.not_eq_true, Bool.not_eq_false'] at nd
    split at h
    · rename_i v
      obtain ⟨i, hi, rfl⟩ := Option.map_eq_some_iff.mp h
      exact p_var (C.ix hi) (C.vis v) (noDbg_1 nd) (noDbg_2 nd)
    · split at h
      · rename_i g
        obtain ⟨d, hd, rfl⟩ := Option.map_eq_some_iff.mp h
        obtain ⟨u, v, m, rv, rp⟩ := C.cn _ _ hd
        exact p_lit (pe_glob (C.gl g) m rv (noDbg_1 nd)) rp
      · cases h
  · obtain ⟨d, hd, rfl⟩ := Option.map_eq_some_iff.mp h
    exact ok_C hd
  · split at h
    · rename_i ok
      obtain ⟨x, hx, h⟩ := Option.bind_eq_some_iff.mp h
      obtain ⟨y, hy, rfl⟩ := Option.map_eq_some_iff.mp h
      exact p_bin ok (O.e _ _ _ hx X C) (O.e _ _ _ hy X C)
    · cases h
  · obtain ⟨x, hx, rfl⟩ := Option.map_eq_some_iff.mp h
    exact p_neg (O.e _ _ _ hx X C)
  · obtain ⟨x, hx, rfl⟩ := Option.map_eq_some_iff.mp h
    exact p_notv (O.e _ _ _ hx X C)
  · split at h
    · cases h
    rename_i hs
    obtain ⟨x, hx, h⟩ := Option.bind_eq_some_iff.mp h
    obtain ⟨y, hy, rfl⟩ := Option.map_eq_some_iff.mp h
    exact p_cmp C.hu (marks (by simpa using hs)) (O.e _ _ _ hx X C) (O.e _ _ _ hy X C)
  · split at h
    · cases h
    rename_i hs
    obtain ⟨x, hx, h⟩ := Option.bind_eq_some_iff.mp h
    obtain ⟨y, hy, h⟩ := Option.bind_eq_some_iff.mp h
    obtain ⟨z, hz, rfl⟩ := Option.map_eq_some_iff.mp h
    exact p_chain C.hu (marks2 (by simpa using hs)) (O.e _ _ _ hx X C) (O.e _ _ _ hy X C) (O.e _ _ _ hz X C)
  · exact ok_AV O C h
  · obtain ⟨t, ht, h⟩ := Option.bind_eq_some_iff.mp h
    obtain ⟨x, hx, h⟩ := Option.bind_eq_some_iff.mp h
    obtain ⟨y, hy, rfl⟩ := Option.map_eq_some_iff.mp h
    exact p_ife (O.b _ _ _ ht X C) (O.e _ _ _ hx X C) (O.e _ _ _ hy X C)
  · obtain ⟨x, hx, rfl⟩ := Option.map_eq_some_iff.mp h
    exact p_tup (ok_L O C hx)
  · obtain ⟨x, hx, rfl⟩ := Option.map_eq_some_iff.mp h
    exact p_lst (ok_L O C hx)
  · cases h
    exact p_dct0
  · split at h
    · rename_i hl
      obtain ⟨x, hx, rfl⟩ := Option.map_eq_some_iff.mp h
      obtain ⟨h1, h2, h3⟩ := ok_P O C hx
      have hl := of_decide_eq_true hl
      exact p_dct h1 h2 h3 C.hu (by simp) (by simp only [List.length_cons]; omega)
    · cases h
  · obtain ⟨x, hx, rfl⟩ := Option.map_eq_some_iff.mp h
    exact p_rev (O.e _ _ _ hx X C)
  · obtain ⟨x, hx, h⟩ := Option.bind_eq_some_iff.mp h
    obtain ⟨y, hy, h⟩ := Option.bind_eq_some_iff.mp h
    obtain ⟨z, hz, rfl⟩ := Option.map_eq_some_iff.mp h
    exact p_slice (O.e _ _ _ hx X C) (ok_O O C hy) (ok_O O C hz)
  · split at h
    · cases h
    rename_i hs
    exact ok_Ix O C (by simpa using hs) h
  · split at h
    · rename_i hv; exact ok_CallV O C hv h
    · exact ok_Call O C h
  · split at h
    · cases h
    rename_i hs
    simp only [Bool.or_eq_true, not_or, Bool.not_eq_true, Bool.not_eq_true', Bool.not_eq_false, decide_eq_false_iff_not, Decidable.not_not] at hs
    obtain ⟨m, hm, h⟩ := Option.bind_eq_some_iff.mp h
    obtain ⟨x, hx, h⟩ := Option.bind_eq_some_iff.mp h
    obtain ⟨y, hy, rfl⟩ := Option.map_eq_some_iff.mp h
    obtain ⟨rfl, hm2⟩ := meOf_eq hm
    exact ok_Meth O C hm2 (O.e _ _ _ hx X C) hy hs.1.1.1 hs.1.1.2 hs.1.2 hs.2
  · exact ok_LC O C h
  · cases h
theorem ok_B (O : OkTr cl T) (C : Ctx G Z cl X) {c : CB} (h : trB T G e = some c) : PT X e (tB Z X.K cl c) := by
  unfold trB at h
  split at h
  · obtain ⟨x, hx, rfl⟩ := Option.map_eq_some_iff.mp h
    exact p_notB (O.b _ _ _ hx X C)
  · exact (ok_AB O C h).pt
  · split at h
    · cases h
    rename_i hs
    obtain ⟨x, hx, h⟩ := Option.bind_eq_some_iff.mp h
    obtain ⟨y, hy, rfl⟩ := Option.map_eq_some_iff.mp h
    exact p_cmpB C.hu (marks (by simpa using hs)) (O.e _ _ _ hx X C) (O.e _ _ _ hy X C)
  · split at h
    · cases h
    rename_i hs
    obtain ⟨x, hx, h⟩ := Option.bind_eq_some_iff.mp h
    obtain ⟨y, hy, h⟩ := Option.bind_eq_some_iff.mp h
    obtain ⟨z, hz, rfl⟩ := Option.map_eq_some_iff.mp h
    exact p_chainB C.hu (marks2 (by simpa using hs)) (O.e _ _ _ hx X C) (O.e _ _ _ hy X C) (O.e _ _ _ hz X C)
  · split at h
    · rename_i hp
      obtain ⟨x, hx, rfl⟩ := Option.map_eq_some_iff.mp h
      exact p_truth (O.e _ _ _ hx X C) (plainT hp)
    · cases h
end
end Mi

namespace Mi
open PySem L2
/-! ## the translator: statements -/
def isName : Expr → Bool
  | .Name _ _ => true
  | _ => false
def isTup : Expr → Bool
  | .Tuple _ _ _ => true
  | _ => false
theorem sw_other {ts : List Expr} {k : Nat} {pt : Pos} {e : Expr} {env : Env} (h : isTup e = false) : swappedStores [.Tuple ts k pt] e env = pure none := by
  cases e <;> first | rfl | cases h
theorem fm_short {α β : Type} {f : α → Option β} : ∀ {l : List α}, (∃ t ∈ l, f t = none) → (l.filterMap f).length < l.length
  | [], h => by obtain ⟨_, h, _⟩ := h; cases h
  | x :: r, h => by
    rw [List.filterMap_cons]
    cases e : f x with
    | none => exact Nat.lt_succ_of_le (List.length_filterMap_le _ _)
    | some y =>
      obtain ⟨t, ht, q⟩ := h
      rcases List.mem_cons.mp ht with ht | ht
      · rw [← ht, q] at e; cases e
      · exact Nat.succ_lt_succ (fm_short ⟨t, ht, q⟩)
theorem sw_non {ts vs : List Expr} {k k2 : Nat} {pt pt2 : Pos} {env : Env} (h : (ts.any (fun t => !isName t) || vs.all (foldedForSure 8)) = true) : swappedStores [.Tuple ts k pt] (.Tuple vs k2 pt2) env = pure none := by
  show (if (!(ts.length == 2 || ts.length == 3) || vs.length != ts.length || env.blockKind != .function) = true then pure none else _ : Sem (Option (List Str))) = pure none
  split
  · rfl
  split
  · rfl
  dsimp only
  split
  · rfl
  rename_i hn
  rw [Bool.or_eq_true] at h
  rcases h with h | h
  · exfalso
    apply hn
    obtain ⟨t, ht, hq⟩ := List.any_eq_true.mp h
    rw [Bool.or_eq_true]
    left
    rw [bne_iff_ne]
    refine Nat.ne_of_lt (fm_short ⟨t, ht, ?_⟩)
    cases t <;> first | rfl | cases hq
  · rw [if_pos h]
def parOk (G : Sg) (vs : List Expr) : Bool := nost vs && !vs.all (foldedForSure 8) && !vs.all (constantsAlone 8)
theorem sw_two {a b : Expr} {x y : Str} {px py pt pt2 : Pos} {k k2 : Nat} {env : Env} (hk : env.blockKind = .function) (hx : env.scope.names.lookup x = some .local) (hy : env.scope.names.lookup y = some .local) (hxy : x ≠ y) (hl : (py.line == px.line) = true)
    (h : parOk G [a, b] = true) : swappedStores [.Tuple [.Name x px, .Name y py] k pt] (.Tuple [a, b] k2 pt2) env = pure (some [x, y]) := by
  unfold parOk at h
  simp only [Bool.and_eq_true, Bool.not_eq_true'] at h
  obtain ⟨⟨h1, h2⟩, h3⟩ := h
  have hst : ([a, b].any fun | .Starred .. => true | _ => false) = false := by
    unfold nost at h1
    simp only [List.all_cons, List.all_nil, Bool.and_true, Bool.and_eq_true, Bool.not_eq_true'] at h1
    simp only [List.any_cons, List.any_nil, Bool.or_false, Bool.or_eq_false_iff]
    constructor
    · cases a <;> first | rfl | (exact absurd h1.1 (by simp [isStar]))
    · cases b <;> first | rfl | (exact absurd h1.2 (by simp [isStar]))
  have hy' : (y == x) = false := by simpa using (Ne.symm hxy)
  have hnm : ([Expr.Name x px, .Name y py].filterMap fun
    | .Name id pos => if env.kindOf id == some .local && pos.line == px.line then some id else none
    | _ => none) = [x, y] := by
    have e1 : env.kindOf x = some .local := hx
    have e2 : env.kindOf y = some .local := hy
    have hl' : py.line = px.line := by simpa using hl
    simp [List.filterMap_cons, e1, e2, hl']
  have key : (([Expr.Name x px, .Name y py].filterMap fun
    | .Name id pos => if env.kindOf id == some .local && pos.line == px.line then some id else none
    | _ => none).length != 2 || ([Expr.Name x px, .Name y py].filterMap fun
    | .Name id pos => if env.kindOf id == some .local && pos.line == px.line then some id else none
    | _ => none).eraseDups.length != ([Expr.Name x px, .Name y py].filterMap fun
    | .Name id pos => if env.kindOf id == some .local && pos.line == px.line then some id else none
    | _ => none).length) = false := by
    rw [hnm]
    simp [List.eraseDups_cons, hy']
  have hb : (!((2 : Nat) == 2 || (2 : Nat) == 3) || (2 : Nat) != 2 || env.blockKind != .function) = false := by rw [hk]; rfl
  show (if (!((2 : Nat) == 2 || (2 : Nat) == 3) || (2 : Nat) != 2 || env.blockKind != .function) = true then pure none else
    if ([a, b].any fun | .Starred .. => true | _ => false) = true then pure none else
    if (([Expr.Name x px, .Name y py].filterMap fun
      | .Name id pos => if env.kindOf id == some .local && pos.line == px.line then some id else none
      | _ => none).length != 2 || ([Expr.Name x px, .Name y py].filterMap fun
      | .Name id pos => if env.kindOf id == some .local && pos.line == px.line then some id else none
      | _ => none).eraseDups.length != ([Expr.Name x px, .Name y py].filterMap fun
      | .Name id pos => if env.kindOf id == some .local && pos.line == px.line then some id else none
      | _ => none).length) = true then pure none else
    if [a, b].all (foldedForSure 8) = true then pure none else
    if [a, b].all (constantsAlone 8) = true then (do unsupported "assign.tuple-of-constant-expressions:order-of-the-stores"; pure (some _)) else pure (some ([Expr.Name x px, .Name y py].filterMap fun
      | .Name id pos => if env.kindOf id == some .local && pos.line == px.line then some id else none
      | _ => none)) : Sem (Option (List Str))) = pure (some [x, y])
  rw [hb, if_neg Bool.false_ne_true, hst, if_neg Bool.false_ne_true, key, if_neg Bool.false_ne_true, h2, if_neg Bool.false_ne_true, h3, if_neg Bool.false_ne_true, hnm]
end Mi

namespace Mi
open PySem L2
def trAT (T : Tr) (G : Sg) : Expr → Option AT
  | .Name x _ => if G.loc x then (G.ix x).map .nm else none
  | .Subscript o i _ => if isSlice i then none else (T.e G o).bind fun a => (T.e G i).map fun b => .sub a b
  | _ => none
def trATs (T : Tr) (G : Sg) : List Expr → Option (List AT)
  | [] => some []
  | t :: r => (trAT T G t).bind fun a => (trATs T G r).map fun as => a :: as
def trSs (T : Tr) (G : Sg) : List Stmt → Option CSs
  | [] => some .nil
  | s :: r => (T.s G s).bind fun x => (trSs T G r).map fun y => .cons x y
/-- the value of the assignment swaps with its one name -/
def swB (G : Sg) (scope : Scope) (y : Str) (py lp : Pos) : Bool := G.isLoc y && py.line == lp.line && !(scope.names.any fun (n, k) => n == y && (k == .local || k == .cell))
/-! ### what an except suite says -/
def trXL (f : Expr → Option XE) (op : BoolOp) : List Expr → Option XE
  | [] => none
  | [a] => f a
  | a :: r => (f a).bind fun x => (trXL f op r).map fun y => match op with | .And => .and_ x y | .Or => .or_ x y
def trXB (G : Sg) (n : Str) : Nat → Expr → Option XE
  | 0, _ => none
  | k + 1, .UnaryOp .Not a _ => (trXB G n k a).map .not_
  | k + 1, .BoolOp op es _ => trXL (trXB G n k) op es
  | k + 1, .Call (.Name f _) [.Name m _, .Name y _] [] _ => if isB G f "isinstance" && eqS m n && G.gl y && noDbg y then (G.ex y).map .isi else none
  | _ + 1, _ => none
def trXE (G : Sg) (n : Str) : Nat → Expr → Option XE
  | 0, _ => none
  | k + 1, .Attribute (.Name m _) f _ => if eqS m n && okFld f then some (.fld f) else none
  | k + 1, .Constant c _ _ => (trC c).map .lit
  | k + 1, .IfExp c a b _ => (trXB G n 20 c).bind fun x => (trXE G n k a).bind fun y => (trXE G n k b).map fun z => .ife x y z
  | k + 1, .Tuple [a, b] _ _ => if isStar a || isStar b then none else (trXE G n k a).bind fun x => (trXE G n k b).map fun y => .tup x y
  | _ + 1, _ => none
def trXS (G : Sg) (n : Str) : List Stmt → Option XS
  | [.Return (some e) _] => (trXE G n 20 e).map .ret
  | .If c [.Return (some e) _] [] _ :: r => (trXB G n 20 c).bind fun x => (trXE G n 20 e).bind fun y => (trXS G n r).map fun z => .ifr x y z
  | [.Expr (.Call (.Attribute (.Name t _) m apos) [e] [] cpos) _] => if eqS m "append" && G.vis t && noDbg t && !isStar e && (apos.endLine == cpos.line) then (G.ix t).bind fun j => (trXE G n 20 e).map fun x => .app j x else none
  | _ => none
def trS (T : Tr) (G : Sg) (st : Stmt) : Option CS := match st with
  | .Expr (.Constant (.str _) _ _) _ => some .pass
  | .Expr e _ => if isComp e then none else (T.e G e).map .ex
  | .Return (some e) _ => (T.e G e).map .ret
  | .Return none _ => some .retn
  | .Pass _ => some .pass
  | .Break _ => some .brk
  | .Continue _ => some .cont
  | .If c a b _ => (T.b G c).bind fun t => (trSs T G a).bind fun x => (trSs T G b).map fun y => .ifs t x y
  | .While c b [] _ => (T.b G c).bind fun t => (trSs T G b).map fun x => .while_ t x
  | .For tg it b [] _ => if isSet it then none else (trNT G tg).bind fun t => (trI T G tg it).bind fun i => (trSs T G b).map fun x => .for_ t i x
  | .AugAssign (.Name x _) op e _ => if augOk op && G.loc x then (G.ix x).bind fun i => (T.e G e).map fun y => .aug i op y else none
  | .Assign [.Name y py] (.ListComp elt gs scope lp) _ =>
    if swB G scope y py lp then (G.ix y).bind fun i => (trLC T G elt gs scope).map fun c => .asg (.nm i) c
    else if !(py.line == lp.line) && G.loc y then (G.ix y).bind fun i => (trLC T G elt gs scope).map fun c => .asg (.nm i) c
    else none
  | .Assign [.Name y _] e _ => if isComp e || !G.loc y then none else (G.ix y).bind fun i => (T.e G e).map fun c => .asg (.nm i) c
  | .Assign [.Subscript o i p] e _ => (trAT T G (.Subscript o i p)).bind fun a => (T.e G e).map fun c => .asg a c
  | .Assign [.Tuple [.Name x px, .Name y py] _ _] (.Tuple [a, b] k p) _ =>
    if parOk G [a, b] then
      if G.isLoc x && G.isLoc y && py.line == px.line then (G.ix x).bind fun i => (G.ix y).bind fun j => if Nat.beq i j then none else (trL T G [a, b]).map fun c => .par [i, j] c else none
    else if !([a, b].all (foldedForSure 8)) then none
    else (trATs T G [.Name x px, .Name y py]).bind fun as => (T.e G (.Tuple [a, b] k p)).map fun c => .asgT as c
  | .Assign [.Tuple ts _ _] (.Tuple vs k p) _ => if !(ts.any (fun t => !isName t) || vs.all (foldedForSure 8)) || !nost ts then none else (trATs T G ts).bind fun as => (T.e G (.Tuple vs k p)).map fun c => .asgT as c
  | .Assign [.Tuple ts _ _] e _ => if isTup e || isComp e || !nost ts then none else (trATs T G ts).bind fun as => (T.e G e).map fun c => .asgT as c
  | .Raise (some (.Call (.Name c _) [e] [] _)) none _ => if G.gl c && noDbg c && !isStar e then (G.rs c).bind fun fl => (T.e G e).map fun x => .raise_ c fl x else none
  | .Try b [.ExceptHandler (some (.Name x _)) (some n) (b₀ :: suite) _] [] [] _ => if G.top && G.isLoc n && noDbg n && G.gl x && noDbg x then (G.ix n).bind fun i => (G.ex x).bind fun ks => (trSs T G b).bind fun cb => (trXS G n (b₀ :: suite)).map fun s => .try_ cb i ks s else none
  | _ => none
section
variable {X : Cx} {Z : XI} {cl : Cl} {G : Sg} {a : Addr} {oe : Obj} {cls : Value} {d : Option Addr} {pn : List (Addr × Obj)} {i : Nat} {n : Str} {pos : Pos}
theorem ok_XL {f : Expr → Option XE} (hf : ∀ e x, f e = some x → PT (X.suite a ((a, oe) :: pn)) e (tXB X.K X.mg a cls d i x)) {op : BoolOp} : ∀ {es : List Expr} {x : XE}, trXL f op es = some x → PW (X.suite a ((a, oe) :: pn)) (.BoolOp op es pos) (tXB X.K X.mg a cls d i x)
  | [], _, h => by cases h
  | [e], x, h => by
    cases op with
    | And => exact x_and1 (hf _ _ h)
    | Or => exact x_or1 (hf _ _ h)
  | e :: e2 :: r, x, h => by
    rw [trXL] at h
    obtain ⟨u, hu, h⟩ := Option.bind_eq_some_iff.mp h
    obtain ⟨v, hv, rfl⟩ := Option.map_eq_some_iff.mp h
    cases op with
    | And => exact x_and (hf _ _ hu) (ok_XL hf hv)
    | Or => exact x_or (hf _ _ hu) (ok_XL hf hv)
    · simp
theorem ok_XB (C : Ctx G Z cl X) (hi : X.N[i]? = some n) (hv : Vis X.env.scope n) (nd : noDbg n = true) (hz : Zc cls d oe) (hf : ∃ vs, oe.data = .fields vs) : ∀ {k : Nat} {e : Expr} {x : XE}, trXB G n k e = some x → PT (X.suite a ((a, oe) :: pn)) e (tXB X.K X.mg a cls d i x)
  | 0, _, _, h => by cases h
  | k + 1, e, x, h => by
    unfold trXB at h
    split at h
    · cases ‹_ + 1 = _›
    · cases ‹_ + 1 = _›
      obtain ⟨u, hu, rfl⟩ := Option.map_eq_some_iff.mp h
      exact x_not (ok_XB C hi hv nd hz hf hu)
    · cases ‹_ + 1 = _›
      exact (ok_XL (fun e x h => ok_XB C hi hv nd hz hf h) h).pt
    · cases ‹_ + 1 = _›
      split at h
      · rename_i q
        simp only [Bool.and_eq_true] at q
        obtain ⟨⟨⟨q1, q2⟩, q3⟩, q4⟩ := q
        obtain ⟨rfl, g1, m1⟩ := isB_ok C q1
        cases eqS_eq q2
        obtain ⟨tab, ht, rfl⟩ := Option.map_eq_some_iff.mp h
        exact x_isi (C.ex _ _ ht) g1 m1 hi hv (noDbg_1 nd) (noDbg_2 nd) (C.gl q3) (noDbg_1 q4) hz hf
      · cases h
    · cases h
theorem ok_XC {k : Const} {D0 : D} {j : Nat} (h : trC k = some D0) : PE (X.suite a ((a, oe) :: pn)) (.Constant k j pos) (tX X.K X.mg a cls d i (.lit D0)) := by
  cases k <;> first | cases h | skip
  · exact x_lit pe_non fun _ _ => .non
  · exact x_lit pe_bl fun _ _ => .bl _
  · exact x_lit pe_int fun _ _ => .int _
  · exact x_lit pe_str fun _ _ => .str _
theorem ok_XE (C : Ctx G Z cl X) (hi : X.N[i]? = some n) (hv : Vis X.env.scope n) (nd : noDbg n = true) (hz : Zc cls d oe) (hf : ∃ vs, oe.data = .fields vs) : ∀ {k : Nat} {e : Expr} {x : XE}, trXE G n k e = some x → PE (X.suite a ((a, oe) :: pn)) e (tX X.K X.mg a cls d i x)
  | 0, _, _, h => by cases h
  | k + 1, e, x, h => by
    unfold trXE at h
    split at h
    · cases ‹_ + 1 = _›
    · cases ‹_ + 1 = _›
      split at h
      · rename_i q
        rw [Bool.and_eq_true] at q
        cases eqS_eq q.1
        cases h
        exact x_fld hi hv (noDbg_1 nd) (noDbg_2 nd) q.2 hz hf
      · cases h
    · cases ‹_ + 1 = _›
      obtain ⟨D0, hd, rfl⟩ := Option.map_eq_some_iff.mp h
      exact ok_XC hd
    · cases ‹_ + 1 = _›
      obtain ⟨u, hu, h⟩ := Option.bind_eq_some_iff.mp h
      obtain ⟨v, hv2, h⟩ := Option.bind_eq_some_iff.mp h
      obtain ⟨w, hw, rfl⟩ := Option.map_eq_some_iff.mp h
      exact x_ife (ok_XB C hi hv nd hz hf hu) (ok_XE C hi hv nd hz hf hv2) (ok_XE C hi hv nd hz hf hw)
    · cases ‹_ + 1 = _›
      split at h
      · cases h
      · rename_i q
        simp only [Bool.or_eq_true, not_or, Bool.not_eq_true] at q
        obtain ⟨u, hu, h⟩ := Option.bind_eq_some_iff.mp h
        obtain ⟨v, hv2, rfl⟩ := Option.map_eq_some_iff.mp h
        exact x_tup (ok_XE C hi hv nd hz hf hu) (ok_XE C hi hv nd hz hf hv2) q.1 q.2
    · cases h
theorem ok_XS (C : Ctx G Z cl X) (hi : X.N[i]? = some n) (hv : Vis X.env.scope n) (nd : noDbg n = true) (hz : Zc cls d oe) (hf : ∃ vs, oe.data = .fields vs) : ∀ {ss : List Stmt} {s : XS}, trXS G n ss = some s → PSs (X.suite a ((a, oe) :: pn)) ss (tXs X.K Z a cls d i s) := by
  intro ss
  induction ss with
  | nil => intro s h; cases h
  | cons st r ih =>
    intro s h
    unfold trXS at h
    split at h
    · rename_i e1
      cases e1
      obtain ⟨u, hu, rfl⟩ := Option.map_eq_some_iff.mp h
      exact xs_ret C.zm (ok_XE C hi hv nd hz hf hu)
    · rename_i e1
      cases e1
      obtain ⟨u, hu, h⟩ := Option.bind_eq_some_iff.mp h
      obtain ⟨v, hv2, h⟩ := Option.bind_eq_some_iff.mp h
      obtain ⟨w, hw, rfl⟩ := Option.map_eq_some_iff.mp h
      exact xs_if C.zm (ok_XB C hi hv nd hz hf hu) (ok_XE C hi hv nd hz hf hv2) (ih hw)
    · rename_i e1
      cases e1
      split at h
      · rename_i q
        simp only [Bool.and_eq_true, Bool.not_eq_true'] at q
        obtain ⟨⟨⟨⟨q1, q2⟩, q3⟩, q4⟩, q5⟩ := q
        obtain ⟨j, hj, h⟩ := Option.bind_eq_some_iff.mp h
        obtain ⟨x, hx, rfl⟩ := Option.map_eq_some_iff.mp h
        cases eqS_eq q1
        exact xs_app C.zm (C.ix hj) (C.vis q2) (noDbg_1 q3) (noDbg_2 q3) (ok_XE C hi hv nd hz hf hx) q4 q5 rfl
      · cases h
    · cases h
end
section
variable {cl : Cl} {T : Tr} {G : Sg} {Z : XI} {X : Cx} {e : Expr} {pos : Pos}
theorem sub_asg {o i : Expr} {env : Env} (h : isSlice i = false) (v : Value) : assign (.Subscript o i pos) env v = (do
      let ov ← holding [v] (eval o env)
      let iv ← holding [v, ov] (eval i env)
      standAt pos
      holding [v, ov, iv] (setItem ov iv v)
      release [v, ov, iv] []) := by
  cases i <;> first | rfl | cases h
theorem ok_AT (O : OkTr cl T) (C : Ctx G Z cl X) {t : AT} (h : trAT T G e = some t) : PG X e (tA Z X.K cl t) ∧ isStar e = false := by
  unfold trAT at h
  split at h
  · split at h
    · rename_i l
      obtain ⟨i, hi, rfl⟩ := Option.map_eq_some_iff.mp h
      obtain ⟨l1, l2⟩ := C.loc l
      exact ⟨g_nm C.nd (C.ix hi) l1 l2, rfl⟩
    · cases h
  · split at h
    · cases h
    · rename_i hs
      obtain ⟨a, ha, h⟩ := Option.bind_eq_some_iff.mp h
      obtain ⟨b, hb, rfl⟩ := Option.map_eq_some_iff.mp h
      exact ⟨g_sub C.hu (O.e _ _ _ ha X C) (O.e _ _ _ hb X C) (sub_asg (by simpa using hs)), rfl⟩
  · cases h
theorem ok_ATs (O : OkTr cl T) (C : Ctx G Z cl X) : ∀ {es : List Expr} {ts : List AT}, trATs T G es = some ts → PGs X es (tAs Z X.K cl ts) ∧ nost es = true ∧ es.length = ts.length
  | [], _, h => by cases h; exact ⟨gs_nil, rfl, rfl⟩
  | t :: r, _, h => by
    rw [trATs] at h
    obtain ⟨a, ha, h⟩ := Option.bind_eq_some_iff.mp h
    obtain ⟨as, hs, rfl⟩ := Option.map_eq_some_iff.mp h
    obtain ⟨g, s⟩ := ok_AT O C ha
    obtain ⟨gs, ns, l⟩ := ok_ATs O C hs
    refine ⟨gs_cons g gs (by rw [asg_cons s]; rfl), ?_, by rw [List.length_cons, List.length_cons, l]⟩
    unfold nost at ns ⊢
    rw [List.all_cons, ns, s]; rfl
theorem ok_Ss (O : OkTr cl T) (C : Ctx G Z cl X) : ∀ {ss : List Stmt} {cs : CSs}, trSs T G ss = some cs → PSs X ss (tSs Z X.K cl cs)
  | [], _, h => by cases h; exact s_nil
  | s :: r, _, h => by
    rw [trSs] at h
    obtain ⟨a, ha, h⟩ := Option.bind_eq_some_iff.mp h
    obtain ⟨as, hs, rfl⟩ := Option.map_eq_some_iff.mp h
    exact s_cons (O.s _ _ _ ha X C) (ok_Ss O C hs)
theorem ok_LCs (O : OkTr cl T) (C : Ctx G Z cl X) {gs : List Comprehension} {scope : Scope} {c : CE} {y : Str} {py lp : Pos} {k : Nat} (hk : X.N[k]? = some y) (sw : swB G scope y py lp = true) (h : trLC T G e gs scope = some c) :
    PS X (.Assign [.Name y py] (.ListComp e gs scope lp) pos) (tS Z X.K cl (.asg (.nm k) c)) := by
  unfold swB at sw
  simp only [Bool.and_eq_true, Bool.not_eq_true'] at sw
  obtain ⟨⟨sw1, sw2⟩, sw3⟩ := sw
  have hy := C.isLoc sw1
  have hsw : ∀ gs, swapsWith (.ListComp e gs scope lp) (some (.Name y py)) pos.line X.env = pure true := fun gs => sw_true C.kind hy sw2 sw3
  unfold trLC at h
  split at h
  · dsimp only at h
    split at h
    · cases h
    · rename_i hs
      simp only [Bool.or_eq_true, not_or, Bool.not_eq_true, Bool.not_eq_true', Bool.not_eq_false] at hs
      obtain ⟨t, ht, h⟩ := Option.bind_eq_some_iff.mp h
      split at h
      · rename_i sl
        obtain ⟨ci, hi, h⟩ := Option.bind_eq_some_iff.mp h
        obtain ⟨ct, hc, h⟩ := Option.bind_eq_some_iff.mp h
        obtain ⟨ce, he, rfl⟩ := Option.map_eq_some_iff.mp h
        have ok := blkOk_by hs.2
        rw [← C.N, ← C.sc] at ok
        exact s_setLc hk hy (hsw _) C.calm C.nd (ok_I O C hi) ok (fun _ _ _ _ _ => ok_NT (cl := cl) (Z := Z.z0) (C.blk ok.kind) ht) (fun _ _ _ _ _ => ok_Ts O (C.blk ok.kind) hc) (fun _ _ _ _ _ => O.e _ _ _ he _ (C.blk ok.kind)) hs.1 (subN_eq sl)
      · cases h
  · dsimp only at h
    split at h
    · cases h
    · rename_i hs
      simp only [Bool.or_eq_true, not_or, Bool.not_eq_true, Bool.not_eq_true', Bool.not_eq_false] at hs
      obtain ⟨t, ht, h⟩ := Option.bind_eq_some_iff.mp h
      obtain ⟨t1, ht1, h⟩ := Option.bind_eq_some_iff.mp h
      split at h
      · rename_i sl
        rw [Bool.and_eq_true] at sl
        obtain ⟨ci, hi, h⟩ := Option.bind_eq_some_iff.mp h
        obtain ⟨ct, hc, h⟩ := Option.bind_eq_some_iff.mp h
        obtain ⟨ci1, hi1, h⟩ := Option.bind_eq_some_iff.mp h
        obtain ⟨ct1, hc1, h⟩ := Option.bind_eq_some_iff.mp h
        obtain ⟨ce, he, rfl⟩ := Option.map_eq_some_iff.mp h
        have ok := blkOk_by hs.2
        rw [← C.N, ← C.sc] at ok
        exact s_setLc2 hk hy (hsw _) C.calm C.nd (ok_I O C hi) ok (fun _ _ _ _ _ => ok_NT (cl := cl) (Z := Z.z0) (C.blk ok.kind) ht) (fun _ _ _ _ _ => ok_Ts O (C.blk ok.kind) hc) (fun _ _ _ _ _ => ok_I O (C.blk ok.kind) hi1)
          (fun _ _ _ _ _ => ok_NT (cl := cl) (Z := Z.z0) (C.blk ok.kind) ht1) (fun _ _ _ _ _ => ok_Ts O (C.blk ok.kind) hc1) (fun _ _ _ _ _ => O.e _ _ _ he _ (C.blk ok.kind)) hs.1.1 hs.1.2 (subN_eq sl.1) (fun _ h => h) (subN_eq sl.2)
      · cases h
  · cases h
theorem sw_line {gs : List Comprehension} {scope : Scope} {y : Str} {py lp : Pos} {l : Nat} {env : Env} (h : (py.line == lp.line) = false) : swapsWith (.ListComp e gs scope lp) (some (.Name y py)) l env = pure false := by
  unfold swapsWith
  simp only [Expr.pos, h, Bool.and_false, Bool.false_and]
theorem sole {t e : Expr} {l : Nat} {env : Env} : swapsWithSole [t] e l env = swapsWith e (some t) l env := by
  rw [swapsWithSole]
theorem sole_sub {o i e : Expr} {p : Pos} {l : Nat} {env : Env} : swapsWithSole [.Subscript o i p] e l env = pure false := by
  rw [sole]
  cases e <;> rfl
theorem blockKind_ok (C : Ctx G Z cl X) : X.env.blockKind = .function := by
  unfold Env.blockKind
  rw [C.kind]; rfl
theorem ok_S (O : OkTr cl T) (C : Ctx G Z cl X) {st : Stmt} {c : CS} (h : trS T G st = some c) : PS X st (tS Z X.K cl c) := by
  unfold trS at h
  split at h
  · cases h; exact s_doc
  · split at h
    · cases h
    rename_i hs
    obtain ⟨x, hx, rfl⟩ := Option.map_eq_some_iff.mp h
    exact s_ex (O.e _ _ _ hx X C) (swaps (by simpa using hs))
  · obtain ⟨x, hx, rfl⟩ := Option.map_eq_some_iff.mp h
    exact s_ret (O.e _ _ _ hx X C)
  · cases h; exact s_retn
  · cases h; exact s_pass
  · cases h; exact s_brk
  · cases h; exact s_cont
  · obtain ⟨t, ht, h⟩ := Option.bind_eq_some_iff.mp h
    obtain ⟨x, hx, h⟩ := Option.bind_eq_some_iff.mp h
    obtain ⟨y, hy, rfl⟩ := Option.map_eq_some_iff.mp h
    exact s_if (O.b _ _ _ ht X C) (ok_Ss O C hx) (ok_Ss O C hy)
  · obtain ⟨t, ht, h⟩ := Option.bind_eq_some_iff.mp h
    obtain ⟨x, hx, rfl⟩ := Option.map_eq_some_iff.mp h
    exact s_while C.po (O.b _ _ _ ht X C) (ok_Ss O C hx)
  · split at h
    · cases h
    rename_i hs
    obtain ⟨t, ht, h⟩ := Option.bind_eq_some_iff.mp h
    obtain ⟨i, hi, h⟩ := Option.bind_eq_some_iff.mp h
    obtain ⟨x, hx, rfl⟩ := Option.map_eq_some_iff.mp h
    exact s_for C.po C.calm (ok_I O C hi) (ok_NT C ht) (ok_Ss O C hx) fun x => folded (by simpa using hs)
  · split at h
    · rename_i l
      rw [Bool.and_eq_true] at l
      obtain ⟨i, hi, h⟩ := Option.bind_eq_some_iff.mp h
      obtain ⟨x, hx, rfl⟩ := Option.map_eq_some_iff.mp h
      obtain ⟨l1, l2⟩ := C.loc l.2
      exact s_aug l.1 C.nd (C.ix hi) l1 (O.e _ _ _ hx X C) l2
    · cases h
  · split at h
    · rename_i sw
      obtain ⟨i, hi, h⟩ := Option.bind_eq_some_iff.mp h
      obtain ⟨x, hx, rfl⟩ := Option.map_eq_some_iff.mp h
      exact ok_LCs O C (C.ix hi) sw hx
    · split at h
      · rename_i l
        rw [Bool.and_eq_true, Bool.not_eq_true'] at l
        obtain ⟨i, hi, h⟩ := Option.bind_eq_some_iff.mp h
        obtain ⟨x, hx, rfl⟩ := Option.map_eq_some_iff.mp h
        obtain ⟨l1, l2⟩ := C.loc l.2
        exact s_set C.nd (C.ix hi) l1 (ok_LC O C hx) (sw_line l.1) l2
      · cases h
  · split at h
    · cases h
    rename_i hs
    simp only [Bool.or_eq_true, not_or, Bool.not_eq_true, Bool.not_eq_true', Bool.not_eq_false] at hs
    obtain ⟨i, hi, h⟩ := Option.bind_eq_some_iff.mp h
    obtain ⟨x, hx, rfl⟩ := Option.map_eq_some_iff.mp h
    obtain ⟨l1, l2⟩ := C.loc hs.2
    exact s_set C.nd (C.ix hi) l1 (O.e _ _ _ hx X C) (swaps hs.1) l2
  · obtain ⟨a, ha, h⟩ := Option.bind_eq_some_iff.mp h
    obtain ⟨x, hx, rfl⟩ := Option.map_eq_some_iff.mp h
    exact s_asg (O.e _ _ _ hx X C) (ok_AT O C ha).1 sole_sub rfl rfl
  · split at h
    · rename_i pk
      split at h
      · rename_i l
        simp only [Bool.and_eq_true] at l
        obtain ⟨i, hi, h⟩ := Option.bind_eq_some_iff.mp h
        obtain ⟨j, hj, h⟩ := Option.bind_eq_some_iff.mp h
        split at h
        · cases h
        rename_i nij
        have nij : i ≠ j := fun z => nij (by rw [z]; exact Nat.beq_refl _)
        obtain ⟨x, hx, rfl⟩ := Option.map_eq_some_iff.mp h
        have e1 := C.ix hi
        have e2 := C.ix hj
        refine s_par C.calm C.nd e1 e2 nij (C.isLoc l.1.1) (C.isLoc l.1.2) (ok_L O C hx) (sw_two (blockKind_ok C) (C.isLoc l.1.1) (C.isLoc l.1.2) (fun z => ?_) l.2 pk) (sole.trans (swaps rfl))
        subst z
        rw [hi] at hj; cases hj
        exact nij rfl
      · cases h
    · split at h
      · cases h
      rename_i hf
      obtain ⟨as, has, h⟩ := Option.bind_eq_some_iff.mp h
      obtain ⟨x, hx, rfl⟩ := Option.map_eq_some_iff.mp h
      obtain ⟨g, ns, hl⟩ := ok_ATs O C has
      have al := asg_len (env := X.env) ns
      exact s_asgT C.calm (O.e _ _ _ hx X C) g (by rw [al.1, hl]) al.2 (sole.trans (swaps rfl)) (sw_non (by rw [Bool.or_eq_true]; right; simpa using hf)) rfl
  · split at h
    · cases h
    rename_i hs
    simp only [Bool.or_eq_true, not_or, Bool.not_eq_true, Bool.not_eq_true', Bool.not_eq_false] at hs
    obtain ⟨as, has, h⟩ := Option.bind_eq_some_iff.mp h
    obtain ⟨x, hx, rfl⟩ := Option.map_eq_some_iff.mp h
    obtain ⟨g, ns, hl⟩ := ok_ATs O C has
    have al := asg_len (env := X.env) ns
    exact s_asgT C.calm (O.e _ _ _ hx X C) g (by rw [al.1, hl]) al.2 (sole.trans (swaps rfl)) (sw_non (by rw [Bool.or_eq_true]; exact hs.1)) rfl
  · split at h
    · cases h
    rename_i hs
    simp only [Bool.or_eq_true, not_or, Bool.not_eq_true, Bool.not_eq_true', Bool.not_eq_false] at hs
    obtain ⟨as, has, h⟩ := Option.bind_eq_some_iff.mp h
    obtain ⟨x, hx, rfl⟩ := Option.map_eq_some_iff.mp h
    obtain ⟨g, ns, hl⟩ := ok_ATs O C has
    have al := asg_len (env := X.env) ns
    exact s_asgT C.calm (O.e _ _ _ hx X C) g (by rw [al.1, hl]) al.2 (sole.trans (swaps hs.1.2)) (sw_other hs.1.1) rfl
  · split at h
    · rename_i q
      simp only [Bool.and_eq_true, Bool.not_eq_true'] at q
      obtain ⟨fl, hfl, h⟩ := Option.bind_eq_some_iff.mp h
      obtain ⟨x, hx, rfl⟩ := Option.map_eq_some_iff.mp h
      exact s_raise (C.rs _ _ hfl) C.rm C.tk C.zm C.calm (C.gl q.1.1) (O.e _ _ _ hx X C) (noDbg_1 q.1.2) (star_cons q.2)
    · cases h
  · split at h
    · rename_i q
      simp only [Bool.and_eq_true] at q
      obtain ⟨⟨⟨⟨q1, q2⟩, q3⟩, q4⟩, q5⟩ := q
      obtain ⟨i, hi, h⟩ := Option.bind_eq_some_iff.mp h
      obtain ⟨ks, hk, h⟩ := Option.bind_eq_some_iff.mp h
      obtain ⟨cb, hcb, h⟩ := Option.bind_eq_some_iff.mp h
      obtain ⟨s, hs, rfl⟩ := Option.map_eq_some_iff.mp h
      obtain ⟨f1, f2⟩ := C.fr q1
      refine s_try f1 f2 C.nd (C.ix hi) (by rw [C.kd, ← C.lk]; exact C.isLoc q2) (C.ex _ _ hk) (C.gl q4) (noDbg_1 q5) C.tk C.zm (fun W pn xe t p => ok_Ss O (C.tr t p) hcb) fun a oe cls d pn hz hf => ok_XS C (C.ix hi) (.inl (C.isLoc q2)) q3 hz hf hs
    · cases h
  · cases h
end
/-! ## the fixpoint -/
def Tr.no : Tr := ⟨fun _ _ => none, fun _ _ => none, fun _ _ => none⟩
def Tr.step (T : Tr) : Tr := ⟨trE T, trB T, trS T⟩
def tr : Nat → Tr
  | 0 => .no
  | n + 1 => (tr n).step
theorem tr_ok {cl : Cl} : ∀ n, OkTr cl (tr n)
  | 0 => ⟨fun _ _ _ h => (by cases h), fun _ _ _ h => (by cases h), fun _ _ _ h => (by cases h)⟩
  | n + 1 => ⟨fun _ _ _ h _ _ C => ok_E (tr_ok n) C h, fun _ _ _ h _ _ C => ok_B (tr_ok n) C h, fun _ _ _ h _ _ C => ok_S (tr_ok n) C h⟩
end Mi

namespace Mi
open PySem L2
/-! ## defs -/
theorem lkS_mem {α : Type} {x : Str} {v : α} : ∀ {l : List (Str × α)}, lkS l x = some v → (x, v) ∈ l
  | [], h => by cases h
  | (y, w) :: r, h => by
    rw [lkS] at h
    by_cases c : eqS x y = true
    · rw [if_pos c] at h; cases h
      rw [eqS_eq c]; exact List.mem_cons_self
    · rw [if_neg c] at h
      exact List.mem_cons_of_mem _ (lkS_mem h)
/-- the table, the names that are not the module's, the module's constants -/
structure Md where
  tab : List (Str × Df)
  bi : List Str
  cn : List (Str × D)
  dd : List (Str × List (Str × D)) := []
  rs : List (Str × List (Str × XA)) := []
  ex : List (Str × List (Str × Bool)) := []
def Md.sg (M : Md) (N : List Str) (sc : Scope) : Sg := ⟨N, sc, fun _ => true, fun f => (lkS M.tab f).map (·.np), fun x => M.bi.any fun y => eqS x y, lkS M.cn, lkS M.dd, lkS M.rs, lkS M.ex, true⟩
abbrev Md.T (M : Md) : Tb := lkS M.tab
structure MdOk (M : Md) (K : PySem.W.Frag) (w : World) (mg : Str → Option Value) : Prop where
  bi : ∀ x ∈ M.bi, mg x = none
  cn : ∀ p ∈ M.cn, ∃ u v, mg p.1 = some u ∧ RelV v u ∧ ∀ ι H, Rp K ι H p.2 v
  dd : ∀ p ∈ M.dd, DdOk K w mg p.1 p.2
  ex : ∀ p ∈ M.ex, ClsTab K mg p.1 p.2 := by intro _ h; cases h
/-- a def as it stands in the text, and its translation -/
structure DefI (M : Md) (K : PySem.W.Frag) (mg : Str → Option Value) (f : Str) (d : Df) (fa : Addr) (fd : FuncData) (ps : List Str) : Prop where
  mg : mg f = some (.ref fa)
  bd : Binds K fd ps []
  kp : PySem.W.keepIn K (.ref fa) = true
  np : ps.length = d.np
  run : ∃ st N m, Fun K f f st fa fd ∧ FnScope N ps (defScope st) ∧ N.length = d.n ∧ trSs (tr m) (M.sg N (defScope st)) (defBody st) = some d.body
def AllI (M : Md) (K : PySem.W.Frag) (mg : Str → Option Value) : Prop := ∀ p ∈ M.tab, ∃ fa fd ps, DefI M K mg p.1 p.2 fa fd ps
section
variable {P : Program} {w : World} {K : PySem.W.Frag} {mg : Str → Option Value} {base : Heap} {M : Md}
theorem any_eqS {x : Str} {l : List Str} (h : (l.any fun y => eqS x y) = true) : x ∈ l := by
  obtain ⟨y, hy, e⟩ := List.any_eq_true.mp h
  rw [eqS_eq e]; exact hy
theorem callD_ar {T : Tb} {f : Str} {d : Df} (ht : T f = some d) : ∀ (k : Nat) (args : List D) (h : HS), args.length ≠ d.np → callD T k f args h = .bad
  | 0, _, _, _ => rfl
  | k + 1, args, h, ne => by
    unfold callD
    rw [ht]
    simp only [if_neg ne]
theorem callD_none {T : Tb} {f : Str} (ht : T f = none) : ∀ (k : Nat) (args : List D) (h : HS), callD T k f args h = .bad
  | 0, _, _ => rfl
  | k + 1, args, h => by
    unfold callD
    rw [ht]
/-- the entry's slots -/
theorem start_rel {ι : List Addr} {h : HS} {H : Hp} {args : List D} {vs : List V} {N : List Str} (r : RelH K ι h H) (ra : RpL K ι H args vs) (hl : args.length ≤ N.length) : RelE K ι (startE N.length args) h (L2.start N vs) H := by
  refine ⟨r, ?_, fun i d e => ?_⟩
  · unfold startE L2.start
    simp [ra.length]
  · unfold startE at e
    by_cases hi : i < args.length
    · rw [List.getElem?_append_left (by simpa using hi), List.getElem?_map] at e
      cases ea : args[i]? with
      | none => rw [ea] at e; cases e
      | some x =>
        rw [ea] at e; cases e
        obtain ⟨v, ev, rv⟩ := ra.get ea
        refine ⟨v, ?_, rv⟩
        unfold L2.start
        rw [List.getElem?_append_left (by rw [List.length_map, ← ra.length]; exact hi), List.getElem?_map, ev]
        rfl
    · rw [List.getElem?_append_right (by simpa using hi), List.getElem?_replicate] at e
      split at e <;> cases e
theorem def_ok (O : MdOk M K w mg) (A : AllI M K mg) (J : ∀ p ∈ M.rs, InitOk P w K mg base p.1 p.2) : ∀ (k : Nat) (f : Str) (d : Df) (fa : Addr) (fd : FuncData) (ps : List Str), M.T f = some d → DefI M K mg f d fa fd ps → FnOk P w K mg base (L2.CX P w) (k + 4) fa fd ps (spD mg K (callD M.T k) f d.np)
  | 0, f, d, fa, fd, ps, ht, I => by
    refine ⟨fun vs H Q E h => ?_, fun A outer s H args us vs Q E hr he hb hv h => ?_⟩
    · obtain ⟨ι, hh, args, _, _, _, q⟩ := h
      exact q.elim
    · obtain ⟨ι, hh, args, _, _, _, q⟩ := h
      exact q.elim
  | k + 1, f, d, fa, fd, ps, ht, I => by
    obtain ⟨st, N, m, F, S, hN, ht2⟩ := I.run
    refine F.okX S (fun vs H Q E h => ?_) (fun cdv A' outer s H vs Q E hr h => ?_)
    · obtain ⟨ι, hh, args, _, ra, hl, q⟩ := h
      rw [← ra.length, hl, I.np]
    · obtain ⟨ι, hh, args, rh, ra, hl, q⟩ := h
      have C : Ctx (M.sg N (defScope st)) ⟨mg, fun cls d _ H => E cls d H⟩ (callD M.T k) (cxOf (L2.CX P w) P w K mg base N f (defScope st) fa cdv A' outer s H E) := {
        tk := takes_of (E₁ := fun e' s'' => L2.CX P w outer H s E e' s'') rfl rfl rfl rfl
        zm := rfl
        N := rfl
        sc := rfl
        fn := fun _ _ => rfl
        nd := S.nd
        kind := S.kind
        calm := rfl
        hu := by have := hr.un; show (A'.deeper _).units + 64 < cLine; omega
        po := passes_of (K := fun e s'' => L2.CX P w outer H s E e s'') (E₁ := fun e' s'' => L2.CX P w outer H s E e' s'') rfl
        bi := fun x hx => O.bi x (any_eqS hx)
        df := fun g np hg => by
          obtain ⟨d2, e2, rfl⟩ := Option.map_eq_some_iff.mp hg
          obtain ⟨fa2, fd2, ps2, I2⟩ := A _ (lkS_mem e2)
          exact ⟨fa2, fd2, ps2, k + 4, def_ok O A J k g d2 fa2 fd2 ps2 e2 I2, hr, I2.mg, I2.kp, I2.bd, fun args h ne => callD_ar (T := M.T) e2 k args h ne⟩
        dn := fun g hg => callD_none (T := M.T) (Option.map_eq_none_iff.mp hg) k
        cn := fun x d hx => O.cn _ (lkS_mem hx)
        dd := fun x l hx => O.dd _ (lkS_mem hx)
        rm := hr.mono (by omega)
        rs := fun c fl hx => J _ (lkS_mem hx)
        ex := fun y tab hx => O.ex _ (lkS_mem hx)
        fr := fun _ => ⟨rfl, rfl⟩ }
      refine ⟨_, ok_Ss (tr_ok m) C ht2, ?_⟩
      have hps : ps.length ≤ N.length := by have := congrArg List.length S.pre; rw [List.length_take] at this; omega
      have re := start_rel (N := N) rh ra (by rw [hl, ← I.np]; exact hps)
      refine ⟨ι, _, hh, re, ?_⟩
      have q : PostE (wX mg E K) K ι H (callD M.T (k + 1) f args hh) Q := q
      unfold callD at q
      rw [ht] at q
      simp only [if_pos hl] at q
      rw [hN]
      cases eb : execB (callD M.T k) d.body (startE d.n args) hh with
      | next δ1 h1 =>
        rw [eb] at q
        intro ι1 σ H1 e1 r1
        have q : PostE (wX mg E K) K ι H (trim hh.length .non h1) Q := q
        exact (PostE.tr (r := .ok .non h1) q rh.len) ι1 .non H1 e1 r1.rel .non
      | ret v h1 =>
        rw [eb] at q
        have q : PostE (wX mg E K) K ι H (trim hh.length v h1) Q := q
        exact fun ι1 u H1 e1 r1 ru => (PostE.tr (r := .ok v h1) q rh.len) ι1 u H1 e1 r1 ru
      | brk δ1 h1 => rw [eb] at q; exact q.elim
      | cont δ1 h1 => rw [eb] at q; exact q.elim
      | exc c fs δ1 h1 => rw [eb] at q; exact fun ι1 σ H1 ex r1 => q ι1 H1 ex r1.rel
      | bad => rw [eb] at q; exact q.elim
/-- the law's promise -/
def spL (M : Md) (k : Nat) (f : Str) (K : PySem.W.Frag) : Sp := fun vs H Q _ => ∃ ι h args, RelH K ι h H ∧ RpL K ι H args vs ∧ args.length = 1 ∧ PostE ωF K ι H (callD M.T k f args h) Q
theorem law_fn {P : Program} {w : World} {K : PySem.W.Frag} {mg : Str → Option Value} {base : Heap} {M : Md} {k n : Nat} {f : Str} {fa : Addr} {fd : FuncData} {ps : List Str} (F : FnOk P w K mg base (L2.CX P w) n fa fd ps (spD mg K (callD M.T k) f 1)) : FnOk P w K mg base CX0 n fa fd ps (spL M k f K) := by
  have up : ∀ vs H Q (E : XK), spL M k f K vs H Q E → spD mg K (callD M.T k) f 1 vs H Q (fun _ _ _ => False) := fun vs H Q E ⟨ι, h, args, r1, r2, r3, q⟩ => by
    refine ⟨ι, h, args, r1, r2, r3, ?_⟩
    cases e : callD M.T k f args h with
    | ok d h1 => rw [e] at q; exact q
    | exc c fs h1 => rw [e] at q; exact fun ι1 H1 ex r => (q ι1 H1 ex r).elim
    | bad => rw [e] at q; exact q
  refine ⟨fun vs H Q E h => F.len _ _ _ _ (up _ _ _ _ h), fun A outer s H args us vs Q E hr e0 hb hv h => ?_⟩
  refine codeAny_mono (F.run A outer s H args us vs Q (fun _ _ _ => False) hr e0 hb hv (up _ _ _ _ h)) fun r s' hq => ?_
  cases r with
  | error e =>
    obtain ⟨_, _, _, _, _, _, _, _, _, _, _, _, z⟩ := (hq : L2.CX P w outer H s (fun _ _ _ => False) e s')
    exact z.elim
  | ok fl => cases fl <;> exact hq
theorem law_sp {k n : Nat} {f : Str} (L : ∀ ns : List Int, ns.length ≤ n → ∃ h, callD M.T k f [.fz ns] [] = .ok (.bl true) h) {K : PySem.W.Frag} {H : Hp} {a : Addr} {ns : List Int} (hl : ns.length ≤ n) (O : Only H) (S : SqL K H a (ns.map V.int)) :
    spL M k f K [.ref a] H (fun v _ => v = .bl true) fun _ _ _ => False := by
  obtain ⟨h, e⟩ := L ns hl
  refine ⟨[], [], [.fz ns], ⟨rfl, List.nodup_nil, fun n c a e => by simp at e⟩, .cons (.fz ?_) .nil, rfl, ?_⟩
  · rcases S with (S | ⟨o, S⟩) | S
    · rcases O a with z | ⟨o, xs, z⟩
      · rw [z] at S; cases S
      · rw [z] at S; cases S
    · exact .inl ⟨o, S⟩
    · exact .inr S
  · rw [e]
    intro ι1 v H1 _ _ rp
    cases rp; rfl
end
end Mi
namespace Mi
open PySem L2
/-- every entry of a written dict -/
inductive DdAll (K : PySem.W.Frag) (w : World) (a : Addr) : List (Str × D) → Prop
  | nil : DdAll K w a []
  | cons {z : Str} {d : D} {l : List (Str × D)} (h : ∃ v, KDct K w a z v ∧ ∀ ι H, Rp K ι H d v) (r : DdAll K w a l) : DdAll K w a ((z, d) :: l)
theorem dd_of {K : PySem.W.Frag} {w : World} {a : Addr} : ∀ {l : List (Str × D)}, DdAll K w a l → ∀ z d, lkD l z = some d → ∃ v, KDct K w a z v ∧ ∀ ι H, Rp K ι H d v
  | [], _, z, d, h => by simp [lkD] at h
  | (y, e) :: l, .cons h r, z, d, hz => by
    by_cases c : y = z
    · subst c
      have : e = d := by simpa [lkD] using hz
      subst this
      exact h
    · exact dd_of r z d (by simpa [lkD, List.find?_cons, c] using hz)
end Mi

namespace Mi
open PySem L2 PySem.W PyProof.Rows
/-! ## what the written part says of error classes -/
def clsBody (s : Stmt) : List Stmt := match s with
  | .ClassDef _ _ _ b _ _ _ _ _ _ _ => b
  | _ => []
abbrev clsDef (s : Stmt) (i : Nat) : Stmt := (clsBody s).getD i (.Pass ⟨0, 0, 0, 0⟩)
def alB (K : Frag) (C D : Addr) (i : Value) : Bool := match clsIn K C with
  | some cd => decide (alongIn K "__init__" ((cd.mro.dropWhile (· != .ref D)).drop 1) = some (some i))
  | none => false
theorem alB_ok {K : Frag} {C D : Addr} {i : Value} (h : alB K C D i = true) : ∃ cd, clsIn K C = some cd ∧ alongIn K "__init__" ((cd.mro.dropWhile (· != .ref D)).drop 1) = some (some i) := by
  unfold alB at h
  split at h
  · exact ⟨_, by assumption, of_decide_eq_true h⟩
  · cases h
/-- read and asked for its class -/
def knB (K : Frag) (C : Addr) : Bool := xfB K C && (decide (findIn K (.ref C) "__class__" = some (some (.builtin "object.__class__"))) && (decide (specialIn K (.builtin "object.__class__") "__get__" = some (some (.builtin "getset_descriptor.__get__"))) &&
  (decide (takesIn K (.builtin "object.__class__") = some true) && (decide (mroIn K C (.type "object") = some true) && (decide (findIn K (.ref C) "code" = some none) && decide (findIn K (.ref C) "most" = some none))))))
theorem known_of {K : Frag} {mg : Str → Option Value} {c : Str} {C : Addr} (hm : mg c = some (.ref C)) (b : knB K C = true) : Known K mg c C := by
  unfold knB at b
  simp only [Bool.and_eq_true, decide_eq_true_eq] at b
  obtain ⟨b0, b1, b2, b3, b4, b5, b6⟩ := b
  have x := xfB_ok b0
  exact ⟨hm, x, ⟨x.ga, x.gg, x.exC, x.hdC, b1, b2, b3, b4⟩, b5, b6⟩
def prB (K : Frag) (C CY : Addr) (b : Bool) : Bool := decide (kitOne K (.ref C) (.ref CY) = some b) && decide (exmOne K (.ref C) (.ref CY) = some b)
inductive ClsAll (K : Frag) (mg : Str → Option Value) (CY : Addr) : List (Str × Bool) → Prop
  | nil : ClsAll K mg CY []
  | cons {c : Str} {b : Bool} {l : List (Str × Bool)} (h : ∃ C, Known K mg c C ∧ prB K C CY b = true) (r : ClsAll K mg CY l) : ClsAll K mg CY ((c, b) :: l)
theorem tab_of {K : Frag} {mg : Str → Option Value} {y : Str} {CY : Addr} {l : List (Str × Bool)} (hm : mg y = some (.ref CY)) (h : ClsAll K mg CY l) : ClsTab K mg y l := by
  refine ⟨CY, hm, ?_⟩
  induction h with
  | nil => intro c b e; cases e
  | @cons c' b' l' h r ih =>
    intro c b e
    rw [lkX] at e
    by_cases q : c' = c
    · rw [if_pos q] at e; cases e
      obtain ⟨C, k, p⟩ := h
      unfold prB at p
      rw [Bool.and_eq_true, decide_eq_true_eq, decide_eq_true_eq] at p
      subst q
      exact ⟨C, k, p.1, p.2⟩
    · rw [if_neg q] at e
      exact ih c b e
/-- made by C("code") -/
def oeB (K : Frag) (C : Addr) (bm : List Value) : Bool := PySem.HandSPX.refsVE bm && (decide (findIn K (.ref C) "__setattr__" = some (some (.builtin "object.__setattr__"))) && (decide (subIn K (.ref C) (.type "BaseException") = some true) && (decide (typeIn K (.ref C) = some (.type "type")) && keepIn K (.ref C))))
theorem oex_of {K : Frag} {C N : Addr} {nm q : Str} {bs bm : List Value} {sn : List Str} {sub : List Value} {ab : Bool} {col : Option Bool} {dd : Option Addr} {k0 k1 k2 k3 k5 : Option Value} (l : K.lookup C = some (excClassObj nm q C N bs bm true sn sub ab col dd k0 k1 k2 k3 k5 "ValueError.__new__")) (b : oeB K C bm = true) : OexC K C := by
  unfold oeB at b
  simp only [Bool.and_eq_true, decide_eq_true_eq] at b
  obtain ⟨b0, b1, b2, b3, b4⟩ := b
  exact ⟨⟨nm, q, N, bs, bm, sn, sub, ab, col, dd, k0, k1, k2, k3, k5, l, b0⟩, b1, b2, b3, b4⟩
/-- C stands under D, whose __init__ comes from i behind -/
def unB (K : Frag) (C D : Addr) : Bool := decide (mroIn K C (.ref D) = some true) && (alB K C D (.builtin "ValueError.__init__") && (decide (subIn K (.ref C) (.type "ValueError") = some true) && decide (findIn K (.ref C) "code" = some none)))
theorem under_of {K : Frag} {C D : Addr} (T : OexC K C) (b : unB K C D = true) : UnderD K C D := by
  unfold unB at b
  simp only [Bool.and_eq_true, decide_eq_true_eq] at b
  obtain ⟨b0, b1, b2, b3⟩ := b
  exact ⟨T, ⟨b0, alB_ok b1⟩, b2, b3⟩
/-- what the text says of SymError's __init__ -/
structure SymText (P : Program) (s : Stmt) : Prop where
  sc : NdefX.nscB ["self", "code", "__class__"] ["self", "code"] ["__class__"] (defScope s) = true
  body : Nonempty (SymBody (defBody s))
  par : ∃ ar : Arg, ((defArgs s).posonlyargs ++ (defArgs s).args).head? = some ar ∧ ar.arg = ("self" : Str)
  ks : (defScope s).names.lookup ("super" : Str) = some .globalImplicit
  kc : (defScope s).names.lookup ("__class__" : Str) = some .free
  ka : (defScope s).names.lookup ("self" : Str) = some .local
  top : (P.main.scope.names.lookup ("super" : Str)).isSome = false
  bind : ∀ (doc pm ctv : Value) (cc ca : Addr) (us : List Value), us.length = 2 → bindArgs (fnX "__init__" "SymError.__init__" (defArgs s) (defBody s) (defScope s) [("__class__", cc)] .none .none doc pm none (.ref ca) ctv) ⟨us, []⟩ = pure ((["self", "code"] : List Str).zip us)
def fiB (K : Frag) (fI ca D : Addr) : Bool := decide (typeIn K (.ref fI) = some (.type "function")) && ((clsIn K D).isSome && (decide (nsIn K cStatics "thirdparty.any" = some none) && (codeIn K (.ref ca) "SymError.__init__" && fnIn K fI)))
section
variable {P : Program} {w : World} {K : Frag} {h base : Heap} {mg : Str → Option Value} {fI cc ca D : Addr} {s : Stmt} {oc doc pm ctv : Value} {od : Option Addr} {osl : Array (Option Value)} {cl ccl : Value} {cld cdd : Option Addr} {csl ccs : Array (Option Value)} {vs : Array Value} {file : Str} {tf : Tok}
/-- SymError.__init__, as it stands in the written part -/
theorem sym_fn (T : SymText P s) (lI : K.lookup fI = some ⟨oc, od, .func (fnX "__init__" "SymError.__init__" (defArgs s) (defBody s) (defScope s) [("__class__", cc)] .none .none doc pm none (.ref ca) ctv), osl⟩) (lc : K.lookup cc = some ⟨cl, cld, .cell (some (.ref D)), csl⟩)
    (la : K.lookup ca = some ⟨ccl, cdd, .fields vs, ccs⟩) (hv : vs[2]? = some (.str file tf)) (hf : ((P.main.file : Str) == file) = true) (hms : mg "super" = none) (b : fiB K fI ca D = true) :
    ∃ fd : FuncData, FnOk P w K mg base CX0 1 fI fd ["self", "code"] (spSym K D) ∧ Binds K fd ["self", "code"] [] ∧ typeIn K (.ref fI) = some (.type "function") ∧ fnIn K fI = true := by
  unfold fiB at b
  simp only [Bool.and_eq_true, decide_eq_true_eq] at b
  obtain ⟨b0, b1, b2, b3, b4⟩ := b
  obtain ⟨hb⟩ := T.body
  have SF : SupF P K (⟨"__init__", "SymError.__init__", defArgs s, defBody s, defScope s, [("__class__", cc)], ca⟩ : NdefX.NF) fI D :=
    ⟨⟨_, _, _, _, _, _, lI⟩, ⟨cc, _, _, _, rfl, lc⟩, ⟨_, _, _, _, file, tf, la, hv, hf⟩, T.par, T.ks, T.kc, T.ka, T.top, Option.isSome_iff_exists.mp b1, b2⟩
  exact ⟨_, sym_init (CX := CX0) SF lI b3 (NdefX.nscope_by T.sc) hb hms, .all fun us hl => T.bind _ _ _ _ _ us hl, b0, b4⟩
theorem init_sym {c : Str} {C : Addr} {fd : FuncData} (n1 : mg c = some (.ref C)) (F : FnOk P w K mg base CX0 1 fI fd ["self", "code"] (spSym K D) ∧ Binds K fd ["self", "code"] [] ∧ typeIn K (.ref fI) = some (.type "function") ∧ fnIn K fI = true) (i1 : findIn K (.ref C) "__init__" = some (some (.ref fI))) (T : OexC K C) (U : unB K C D = true) :
    InitOk P w K mg base c [("code", .ar 0)] := by
  obtain ⟨F1, B, ty, _⟩ := F
  refine ⟨C, fI, 1, fd, _, _, by omega, n1, T, i1, ty, F1, B, fun v H a Q E na k => ⟨a, C, v, rfl, under_of T U, upd_same, fun dx hd ne => ?_⟩⟩
  rw [upd_ne ne] at hd
  exact k dx _ hd ne rfl
end
end Mi

namespace Mi
open PySem PySem.W L2
/-! ## LargeError.__init__: the code is "large", the field most is the argument -/
structure LargeText (P : Program) (s : Stmt) : Prop where
  sc : NdefX.nscB ["self", "most", "__class__"] ["self", "most"] ["__class__"] (defScope s) = true
  body : ∃ (k : Nat) (p : Pos), Nonempty (TwoBody (defBody s) (.Constant (.str "large") k p) "most" "most")
  par : ∃ ar : Arg, ((defArgs s).posonlyargs ++ (defArgs s).args).head? = some ar ∧ ar.arg = ("self" : Str)
  ks : (defScope s).names.lookup ("super" : Str) = some .globalImplicit
  kc : (defScope s).names.lookup ("__class__" : Str) = some .free
  ka : (defScope s).names.lookup ("self" : Str) = some .local
  top : (P.main.scope.names.lookup ("super" : Str)).isSome = false
  bind : ∀ (doc pm ctv : Value) (cc ca : Addr) (us : List Value), us.length = 2 → bindArgs (fnX "__init__" "LargeError.__init__" (defArgs s) (defBody s) (defScope s) [("__class__", cc)] .none .none doc pm none (.ref ca) ctv) ⟨us, []⟩ = pure ((["self", "most"] : List Str).zip us)
def lgB (K : Frag) (fL ca D : Addr) : Bool := decide (typeIn K (.ref fL) = some (.type "function")) && ((clsIn K D).isSome && (decide (nsIn K cStatics "thirdparty.any" = some none) && codeIn K (.ref ca) "LargeError.__init__"))
def lcB (K : Frag) (C D1 fI : Addr) : Bool := decide (mroIn K C (.ref D1) = some true) && (alB K C D1 (.ref fI) && decide (findIn K (.ref C) "most" = some none))
def arL : List V → V → V → Prop := fun vs vc y => ∃ a, vs = [a, y] ∧ vc = .str "large"
section
variable {P : Program} {w : World} {K : Frag} {h base : Heap} {mg : Str → Option Value} {fI fL cc ca D D1 : Addr} {s : Stmt} {oc doc pm ctv : Value} {od : Option Addr} {osl : Array (Option Value)} {cl ccl : Value} {cld cdd : Option Addr} {csl ccs : Array (Option Value)} {vs : Array Value} {file : Str} {tf : Tok} {fd0 : FuncData}
theorem large_fn (T : LargeText P s) (lI : K.lookup fL = some ⟨oc, od, .func (fnX "__init__" "LargeError.__init__" (defArgs s) (defBody s) (defScope s) [("__class__", cc)] .none .none doc pm none (.ref ca) ctv), osl⟩) (lc : K.lookup cc = some ⟨cl, cld, .cell (some (.ref D1)), csl⟩)
    (la : K.lookup ca = some ⟨ccl, cdd, .fields vs, ccs⟩) (hv : vs[2]? = some (.str file tf)) (hf : ((P.main.file : Str) == file) = true) (hms : mg "super" = none) (b : lgB K fL ca D1 = true)
    (F : FnOk P w K mg base CX0 1 fI fd0 ["self", "code"] (spSym K D) ∧ Binds K fd0 ["self", "code"] [] ∧ typeIn K (.ref fI) = some (.type "function") ∧ fnIn K fI = true) :
    ∃ fd : FuncData, FnOk P w K mg base CX0 2 fL fd ["self", "most"] (spTwo K D1 D fI ["self", "most"] "most" arL) ∧ Binds K fd ["self", "most"] [] ∧ typeIn K (.ref fL) = some (.type "function") := by
  unfold lgB at b
  simp only [Bool.and_eq_true, decide_eq_true_eq] at b
  obtain ⟨b0, b1, b2, b3⟩ := b
  obtain ⟨k, p, ⟨hb⟩⟩ := T.body
  obtain ⟨F1, B, ty, fn⟩ := F
  have SF : SupF P K (⟨"__init__", "LargeError.__init__", defArgs s, defBody s, defScope s, [("__class__", cc)], ca⟩ : NdefX.NF) fL D1 :=
    ⟨⟨_, _, _, _, _, _, lI⟩, ⟨cc, _, _, _, rfl, lc⟩, ⟨_, _, _, _, file, tf, la, hv, hf⟩, T.par, T.ks, T.kc, T.ka, T.top, Option.isSome_iff_exists.mp b1, b2⟩
  refine ⟨_, two_init (i := 1) SF lI b3 rfl (NdefX.nscope_by T.sc) hb hms rfl (by decide) (by decide) (fun _ => rfl) ?_ F1 B fn ty, .all fun us hl => T.bind _ _ _ _ _ us hl, b0⟩
  rintro vs vc y ⟨a, rfl, rfl⟩
  exact ⟨.str, rfl⟩
theorem init_large {c : Str} {C : Addr} {fd : FuncData} (n1 : mg c = some (.ref C)) (F : FnOk P w K mg base CX0 2 fL fd ["self", "most"] (spTwo K D1 D fI ["self", "most"] "most" arL) ∧ Binds K fd ["self", "most"] [] ∧ typeIn K (.ref fL) = some (.type "function")) (i1 : findIn K (.ref C) "__init__" = some (some (.ref fL))) (T : OexC K C) (U : unB K C D = true) (L : lcB K C D1 fI = true) :
    InitOk P w K mg base c [("most", .ar 0), ("code", .st "large")] := by
  obtain ⟨F1, B, ty⟩ := F
  unfold lcB at L
  simp only [Bool.and_eq_true, decide_eq_true_eq] at L
  obtain ⟨l0, l1, l2⟩ := L
  refine ⟨C, fL, 2, fd, _, _, by omega, n1, T, i1, ty, F1, B, fun v H a Q E na k => ⟨rfl, a, C, [v], .str "large", v, rfl, ⟨_, rfl, rfl⟩, under_of T U, ⟨l0, alB_ok l1⟩, l2, upd_same, fun dx hd ne => ?_⟩⟩
  rw [upd_ne ne] at hd
  exact k dx _ hd ne rfl
end
end Mi

namespace Mi
open PySem
/-! ## the plain side: how the small language runs -/
abbrev dN (x : Nat) : D := .int (x : Int)
def P (p : List Nat) : D := .tup (p.map dN)
def WF (h : HS) : Prop := h.all (Cell.lo h.length) = true
theorem WF.nil : WF [] := rfl
mutual
theorem D.lo_mono {m n : Nat} (hmn : m ≤ n) : ∀ {d : D}, d.lo m = true → d.lo n = true
  | .non, _ => rfl
  | .bl _, _ => rfl
  | .int _, _ => rfl
  | .str _, _ => rfl
  | .fz _, _ => rfl
  | .fn _, _ => rfl
  | .ref k, h => by simp only [D.lo, decide_eq_true_eq] at h ⊢; omega
  | .tup xs, h => by simp only [D.lo] at h ⊢; exact D.los_mono hmn h
  | .kt xs, h => by simp only [D.lo] at h ⊢; exact D.los_mono hmn h
theorem D.los_mono {m n : Nat} (hmn : m ≤ n) : ∀ {xs : List D}, D.los m xs = true → D.los n xs = true
  | [], _ => rfl
  | x :: r, h => by
    simp only [D.los, Bool.and_eq_true] at h ⊢
    exact ⟨D.lo_mono hmn h.1, D.los_mono hmn h.2⟩
end
theorem Cell.lo_mono {m n : Nat} (hmn : m ≤ n) {c : Cell} (h : c.lo m = true) : c.lo n = true := by
  cases c with
  | lst xs => exact D.los_mono hmn h
  | dct kvs =>
    simp only [Cell.lo, List.all_eq_true, Bool.and_eq_true] at h ⊢
    exact fun kv hk => ⟨D.lo_mono hmn (h kv hk).1, D.lo_mono hmn (h kv hk).2⟩
  | ins c fs =>
    simp only [Cell.lo, List.all_eq_true] at h ⊢
    exact fun kv hk => D.lo_mono hmn (h kv hk)
theorem WF.app {h : HS} {c : Cell} (hw : WF h) (hc : c.lo (h.length + 1) = true) : WF (h ++ [c]) := by
  unfold WF at *
  rw [List.all_append, List.length_append]
  simp only [List.length_cons, List.length_nil, List.all_cons, List.all_nil, Bool.and_true, Bool.and_eq_true]
  refine ⟨?_, hc⟩
  rw [List.all_eq_true] at hw ⊢
  exact fun x hx => Cell.lo_mono (Nat.le_succ _) (hw x hx)
theorem WF.set {h : HS} {c : Cell} {n : Nat} (hw : WF h) (hc : c.lo h.length = true) : WF (h.set n c) := by
  unfold WF at *
  rw [List.all_eq_true] at hw ⊢
  rw [List.length_set]
  intro x hx
  rcases List.mem_or_eq_of_mem_set hx with hx | hx
  · exact hw x hx
  · rw [hx]; exact hc
@[simp] theorem trim_self (v : D) (h : HS) : trim h.length v h = .ok v h := by
  unfold trim; rw [if_pos (Nat.le_refl _)]
theorem trim_le {n : Nat} {v : D} {h : HS} (hn : h.length ≤ n) : trim n v h = .ok v h := by
  unfold trim; rw [if_pos hn]
def isRef : D → Bool
  | .ref _ => true
  | _ => false
/-- new cells fall away -/
theorem trim_app {h ext : HS} {v : D} (hw : WF h) (hv : v.lo h.length = true) (hr : isRef v = false) : trim h.length v (h ++ ext) = .ok v h := by
  unfold trim
  by_cases c : (h ++ ext).length ≤ h.length
  · rw [if_pos c]
    have : ext = [] := by
      rw [List.length_append] at c
      exact List.length_eq_zero_iff.mp (by omega)
    rw [this, List.append_nil]
  · have hw : (h.all (Cell.lo h.length)) = true := hw
    rw [if_neg c, List.take_left', if_pos hw]
    · cases v with
      | ref m => cases hr
      | _ => simp only [hv, if_true]
    · rfl
/-- a new list takes the first new place -/
theorem trim_new {h ext : HS} {m : Nat} {c : Cell} (hw : WF h) (hm : h.length ≤ m) (hc : (h ++ ext)[m]? = some c) (hl : c.lo h.length = true) : trim h.length (.ref m) (h ++ ext) = .ok (.ref h.length) (h ++ [c]) := by
  unfold trim
  have hlen : m < (h ++ ext).length := (List.getElem?_eq_some_iff.mp hc).1
  have hw : (h.all (Cell.lo h.length)) = true := hw
  rw [if_neg (by omega), List.take_left', if_pos hw]
  · simp only [if_neg (show ¬ m < h.length by omega), hc, hl, if_true]
  · rfl
/-- one new cell stays as it is -/
theorem trim_one {h : HS} {c : Cell} : trim h.length (.ref h.length) (h ++ [c]) = .ok (.ref h.length) (h ++ [c]) := by
  unfold trim
  rw [if_neg (by simp)]
  split
  · simp only [if_neg (Nat.lt_irrefl _)]
    simp
  · rfl
@[simp] theorem R.tr_ok (n : Nat) (d : D) (h : HS) : (R.ok d h).tr n = trim n d h := rfl
@[simp] theorem R.tr_bad (n : Nat) : (R.bad : R D).tr n = .bad := rfl
@[simp] theorem Fl.then_brk (δ h f) : (Fl.brk δ h).then_ f = .brk δ h := rfl
@[simp] theorem Fl.then_cont (δ h f) : (Fl.cont δ h).then_ f = .cont δ h := rfl
@[simp] theorem ofO_ok {α : Type} (a : α) (h : HS) : ofO (some a) h = .ok a h := rfl
theorem los_nats : ∀ {n : Nat} {p : List Nat}, D.los n (p.map dN) = true
  | _, [] => rfl
  | _, x :: r => by rw [List.map_cons, D.los, los_nats]; rfl
theorem los_ints : ∀ {n : Nat} {p : List Int}, D.los n (p.map .int) = true
  | _, [] => rfl
  | _, x :: r => by rw [List.map_cons, D.los, los_ints]; rfl
@[simp] theorem lo_P {n : Nat} {p : List Nat} : (P p).lo n = true := by unfold P; rw [D.lo]; exact los_nats
theorem los_all {n : Nat} : ∀ {xs : List D}, (∀ x ∈ xs, x.lo n = true) → D.los n xs = true
  | [], _ => rfl
  | x :: r, h => by
    rw [D.los, h x List.mem_cons_self, los_all fun y hy => h y (List.mem_cons_of_mem _ hy)]; rfl
theorem los_map {α : Type} {n : Nat} {f : α → D} {l : List α} (h : ∀ x ∈ l, (f x).lo n = true) : D.los n (l.map f) = true :=
  los_all fun y hy => by obtain ⟨x, hx, rfl⟩ := List.mem_map.mp hy; exact h x hx
/-! ### places -/
theorem ixN_nat {n k : Nat} (h : k < n) : L2.ixN n (k : Int) = some k := by
  unfold L2.ixN
  rw [if_pos (by omega), if_pos (by omega)]; simp
theorem atI_nat {α : Type} {xs : List α} {k : Nat} {x : α} (h : xs[k]? = some x) : L2.atI xs (k : Int) = some x := by
  unfold L2.atI
  rw [ixN_nat (List.getElem?_eq_some_iff.mp h).1]; exact h
theorem ixN_neg1 {n : Nat} (h : 0 < n) : L2.ixN n (-1) = some (n - 1) := by
  unfold L2.ixN
  rw [if_neg (by omega), if_pos (by omega)]
  congr 1; omega
theorem get_app_len {h : HS} {c : Cell} : (h ++ [c])[h.length]? = some c := by simp
theorem set_app_len {h : HS} {c c' : Cell} : (h ++ [c]).set h.length c' = h ++ [c'] := by simp
/-- the x-th of a row of numbers -/
abbrev at_ (p : List Nat) (x : Nat) : Nat := p.getD x 0
theorem at_get {p : List Nat} {x : Nat} (h : x < p.length) : p[x]? = some (at_ p x) := by
  unfold at_
  rw [List.getD_eq_getElem?_getD, List.getElem?_eq_getElem h]; rfl
theorem map_get {p : List Nat} {x : Nat} (h : x < p.length) : (p.map dN)[x]? = some (dN (at_ p x)) := by
  rw [List.getElem?_map, at_get h]; rfl
theorem ixF_P {p : List Nat} {x : Nat} {h : HS} (hx : x < p.length) : ixF (P p) (dN x) h = .ok (dN (at_ p x)) h := by
  unfold P ixF
  simp only
  rw [atI_nat (map_get hx)]; rfl
theorem rngL_nat (n : Nat) : rngL (0, (n : Int)) = (List.range n).map dN := by
  unfold rngL
  have e : ((n : Int) - 0).toNat = n := by omega
  simp only [e, Int.zero_add]
/-! ### loops -/
theorem forD_run {live : HS → Bool} {f : D → En → HS → Fl} : ∀ {xs : List D} {δ : En} {h : HS} (Q : Nat → En → HS → Prop) (k : Nat), Q k δ h →
    (∀ i x δ h, xs[i]? = some x → Q (k + i) δ h → live h = true ∧ ∃ δ' h', (f x δ h = .next δ' h' ∨ f x δ h = .cont δ' h') ∧ Q (k + i + 1) δ' h') → (∀ δ h, Q (k + xs.length) δ h → live h = true) →
    ∃ δ' h', forD live f xs δ h = .next δ' h' ∧ Q (k + xs.length) δ' h'
  | [], δ, h, Q, k, h0, hs, hl => by
    refine ⟨δ, h, ?_, h0⟩
    rw [forD, if_pos (hl δ h h0)]
  | x :: r, δ, h, Q, k, h0, hs, hl => by
    obtain ⟨lv, δ1, h1, e, q1⟩ := hs 0 x δ h rfl h0
    obtain ⟨δ2, h2, e2, q2⟩ := forD_run (live := live) (f := f) (xs := r) Q (k + 1) q1 (fun i y δ h hi hq => by
      have e1 : k + 1 + i = k + (i + 1) := by omega
      rw [e1] at hq ⊢
      exact hs (i + 1) y δ h (by simpa using hi) hq) (fun δ h hq => hl δ h (by
      have e1 : k + 1 + r.length = k + (x :: r).length := by rw [List.length_cons]; omega
      rw [← e1]; exact hq))
    refine ⟨δ2, h2, ?_, ?_⟩
    · rw [forD, if_pos lv]
      rcases e with e | e <;> rw [e] <;> exact e2
    · have e1 : k + 1 + r.length = k + (x :: r).length := by rw [List.length_cons]; omega
      rw [← e1]; exact q2
theorem for_run {live : HS → Bool} {f : D → En → HS → Fl} {xs : List D} {δ : En} {h : HS} (Q : Nat → En → HS → Prop) (h0 : Q 0 δ h)
    (hs : ∀ i x δ h, xs[i]? = some x → Q i δ h → live h = true ∧ ∃ δ' h', (f x δ h = .next δ' h' ∨ f x δ h = .cont δ' h') ∧ Q (i + 1) δ' h') (hl : ∀ δ h, Q xs.length δ h → live h = true) :
    ∃ δ' h', forD live f xs δ h = .next δ' h' ∧ Q xs.length δ' h' := by
  obtain ⟨δ', h', e, q⟩ := forD_run (live := live) (f := f) (xs := xs) (δ := δ) (h := h) Q 0 h0 (fun i x δ h hi hq => by rw [Nat.zero_add] at hq ⊢; exact hs i x δ h hi hq) (fun δ h hq => hl δ h (by rw [Nat.zero_add] at hq; exact hq))
  exact ⟨δ', h', e, by rw [Nat.zero_add] at q; exact q⟩
/-- a while with its measure -/
theorem while_run {c : En → HS → R Bool} {f : En → HS → Fl} : ∀ (m : Nat) {N : Nat} {δ : En} {h : HS} (Q : Nat → En → HS → Prop), m < N → Q m δ h →
    (∀ m δ h, Q m δ h → (∃ h1, c δ h = .ok false h1 ∧ Q 0 δ h1 ∧ m = 0) ∨ (∃ h1 δ' h' m', c δ h = .ok true h1 ∧ (f δ h1 = .next δ' h' ∨ f δ h1 = .cont δ' h') ∧ m' < m ∧ Q m' δ' h')) →
    ∃ δ' h', whileD c f N δ h = .next δ' h' ∧ Q 0 δ' h' := by
  intro m
  induction m using Nat.strongRecOn with
  | _ m ih =>
    intro N δ h Q hN h0 hs
    cases N with
    | zero => omega
    | succ N =>
      rw [whileD]
      rcases hs m δ h h0 with ⟨h1, e, q, _⟩ | ⟨h1, δ', h', m', e, ef, hm, q⟩
      · rw [e]
        exact ⟨δ, h1, rfl, q⟩
      · obtain ⟨δ2, h2, e2, q2⟩ := ih m' hm (N := N) Q (by omega) q hs
        refine ⟨δ2, h2, ?_, q2⟩
        rw [e]
        simp only [R.fl_ok, if_true]
        rcases ef with ef | ef <;> rw [ef] <;> exact e2
/-! ### comprehensions -/
theorem comp_pure {live : HS → Bool} {f : D → HS → R (List D)} {g : D → List D} {h : HS} (hl : live h = true) : ∀ {xs : List D}, (∀ x ∈ xs, f x h = .ok (g x) h) → compD live f xs h = .ok (xs.flatMap g) h
  | [], _ => by rw [compD, if_pos hl]; rfl
  | x :: r, hf => by
    rw [compD, if_pos hl, hf x List.mem_cons_self, R.bind_ok, comp_pure hl fun y hy => hf y (List.mem_cons_of_mem _ hy)]
    rfl
/-- one list from another -/
theorem comp_map {α : Type} {live : HS → Bool} {f : D → HS → R (List D)} {g : α → D} {u : α → D} {h : HS} (hl : live h = true) {l : List α} (hf : ∀ x ∈ l, f (u x) h = .ok [g x] h) : compD live f (l.map u) h = .ok (l.map g) h := by
  induction l with
  | nil => rw [List.map_nil, compD, if_pos hl]; rfl
  | cons x r ih =>
    rw [List.map_cons, compD, if_pos hl, hf x List.mem_cons_self, R.bind_ok, ih fun y hy => hf y (List.mem_cons_of_mem _ hy)]
    rfl
theorem comp_filter {α : Type} {live : HS → Bool} {f : D → HS → R (List D)} {g : α → D} {u : α → D} {b : α → Bool} {h : HS} (hl : live h = true) {l : List α} (hf : ∀ x ∈ l, f (u x) h = .ok (if b x then [g x] else []) h) :
    compD live f (l.map u) h = .ok ((l.filter b).map g) h := by
  induction l with
  | nil => rw [List.map_nil, compD, if_pos hl]; rfl
  | cons x r ih =>
    rw [List.map_cons, compD, if_pos hl, hf x List.mem_cons_self, R.bind_ok, ih fun y hy => hf y (List.mem_cons_of_mem _ hy)]
    rw [List.filter_cons]
    cases b x <;> rfl
/-- the heap goes on -/
theorem comp_run {live : HS → Bool} {f : D → HS → R (List D)} : ∀ {xs : List D} {h : HS} (Q : Nat → List D → HS → Prop) (k : Nat) (ys : List D), Q k ys h →
    (∀ i x ys h, xs[i]? = some x → Q (k + i) ys h → live h = true ∧ ∃ zs h', f x h = .ok zs h' ∧ Q (k + i + 1) (ys ++ zs) h') → (∀ ys h, Q (k + xs.length) ys h → live h = true) →
    ∃ zs h', compD live f xs h = .ok zs h' ∧ Q (k + xs.length) (ys ++ zs) h'
  | [], h, Q, k, ys, h0, hs, hl => by
    refine ⟨[], h, ?_, by rw [List.append_nil]; exact h0⟩
    rw [compD, if_pos (hl ys h h0)]
  | x :: r, h, Q, k, ys, h0, hs, hl => by
    obtain ⟨lv, zs, h1, e, q1⟩ := hs 0 x ys h rfl h0
    obtain ⟨us, h2, e2, q2⟩ := comp_run (live := live) (f := f) (xs := r) Q (k + 1) (ys ++ zs) q1 (fun i y ys h hi hq => by
      have e1 : k + 1 + i = k + (i + 1) := by omega
      rw [e1] at hq ⊢
      exact hs (i + 1) y ys h (by simpa using hi) hq) (fun ys h hq => hl ys h (by
      have e1 : k + 1 + r.length = k + (x :: r).length := by rw [List.length_cons]; omega
      rw [← e1]; exact hq))
    refine ⟨zs ++ us, h2, ?_, ?_⟩
    · rw [compD, if_pos lv, e, R.bind_ok, e2]; rfl
    · have e1 : k + 1 + r.length = k + (x :: r).length := by rw [List.length_cons]; omega
      rw [← e1, ← List.append_assoc]; exact q2
/-! ### calls -/
theorem call_run {T : Tb} {k : Nat} {f : Str} {d : Df} {args : List D} {h h1 : HS} {v : D} (ht : T f = some d) (hl : args.length = d.np) (he : execB (callD T k) d.body (startE d.n args) h = .ret v h1) : callD T (k + 1) f args h = trim h.length v h1 := by
  unfold callD
  rw [ht]
  simp only [if_pos hl, he]
theorem mkL_ok {xs : List D} {h : HS} (c : xs.length ≤ LIM) : mkL xs h = .ok (.ref h.length) (h ++ [.lst xs]) := by unfold mkL; rw [if_pos c]
theorem mkT_ok {xs : List D} {h : HS} (c : xs.length ≤ LIM) : mkT xs h = .ok (.tup xs) h := by unfold mkT; rw [if_pos c]
/-! ### statements -/
def bodyF (t : NT) (g : En → HS → Fl) (x : D) (δ : En) (h : HS) : Fl := match bindN t x δ with
  | some δ2 => g δ2 h
  | none => .bad
theorem bodyF_ok {t : NT} {g : En → HS → Fl} {x : D} {δ δ1 : En} {h : HS} (e : bindN t x δ = some δ1) : bodyF t g x δ h = g δ1 h := by unfold bodyF; rw [e]
theorem execS_for {cl : Cl} {t : NT} {it : CI} {b : CSs} {δ : En} {h : HS} : execS cl (.for_ t it b) δ h = (evalI cl it δ h).fl δ fun w h1 => forD (liveOk w.live) (bodyF t (execB cl b)) w.items δ h1 := by
  simp only [execS]; rfl
def turnD (cl : Cl) (own : List Nat) (tg : NT) (t : CB) (e : CE) (δ : En) (x : D) (h : HS) : R (List D) := match bindN tg x (wipeE δ own) with
  | some δ1 => (evalB cl t δ1 h).bind fun b h3 => if b then (evalE cl e δ1 h3).bind fun y h4 => .ok [y] h4 else .ok [] h3
  | none => .bad
theorem evalE_lc {cl : Cl} {own : List Nat} {tg : NT} {it : CI} {t : CB} {e : CE} {δ : En} {h : HS} : evalE cl (.lc own tg it t e) δ h = ((evalI cl it δ h).bind fun w h1 => (compD (liveOk w.live) (turnD cl own tg t e δ) w.items h1).nx.bind mkL).tr h.length := by
  simp only [evalE]; rfl
theorem turnD_ok {cl : Cl} {own : List Nat} {tg : NT} {t : CB} {e : CE} {δ δ1 : En} {x y : D} {h h3 h4 : HS} (eb : bindN tg x (wipeE δ own) = some δ1) (et : evalB cl t δ1 h = .ok true h3) (ee : evalE cl e δ1 h3 = .ok y h4) : turnD cl own tg t e δ x h = .ok [y] h4 := by
  unfold turnD; rw [eb]; simp only [et, R.bind_ok, if_true, ee]
theorem turnD_no {cl : Cl} {own : List Nat} {tg : NT} {t : CB} {e : CE} {δ δ1 : En} {x : D} {h h3 : HS} (eb : bindN tg x (wipeE δ own) = some δ1) (et : evalB cl t δ1 h = .ok false h3) : turnD cl own tg t e δ x h = .ok [] h3 := by
  unfold turnD; rw [eb]; simp only [et, R.bind_ok]; rfl
theorem turnD_b {cl : Cl} {own : List Nat} {tg : NT} {t : CB} {e : CE} {δ δ1 : En} {x y : D} {b : Bool} {h : HS} (eb : bindN tg x (wipeE δ own) = some δ1) (et : evalB cl t δ1 h = .ok b h) (ee : evalE cl e δ1 h = .ok y h) : turnD cl own tg t e δ x h = .ok (if b then [y] else []) h := by
  cases b with
  | true => exact turnD_ok eb et ee
  | false => exact turnD_no eb et
section
variable {cl : Cl} {s : CS} {r : CSs} {δ δ1 : En} {h h1 : HS} {e : CE} {v : D} {c : CB} {a b : CSs}
theorem step (he : execS cl s δ h = .next δ1 h1) : execB cl (.cons s r) δ h = execB cl r δ1 h1 := by rw [execB, he, Fl.then_next]
theorem retS (he : evalE cl e δ h = .ok v h1) : execB cl (.cons (.ret e) r) δ h = .ret v h1 := by rw [execB, execS, he]; rfl
theorem asgS {i : Nat} (he : evalE cl e δ h = .ok v h1) (hi : i < δ.length) : execB cl (.cons (.asg (.nm i) e) r) δ h = execB cl r (δ.set i (some v)) h1 := by
  refine step ?_
  simp only [execS, he, R.fl_ok, asgA, if_pos hi, R.nx_ok]
theorem subS {o i : CE} {x y : D} {h2 h3 h4 : HS} (he : evalE cl e δ h = .ok v h1) (ho : evalE cl o δ h1 = .ok x h2) (hi : evalE cl i δ h2 = .ok y h3) (hs : setF x y v h3 = .ok () h4) : execB cl (.cons (.asg (.sub o i) e) r) δ h = execB cl r δ h4 := by
  refine step ?_
  simp only [execS, he, R.fl_ok, asgA, ho, R.bind_ok, hi, hs, R.nx_ok]
theorem exS (he : evalE cl e δ h = .ok v h1) : execB cl (.cons (.ex e) r) δ h = execB cl r δ h1 := by
  refine step ?_
  simp only [execS, he, R.fl_ok]
theorem ifT (hc : evalB cl c δ h = .ok true h1) (ha : execB cl a δ h1 = .next δ1 h2) : execB cl (.cons (.ifs c a b) r) δ h = execB cl r δ1 h2 := by
  refine step ?_
  simp only [execS, hc, R.fl_ok, if_true, ha]
theorem ifR (hc : evalB cl c δ h = .ok true h1) (ha : execB cl a δ h1 = .ret v h2) : execB cl (.cons (.ifs c a b) r) δ h = .ret v h2 := by
  rw [execB, execS, hc]
  simp only [R.fl_ok, if_true, ha, Fl.then_ret]
theorem ifF (hc : evalB cl c δ h = .ok false h1) : execB cl (.cons (.ifs c a .nil) r) δ h = execB cl r δ h1 := by
  refine step ?_
  simp only [execS, hc, R.fl_ok]
  rfl
theorem ifE (hc : evalB cl c δ h = .ok false h1) (hb : execB cl b δ h1 = .next δ1 h2) : execB cl (.cons (.ifs c a b) r) δ h = execB cl r δ1 h2 := by
  refine step ?_
  simp only [execS, hc, R.fl_ok]
  exact hb
theorem nilS : execB cl .nil δ h = .next δ h := by rw [execB]
theorem forS {t : NT} {it : CI} {w : Its} (Q : Nat → En → HS → Prop) (hi : evalI cl it δ h = .ok w h1) (h0 : Q 0 δ h1)
    (hs : ∀ i x δ h, w.items[i]? = some x → Q i δ h → liveOk w.live h = true ∧ ∃ δ1 δ' h', bindN t x δ = some δ1 ∧ (execB cl b δ1 h = .next δ' h' ∨ execB cl b δ1 h = .cont δ' h') ∧ Q (i + 1) δ' h') (hl : ∀ δ h, Q w.items.length δ h → liveOk w.live h = true) :
    ∃ δ' h', execB cl (.cons (.for_ t it b) r) δ h = execB cl r δ' h' ∧ Q w.items.length δ' h' := by
  obtain ⟨δ', h', e, q⟩ := for_run (live := liveOk w.live) (f := bodyF t (execB cl b)) (xs := w.items) Q h0 (fun i x δ h hi hq => by
    obtain ⟨lv, δ1, δ', h', eb, ex, q⟩ := hs i x δ h hi hq
    exact ⟨lv, δ', h', by rw [bodyF_ok eb]; exact ex, q⟩) hl
  refine ⟨δ', h', step ?_, q⟩
  rw [execS_for, hi, R.fl_ok, e]
theorem whileS (Q : Nat → En → HS → Prop) (m : Nat) (hm : m < FUEL) (h0 : Q m δ h)
    (hs : ∀ m δ h, Q m δ h → (∃ h1, evalB cl c δ h = .ok false h1 ∧ Q 0 δ h1 ∧ m = 0) ∨ (∃ h1 δ' h' m', evalB cl c δ h = .ok true h1 ∧ (execB cl b δ h1 = .next δ' h' ∨ execB cl b δ h1 = .cont δ' h') ∧ m' < m ∧ Q m' δ' h')) :
    ∃ δ' h', execB cl (.cons (.while_ c b) r) δ h = execB cl r δ' h' ∧ Q 0 δ' h' := by
  obtain ⟨δ', h', e, q⟩ := while_run (c := evalB cl c) (f := execB cl b) m Q hm h0 hs
  refine ⟨δ', h', step ?_, q⟩
  rw [execS, e]
end
/-! ### expressions -/
section
variable {cl : Cl} {δ : En} {h h1 : HS} {e a b : CE} {i : Nat} {v x y : D}
theorem var_ok (e : δ[i]? = some (some v)) : evalE cl (.var i) δ h = .ok v h := by simp only [evalE, e]
theorem lit_ok : evalE cl (.lit v) δ h = .ok v h := by simp only [evalE]
/-- tuple([..]) where the list is made without a trace -/
theorem tuple_new {ys : List D} (he : evalE cl e δ h = .ok (.ref h.length) (h ++ [.lst ys])) (hw : WF h) (hl : D.los h.length ys = true) (c : ys.length ≤ LIM) : evalE cl (.bi .tuple (.cons e .nil)) δ h = .ok (.tup ys) h := by
  simp only [evalE, evalL, he, R.bind_ok, biF, itemsD, get_app_len]
  rw [mkT_ok c, R.tr_ok]
  exact trim_app hw (by rw [D.lo]; exact hl) rfl
/-- a comprehension that leaves no trace -/
theorem lc_new {own : List Nat} {tg : NT} {it : CI} {t : CB} {w : Its} {ys : List D} (hi : evalI cl it δ h = .ok w h)
    (hc : compD (liveOk w.live) (turnD cl own tg t e δ) w.items h = .ok ys h) (c : ys.length ≤ LIM) : evalE cl (.lc own tg it t e) δ h = .ok (.ref h.length) (h ++ [.lst ys]) := by
  rw [evalE_lc, hi, R.bind_ok, hc, R.nx_ok, R.bind_ok, mkL_ok c, R.tr_ok, trim_one]
theorem seq_tup {xs : List D} (he : evalE cl e δ h = .ok (.tup xs) h) : evalI cl (.seq e) δ h = .ok ⟨xs, none⟩ h := by
  simp only [evalI, he, R.bind_ok]
  rfl
theorem seq_P {p : List Nat} (e : δ[i]? = some (some (P p))) : evalI cl (.seq (.var i)) δ h = .ok ⟨p.map dN, none⟩ h := seq_tup (var_ok e)
theorem enum_P {p : List Nat} (e : δ[i]? = some (some (P p))) : evalI cl (.enum (.var i)) δ h = .ok ⟨enumL 0 (p.map dN), none⟩ h := by
  simp only [evalI, evalE, e, R.bind_ok]
  rfl
theorem rng_ok1 {n : Nat} (he : evalE cl e δ h = .ok (dN n) h1) (hn : n ≤ LIM) : evalI cl (.rng (.cons e .nil)) δ h = .ok ⟨(List.range n).map dN, none⟩ h1 := by
  simp only [evalI, evalL, he, R.bind_ok, rngF]
  rw [if_pos (by simpa using hn)]
  simp only [rngL_nat]
theorem len_P {p : List Nat} (e : δ[i]? = some (some (P p))) : evalE cl (.bi .len (.cons (.var i) .nil)) δ h = .ok (dN p.length) h := by
  simp only [evalE, evalL, e, R.bind_ok, biF, itemsD, P, List.length_map, R.tr_ok, trim_self]
theorem len_ref {n : Nat} {xs : List D} (e : δ[i]? = some (some (.ref n))) (e2 : h[n]? = some (.lst xs)) : evalE cl (.bi .len (.cons (.var i) .nil)) δ h = .ok (dN xs.length) h := by
  simp only [evalE, evalL, e, R.bind_ok, biF, e2, R.tr_ok, trim_self]
theorem ix_P {p : List Nat} {k : Nat} (ha : evalE cl a δ h = .ok (P p) h) (hb : evalE cl b δ h = .ok (dN k) h) (hk : k < p.length) : evalE cl (.ix a b) δ h = .ok (dN (at_ p k)) h := by
  simp only [evalE, ha, hb, R.bind_ok, ixF_P hk, R.tr_ok, trim_self]
theorem call_1 {f : Str} (ha : evalE cl a δ h = .ok x h) (hc : cl f [x] h = .ok v h) : evalE cl (.call f (.cons a .nil)) δ h = .ok v h := by
  simp only [evalE, evalL, ha, R.bind_ok, hc, R.tr_ok, trim_self]
theorem call_2 {f : Str} (ha : evalE cl a δ h = .ok x h) (hb : evalE cl b δ h = .ok y h) (hc : cl f [x, y] h = .ok v h) : evalE cl (.call f (.cons a (.cons b .nil))) δ h = .ok v h := by
  simp only [evalE, evalL, ha, hb, R.bind_ok, hc, R.tr_ok, trim_self]
theorem setF_lst {n k : Nat} {xs : List D} (e : h[n]? = some (.lst xs)) (hk : k < xs.length) : setF (.ref n) (dN k) v h = .ok () (h.set n (.lst (xs.set k v))) := by
  unfold setF
  simp only [e]
  rw [ixN_nat hk]
theorem tuple_ref {m : Nat} {xs : List D} (e : δ[i]? = some (some (.ref m))) (e2 : h[m]? = some (.lst xs)) (c : xs.length ≤ LIM) : evalE cl (.bi .tuple (.cons (.var i) .nil)) δ h = .ok (.tup xs) h := by
  simp only [evalE, evalL, e, R.bind_ok, biF, itemsD, e2]
  rw [mkT_ok c, R.tr_ok, trim_self]
theorem zeros {p : List Nat} (e : δ[i]? = some (some (P p))) (hw : WF h) (hl : p.length ≤ LIM) :
    evalE cl (.bin .Mult (.lst (.cons (.lit (.int 0)) .nil)) (.bi .len (.cons (.var i) .nil))) δ h = .ok (.ref h.length) (h ++ [.lst ((List.replicate p.length 0).map dN)]) := by
  simp only [evalE, evalL, R.bind_ok, e, biF, itemsD, P]
  rw [mkL_ok (by simp [LIM])]
  simp only [R.bind_ok, R.tr_ok, List.length_map, trim_self, binF, get_app_len]
  rw [if_pos ?_]
  · rw [R.tr_ok]
    have : (h ++ [Cell.lst [D.int 0]] ++ [Cell.lst (List.replicate ((p.length : Int).toNat) [D.int 0]).flatten]) = h ++ [Cell.lst [D.int 0], Cell.lst ((List.replicate p.length 0).map dN)] := by
      rw [List.append_assoc]
      congr 2
      simp
    rw [this]
    refine trim_new hw (by simp) (c := .lst ((List.replicate p.length 0).map dN)) ?_ los_nats
    simp
  · simp [LIM] at hl ⊢
    omega
end
theorem enumL_at {xs : List D} {i : Nat} {x : D} (h : (enumL 0 xs)[i]? = some x) : ∃ y, xs[i]? = some y ∧ x = .kt [.int (i : Nat), y] := by
  have key : ∀ (xs : List D) (k i : Nat) (x : D), (enumL k xs)[i]? = some x → ∃ y, xs[i]? = some y ∧ x = .kt [.int ((k + i : Nat) : Int), y] := by
    intro xs
    induction xs with
    | nil => intro k i x h; simp [enumL] at h
    | cons y r ih =>
      intro k i x h
      rw [enumL] at h
      cases i with
      | zero => simp at h; exact ⟨y, rfl, h.symm⟩
      | succ i =>
        obtain ⟨z, e1, e2⟩ := ih (k + 1) i x (by simpa using h)
        refine ⟨z, by simpa using e1, ?_⟩
        rw [e2, show k + 1 + i = k + (i + 1) by omega]
  obtain ⟨y, e1, e2⟩ := key xs 0 i x h
  exact ⟨y, e1, by rw [e2, Nat.zero_add]⟩
theorem enumL_len (xs : List D) : (enumL 0 xs).length = xs.length := enumL_length 0 xs
theorem enumP_at {p : List Nat} {i : Nat} {x : D} (h : (enumL 0 (p.map dN))[i]? = some x) : i < p.length ∧ x = .kt [dN i, dN (at_ p i)] := by
  obtain ⟨y, e1, rfl⟩ := enumL_at h
  have hlt : i < p.length := by
    have := (List.getElem?_eq_some_iff.mp e1).1
    simpa using this
  rw [map_get hlt] at e1
  cases e1
  exact ⟨hlt, rfl⟩
theorem range_at {n i : Nat} {x : D} (h : ((List.range n).map dN)[i]? = some x) : i < n ∧ x = dN i := by
  have hlt : i < n := by
    have := (List.getElem?_eq_some_iff.mp h).1
    simpa using this
  rw [List.getElem?_map, List.getElem?_range hlt] at h
  cases h
  exact ⟨hlt, rfl⟩
/-- writes into a row, one after another -/
def rowW (r : List Nat) (n : Nat) (a b : Nat → Nat) : List Nat := (List.range n).foldl (fun r x => r.set (a x) (b x)) r
theorem rowW_succ {r : List Nat} {n : Nat} {a b : Nat → Nat} : rowW r (n + 1) a b = (rowW r n a b).set (a n) (b n) := by
  unfold rowW
  rw [List.range_succ, List.foldl_append]; rfl
theorem rowW_len {r : List Nat} {n : Nat} {a b : Nat → Nat} : (rowW r n a b).length = r.length := by
  induction n with
  | zero => rfl
  | succ n ih => rw [rowW_succ, List.length_set, ih]
theorem map_set {p : List Nat} {k v : Nat} : (p.map dN).set k (dN v) = (p.set k v).map dN := by rw [List.map_set]
theorem at_lt {p : List Nat} {x n : Nat} (hp : ∀ y ∈ p, y < n) (hx : x < p.length) : at_ p x < n := hp _ (List.mem_of_getElem? (at_get hx))
end Mi

namespace Mi
/-! ## permutations as rows of numbers -/
theorem ph {α : Type} [DecidableEq α] : ∀ {l m : List α}, l.Nodup → (∀ x ∈ l, x ∈ m) → l.length ≤ m.length
  | [], _, _, _ => Nat.zero_le _
  | x :: r, m, nd, h => by
    have hx := h x List.mem_cons_self
    rw [List.nodup_cons] at nd
    have := ph (l := r) (m := m.erase x) nd.2 fun y hy => by
      rw [List.mem_erase_of_ne (fun e => nd.1 (by rw [← e]; exact hy))]
      exact h y (List.mem_cons_of_mem _ hy)
    rw [List.length_erase_of_mem hx] at this
    have pos : 0 < m.length := List.length_pos_of_mem hx
    rw [List.length_cons]; omega
theorem ph_all {n : Nat} {l : List Nat} (nd : l.Nodup) (h : ∀ x ∈ l, x < n) (hl : l.length = n) {y : Nat} (hy : y < n) : y ∈ l := by
  by_cases c : y ∈ l
  · exact c
  · exfalso
    have := ph (l := y :: l) (m := List.range n) (List.nodup_cons.mpr ⟨c, nd⟩) fun x hx => by
      rw [List.mem_range]
      rcases List.mem_cons.mp hx with e | e
      · rw [e]; exact hy
      · exact h x e
    rw [List.length_cons, List.length_range, hl] at this
    omega
structure Pm (n : Nat) (p : List Nat) : Prop where
  len : p.length = n
  nd : p.Nodup
  lt : ∀ x ∈ p, x < n
section
variable {n : Nat} {p q : List Nat} {x y : Nat}
theorem at_eq (h : x < p.length) : at_ p x = p[x] := by
  unfold at_
  rw [List.getD_eq_getElem?_getD, List.getElem?_eq_getElem h]; rfl
theorem Pm.at_lt (h : Pm n p) (hx : x < n) : at_ p x < n := Mi.at_lt h.lt (by rw [h.len]; exact hx)
theorem Pm.at_mem (h : Pm n p) (hx : x < n) : at_ p x ∈ p := List.mem_of_getElem? (at_get (by rw [h.len]; exact hx))
theorem Pm.inj (h : Pm n p) (hx : x < n) (hy : y < n) (e : at_ p x = at_ p y) : x = y := by
  have hx' : x < p.length := by rw [h.len]; exact hx
  have hy' : y < p.length := by rw [h.len]; exact hy
  rw [at_eq hx', at_eq hy'] at e
  exact (List.getElem_inj h.nd).mp e
theorem Pm.surj (h : Pm n p) (hy : y < n) : ∃ x, x < n ∧ at_ p x = y := by
  have := ph_all h.nd h.lt h.len hy
  obtain ⟨x, hx, e⟩ := List.mem_iff_getElem.mp this
  exact ⟨x, by rw [← h.len]; exact hx, by rw [at_eq hx]; exact e⟩
/-- a row given by its entries -/
theorem Pm.of_at (hl : p.length = n) (h1 : ∀ x, x < n → at_ p x < n) (h2 : ∀ x y, x < n → y < n → at_ p x = at_ p y → x = y) : Pm n p := by
  refine ⟨hl, ?_, fun x hx => ?_⟩
  · rw [List.nodup_iff_pairwise_ne, List.pairwise_iff_getElem]
    intro i j hi hj hij e
    have := h2 i j (by omega) (by omega) (by rw [at_eq hi, at_eq hj]; exact e)
    omega
  · obtain ⟨i, hi, e⟩ := List.mem_iff_getElem.mp hx
    rw [← e, ← at_eq hi]; exact h1 i (by omega)
theorem row_ext (hl : p.length = n) (hq : q.length = n) (h : ∀ x, x < n → at_ p x = at_ q x) : p = q := by
  refine List.ext_getElem (by omega) fun i h1 h2 => ?_
  have := h i (by omega)
  rw [at_eq h1, at_eq h2] at this; exact this
theorem Pm.range : Pm n (List.range n) := ⟨List.length_range, List.nodup_range, fun x hx => List.mem_range.mp hx⟩
theorem at_range (h : x < n) : at_ (List.range n) x = x := by
  rw [at_eq (by simpa using h)]; simp
theorem at_map {f : Nat → Nat} (h : x < p.length) : at_ (p.map f) x = f (at_ p x) := by
  rw [at_eq (by simpa using h), at_eq h]; simp
theorem at_set {v : Nat} (h : x < p.length) : at_ (p.set y v) x = if y = x then v else at_ p x := by
  rw [at_eq (by simpa using h), List.getElem_set, at_eq h]
/-! ### products, inverses -/
def tm (p q : List Nat) : List Nat := p.map fun x => at_ q x
theorem tm_len : (tm p q).length = p.length := by unfold tm; rw [List.length_map]
theorem at_tm (h : x < p.length) : at_ (tm p q) x = at_ q (at_ p x) := by unfold tm; exact at_map h
theorem Pm.tm (hp : Pm n p) (hq : Pm n q) : Pm n (tm p q) := by
  refine Pm.of_at (by rw [tm_len, hp.len]) (fun x hx => ?_) (fun x y hx hy e => ?_)
  · rw [at_tm (by rw [hp.len]; exact hx)]; exact hq.at_lt (hp.at_lt hx)
  · rw [at_tm (by rw [hp.len]; exact hx), at_tm (by rw [hp.len]; exact hy)] at e
    exact hp.inj hx hy (hq.inj (hp.at_lt hx) (hp.at_lt hy) e)
theorem rowW_at {r : List Nat} {a b : Nat → Nat} : ∀ {n : Nat}, (∀ x, x < n → a x < r.length) → (∀ x y, x < n → y < n → a x = a y → x = y) → x < n → at_ (rowW r n a b) (a x) = b x
  | 0, _, _, h => by omega
  | n + 1, h1, h2, h => by
    rw [rowW_succ, at_set (by rw [rowW_len]; exact h1 x h)]
    by_cases e : a n = a x
    · rw [if_pos e, h2 n x (by omega) h e]
    · rw [if_neg e]
      have : x ≠ n := fun z => e (by rw [z])
      exact rowW_at (fun x hx => h1 x (by omega)) (fun x y hx hy => h2 x y (by omega) (by omega)) (by omega)
def inv (p : List Nat) : List Nat := rowW (List.replicate p.length 0) p.length (at_ p) id
theorem inv_len : (inv p).length = p.length := by unfold inv; rw [rowW_len, List.length_replicate]
theorem Pm.at_inv (h : Pm n p) (hx : x < n) : at_ (inv p) (at_ p x) = x := by
  unfold inv
  refine rowW_at (b := id) (fun y hy => ?_) (fun y z hy hz => ?_) (by rw [h.len]; exact hx)
  · rw [List.length_replicate, h.len]; rw [h.len] at hy; exact h.at_lt hy
  · rw [h.len] at hy hz; exact h.inj hy hz
theorem Pm.inv_lt (h : Pm n p) (hy : y < n) : at_ (inv p) y < n ∧ at_ p (at_ (inv p) y) = y := by
  obtain ⟨x, hx, rfl⟩ := h.surj hy
  rw [h.at_inv hx]; exact ⟨hx, rfl⟩
theorem Pm.inv (h : Pm n p) : Pm n (inv p) := by
  refine Pm.of_at (by rw [inv_len, h.len]) (fun x hx => (h.inv_lt hx).1) (fun x y hx hy e => ?_)
  rw [← (h.inv_lt hx).2, ← (h.inv_lt hy).2, e]
def cj (p c : List Nat) : List Nat := rowW (List.replicate p.length 0) p.length (at_ c) fun x => at_ c (at_ p x)
theorem cj_len {c : List Nat} : (cj p c).length = p.length := by unfold cj; rw [rowW_len, List.length_replicate]
theorem comm_eq (hp : Pm n p) (hq : Pm n q) : tm (inv (tm q p)) (tm p q) = tm (tm (inv p) (inv q)) (tm p q) := by
  have e : inv (tm q p) = tm (inv p) (inv q) := by
    have hpq := hq.tm hp
    refine row_ext (n := n) (by rw [inv_len, tm_len, hq.len]) (by rw [tm_len, inv_len, hp.len]) fun y hy => ?_
    rw [at_tm (by rw [inv_len, hp.len]; exact hy)]
    have e1 := hpq.inv_lt hy
    have e2 : at_ q (at_ (inv (tm q p)) y) = at_ (inv p) y := by
      have := e1.2
      rw [at_tm (by rw [hq.len]; exact e1.1)] at this
      rw [← hp.at_inv (hq.at_lt e1.1), this]
    rw [← e2, hq.at_inv e1.1]
  rw [e]
/-! ### orbits -/
def it (p : List Nat) : Nat → Nat → Nat
  | 0, x => x
  | k + 1, x => at_ p (it p k x)
theorem Pm.it_lt (h : Pm n p) (hx : x < n) : ∀ k, it p k x < n
  | 0 => hx
  | k + 1 => h.at_lt (h.it_lt hx k)
theorem it_add (a b : Nat) : it p (a + b) x = it p a (it p b x) := by
  induction a with
  | zero => rw [Nat.zero_add]; rfl
  | succ a ih => rw [Nat.add_right_comm]; show at_ p _ = at_ p _; rw [ih]
theorem it_at (k : Nat) : it p k (at_ p x) = it p (k + 1) x := (it_add k 1).symm
theorem Pm.it_inj (h : Pm n p) (hx : x < n) (hy : y < n) : ∀ k, it p k x = it p k y → x = y
  | 0, e => e
  | k + 1, e => h.it_inj hx hy k (h.inj (h.it_lt hx k) (h.it_lt hy k) e)
theorem Pm.back (h : Pm n p) (hx : x < n) : ∃ k, k < n ∧ it p (k + 1) x = x := by
  by_cases c : ((List.range (n + 1)).map fun k => it p k x).Nodup
  · exfalso
    have := ph (m := List.range n) c fun y hy => by
      obtain ⟨k, _, rfl⟩ := List.mem_map.mp hy
      exact List.mem_range.mpr (h.it_lt hx k)
    simp at this
    omega
  · have : ∃ i j, i < j ∧ j < n + 1 ∧ it p i x = it p j x := by
      apply Classical.byContradiction
      intro hn
      apply c
      rw [List.nodup_iff_pairwise_ne, List.pairwise_iff_getElem]
      intro i j hi hj hij e
      simp at hi hj e
      exact hn ⟨i, j, hij, hj, e⟩
    obtain ⟨i, j, hij, hj, e⟩ := this
    refine ⟨j - i - 1, by omega, ?_⟩
    have e2 : j = i + (j - i - 1 + 1) := by omega
    rw [e2, it_add] at e
    exact (h.it_inj hx (h.it_lt hx _) i e).symm
def per (p : List Nat) (x : Nat) : Nat := ((List.range p.length).find? fun k => it p (k + 1) x == x).getD 0 + 1
theorem Pm.per_spec (h : Pm n p) (hx : x < n) : it p (per p x) x = x ∧ per p x ≤ n ∧ ∀ k, 1 ≤ k → k < per p x → it p k x ≠ x := by
  unfold per
  rw [h.len]
  cases e : (List.range n).find? fun k => it p (k + 1) x == x with
  | none =>
    obtain ⟨k, hk, q⟩ := h.back hx
    have := List.find?_eq_none.mp e k (List.mem_range.mpr hk)
    simp [q] at this
  | some k =>
    rw [List.find?_range_eq_some] at e
    obtain ⟨e1, e2, e3⟩ := e
    refine ⟨by simpa using e1, by simp at e2 ⊢; omega, fun j h1 h2 => ?_⟩
    simp at h2
    have := e3 (j - 1) (by omega)
    rw [show j - 1 + 1 = j by omega] at this
    simpa using this
theorem per_pos : 0 < per p x := Nat.succ_pos _
theorem Pm.it_per (h : Pm n p) (hx : x < n) (m k : Nat) : it p (k + m * per p x) x = it p k x := by
  induction m with
  | zero => rw [Nat.zero_mul]; rfl
  | succ m ih => rw [Nat.succ_mul, ← Nat.add_assoc, it_add, (h.per_spec hx).1, ih]
theorem Pm.it_mod (h : Pm n p) (hx : x < n) (k : Nat) : it p (k % per p x) x = it p k x := by
  have := h.it_per hx (k / per p x) (k % per p x)
  rw [Nat.mul_comm, Nat.mod_add_div] at this
  exact this.symm
theorem Pm.it_eq (h : Pm n p) (hx : x < n) {i j : Nat} (hi : i < per p x) (hj : j < per p x) (e : it p i x = it p j x) : i = j := by
  have key : ∀ {i j : Nat}, i < per p x → j < per p x → it p i x = it p j x → ¬ i < j := fun {i j} hi hj e hlt => by
    have e2 : j = i + (j - i) := by omega
    rw [e2, it_add] at e
    have := h.it_inj hx (h.it_lt hx _) i e
    exact (h.per_spec hx).2.2 (j - i) (by omega) (by omega) this.symm
  have a := key hi hj e
  have b := key hj hi e.symm
  omega
def cyc (p : List Nat) (x : Nat) : List Nat := (List.range (per p x)).map fun k => it p k x
theorem cyc_len : (cyc p x).length = per p x := by unfold cyc; simp
theorem Pm.mem_cyc (h : Pm n p) (hx : x < n) : y ∈ cyc p x ↔ ∃ k, it p k x = y := by
  unfold cyc
  rw [List.mem_map]
  constructor
  · rintro ⟨k, _, e⟩; exact ⟨k, e⟩
  · rintro ⟨k, e⟩
    exact ⟨k % per p x, List.mem_range.mpr (Nat.mod_lt _ per_pos), by rw [h.it_mod hx]; exact e⟩
theorem Pm.cyc_nd (h : Pm n p) (hx : x < n) : (cyc p x).Nodup := by
  unfold cyc
  rw [List.nodup_iff_pairwise_ne, List.pairwise_iff_getElem]
  intro i j hi hj hij e
  simp at hi hj e
  have := h.it_eq hx hi hj e
  omega
theorem Pm.cyc_lt (h : Pm n p) (hx : x < n) (hy : y ∈ cyc p x) : y < n := by
  obtain ⟨k, rfl⟩ := (h.mem_cyc hx).mp hy
  exact h.it_lt hx k
theorem Pm.self_cyc (h : Pm n p) (hx : x < n) : x ∈ cyc p x := (h.mem_cyc hx).mpr ⟨0, rfl⟩
/-- to go on, then come back -/
theorem Pm.undo (h : Pm n p) (hx : x < n) (k : Nat) : ∃ j, it p j (it p k x) = x := by
  refine ⟨per p x - k % per p x, ?_⟩
  have e : it p k x = it p (k % per p x) x := (h.it_mod hx k).symm
  have hm := Nat.mod_lt k (per_pos (p := p) (x := x))
  rw [e, ← it_add, show per p x - k % per p x + k % per p x = per p x by omega]
  exact (h.per_spec hx).1
theorem Pm.cyc_symm (h : Pm n p) (hx : x < n) (hy : y < n) (e : y ∈ cyc p x) : x ∈ cyc p y := by
  obtain ⟨k, rfl⟩ := (h.mem_cyc hx).mp e
  exact (h.mem_cyc hy).mpr (h.undo hx k)
theorem Pm.cyc_trans (h : Pm n p) {z : Nat} (hx : x < n) (hy : y < n) (e : y ∈ cyc p x) (e2 : z ∈ cyc p y) : z ∈ cyc p x := by
  obtain ⟨k, rfl⟩ := (h.mem_cyc hx).mp e
  obtain ⟨j, rfl⟩ := (h.mem_cyc hy).mp e2
  exact (h.mem_cyc hx).mpr ⟨j + k, it_add j k⟩
/-- the least of its cycle -/
def mn (p : List Nat) (x : Nat) : Bool := (cyc p x).all fun y => decide (x ≤ y)
theorem mn_iff : mn p x = true ↔ ∀ y ∈ cyc p x, x ≤ y := by
  unfold mn
  rw [List.all_eq_true]
  simp
theorem Pm.mn_unique (h : Pm n p) {z : Nat} (hx : x < n) (hy : y < n) (hz : z < n) (mx : mn p x = true) (my : mn p y = true) (e : z ∈ cyc p x) (e2 : z ∈ cyc p y) : x = y := by
  have a := mn_iff.mp mx y (h.cyc_trans hx hz e (h.cyc_symm hy hz e2))
  have b := mn_iff.mp my x (h.cyc_trans hy hz e2 (h.cyc_symm hx hz e))
  omega
theorem exists_least : ∀ {l : List Nat}, l ≠ [] → ∃ m ∈ l, ∀ y ∈ l, m ≤ y
  | [], h => absurd rfl h
  | [x], _ => ⟨x, List.mem_cons_self, fun y hy => by simp at hy; omega⟩
  | x :: z :: r, _ => by
    obtain ⟨m, hm, h⟩ := exists_least (l := z :: r) (by simp)
    by_cases c : x ≤ m
    · refine ⟨x, List.mem_cons_self, fun y hy => ?_⟩
      rcases List.mem_cons.mp hy with e | e
      · omega
      · have := h y e; omega
    · refine ⟨m, List.mem_cons_of_mem _ hm, fun y hy => ?_⟩
      rcases List.mem_cons.mp hy with e | e
      · omega
      · exact h y e
theorem Pm.has_mn (h : Pm n p) (hx : x < n) : ∃ m, m < n ∧ mn p m = true ∧ x ∈ cyc p m := by
  obtain ⟨m, hm, hl⟩ := exists_least (l := cyc p x) (List.ne_nil_of_mem (h.self_cyc hx))
  have hmn := h.cyc_lt hx hm
  refine ⟨m, hmn, mn_iff.mpr fun y hy => hl y (h.cyc_trans hx hmn hm hy), h.cyc_symm hx hmn hm⟩
def rows (p : List Nat) : List (List Nat) := ((List.range p.length).filter (mn p)).map (cyc p)
theorem Pm.rows_mem (h : Pm n p) {r : List Nat} (hr : r ∈ rows p) : ∃ x, x < n ∧ mn p x = true ∧ r = cyc p x := by
  unfold rows at hr
  obtain ⟨x, hx, rfl⟩ := List.mem_map.mp hr
  rw [List.mem_filter, List.mem_range, h.len] at hx
  exact ⟨x, hx.1, hx.2, rfl⟩
end
end Mi

namespace Mi
/-! ## sums -/
def sm : Nat → (Nat → Nat) → Nat
  | 0, _ => 0
  | n + 1, f => sm n f + f n
theorem sm_congr {f g : Nat → Nat} : ∀ {n : Nat}, (∀ x, x < n → f x = g x) → sm n f = sm n g
  | 0, _ => rfl
  | n + 1, h => by rw [sm, sm, sm_congr fun x hx => h x (by omega), h n (by omega)]
theorem sm_add {f g : Nat → Nat} : ∀ {n : Nat}, sm n (fun x => f x + g x) = sm n f + sm n g
  | 0 => rfl
  | n + 1 => by rw [sm, sm, sm, sm_add]; omega
theorem sm_zero : ∀ {n : Nat}, sm n (fun _ => 0) = 0
  | 0 => rfl
  | n + 1 => by rw [sm, sm_zero]
theorem sm_pt {b : Nat} {f : Nat → Nat} : ∀ {n : Nat}, b < n → sm n f = sm n (fun x => if x = b then 0 else f x) + f b
  | 0, h => by omega
  | n + 1, h => by
    rw [sm, sm]
    by_cases e : n = b
    · subst e
      rw [if_pos rfl, sm_congr (f := f) (g := fun x => if x = n then 0 else f x) fun x hx => by rw [if_neg (by omega)]]; omega
    · rw [if_neg e, sm_pt (b := b) (f := f) (n := n) (by omega)]; omega
theorem sm_cut {b : Nat} {f : Nat → Nat} : ∀ {n : Nat}, b ≤ n → sm n (fun x => if x < b then f x else 0) = sm b f
  | 0, h => by have : b = 0 := by omega
               subst this; rfl
  | n + 1, h => by
    by_cases e : b = n + 1
    · subst e; exact sm_congr fun x hx => if_pos hx
    · rw [sm, if_neg (by omega), sm_cut (by omega)]; omega
theorem sm_filter {P : Nat → Bool} : ∀ {n : Nat}, ((List.range n).filter P).length = sm n fun x => if P x then 1 else 0
  | 0 => rfl
  | n + 1 => by
    rw [List.range_succ, List.filter_append, List.length_append, sm_filter, sm]
    congr 1
    rw [List.filter_cons, List.filter_nil]
    cases P n <;> rfl
/-! ## the parity -/
/-- how many before x are greater -/
def tc (p : List Nat) (x : Nat) : Nat := sm x fun y => if at_ p x < at_ p y then 1 else 0
def turned (n : Nat) (p : List Nat) : Nat := sm n (tc p)
section
variable {n : Nat} {p : List Nat} {x y : Nat}
theorem Pm.mn_it (h : Pm n p) (hx : x < n) : mn p x = true ↔ ∀ k, x ≤ it p k x := by
  rw [mn_iff]
  constructor
  · exact fun a k => a _ ((h.mem_cyc hx).mpr ⟨k, rfl⟩)
  · intro a y hy
    obtain ⟨k, rfl⟩ := (h.mem_cyc hx).mp hy
    exact a k
/-- the last point cut out of its cycle -/
def cutP (n : Nat) (p : List Nat) : List Nat := (List.range n).map fun x => if at_ p x = n then at_ p n else at_ p x
theorem at_cut (hx : x < n) : at_ (cutP n p) x = if at_ p x = n then at_ p n else at_ p x := by
  unfold cutP
  rw [at_map (f := fun x => if at_ p x = n then at_ p n else at_ p x) (by simpa using hx), at_range hx]
theorem cut_pm (h : Pm (n + 1) p) : Pm n (cutP n p) := by
  have ne : ∀ x, x < n → at_ p x = n → at_ p n ≠ n := fun x hx e e2 => by
    have := h.inj (x := x) (y := n) (by omega) (by omega) (by rw [e, e2]); omega
  refine Pm.of_at (by unfold cutP; simp) (fun x hx => ?_) (fun x y hx hy e => ?_)
  · rw [at_cut hx]
    by_cases c : at_ p x = n
    · rw [if_pos c]
      have := h.at_lt (x := n) (by omega)
      have := ne x hx c; omega
    · rw [if_neg c]
      have := h.at_lt (x := x) (by omega); omega
  · rw [at_cut hx, at_cut hy] at e
    by_cases c : at_ p x = n
    · rw [if_pos c] at e
      by_cases d : at_ p y = n
      · exact h.inj (by omega) (by omega) (by rw [c, d])
      · rw [if_neg d] at e
        have := h.inj (x := n) (y := y) (by omega) (by omega) e; omega
    · rw [if_neg c] at e
      by_cases d : at_ p y = n
      · rw [if_pos d] at e
        have := h.inj (x := x) (y := n) (by omega) (by omega) e; omega
      · rw [if_neg d] at e
        exact h.inj (by omega) (by omega) e
theorem cut_mn (h : Pm (n + 1) p) (hx : x < n) : mn p x = mn (cutP n p) x := by
  have hc := cut_pm h
  have A : ∀ k, ∃ j, it (cutP n p) k x = it p j x := by
    intro k
    induction k with
    | zero => exact ⟨0, rfl⟩
    | succ k ih =>
      obtain ⟨j, e⟩ := ih
      have hz := hc.it_lt hx k
      show ∃ j, at_ (cutP n p) (it (cutP n p) k x) = _
      rw [at_cut hz]
      by_cases c : at_ p (it (cutP n p) k x) = n
      · rw [if_pos c]
        refine ⟨j + 2, ?_⟩
        show at_ p n = at_ p (at_ p (it p j x))
        rw [← e, c]
      · rw [if_neg c]
        exact ⟨j + 1, by rw [e]; rfl⟩
  have B : ∀ k, (∃ j, it p k x = it (cutP n p) j x) ∨ (it p k x = n ∧ ∃ j, at_ p (it (cutP n p) j x) = n) := by
    intro k
    induction k with
    | zero => exact .inl ⟨0, rfl⟩
    | succ k ih =>
      rcases ih with ⟨j, e⟩ | ⟨e, j, q⟩
      · show (∃ i, at_ p (it p k x) = _) ∨ (at_ p (it p k x) = n ∧ _)
        rw [e]
        by_cases c : at_ p (it (cutP n p) j x) = n
        · exact .inr ⟨c, j, c⟩
        · refine .inl ⟨j + 1, ?_⟩
          show _ = at_ (cutP n p) (it (cutP n p) j x)
          rw [at_cut (hc.it_lt hx j), if_neg c]
      · refine .inl ⟨j + 1, ?_⟩
        show at_ p (it p k x) = at_ (cutP n p) (it (cutP n p) j x)
        rw [at_cut (hc.it_lt hx j), if_pos q, e]
  rw [Bool.eq_iff_iff, h.mn_it (by omega), hc.mn_it hx]
  constructor
  · intro a k
    obtain ⟨j, e⟩ := A k
    rw [e]; exact a j
  · intro a k
    rcases B k with ⟨j, e⟩ | ⟨e, _⟩
    · rw [e]; exact a j
    · rw [e]; omega
theorem last_mn (h : Pm (n + 1) p) : mn p n = decide (at_ p n = n) := by
  rw [Bool.eq_iff_iff, h.mn_it (by omega), decide_eq_true_eq]
  constructor
  · intro a
    have := a 1
    have e : it p 1 n = at_ p n := rfl
    rw [e] at this
    have := h.at_lt (x := n) (by omega); omega
  · intro e k
    have : ∀ k, it p k n = n := by
      intro k
      induction k with
      | zero => rfl
      | succ k ih => show at_ p (it p k n) = n; rw [ih, e]
    rw [this]; exact Nat.le_refl _
theorem cut_turned (h : Pm (n + 1) p) : (turned (n + 1) p) % 2 = (turned n (cutP n p) + if at_ p n = n then 0 else 1) % 2 := by
  by_cases c : at_ p n = n
  · rw [if_pos c, Nat.add_zero]
    have same : ∀ x, x < n → at_ (cutP n p) x = at_ p x := fun x hx => by
      rw [at_cut hx, if_neg]
      intro e
      have := h.inj (x := x) (y := n) (by omega) (by omega) (by rw [e, c]); omega
    have e1 : tc p n = 0 := by
      unfold tc
      rw [sm_congr (g := fun _ => 0), sm_zero]
      intro y hy
      rw [c, if_neg]
      have := h.at_lt (x := y) (by omega); omega
    show (sm n (tc p) + tc p n) % 2 = (sm n (tc (cutP n p))) % 2
    rw [e1, Nat.add_zero]
    congr 1
    refine sm_congr fun x hx => ?_
    unfold tc
    refine sm_congr fun y hy => ?_
    rw [same x hx, same y (by omega)]
  · rw [if_neg c]
    obtain ⟨b, hb, eb⟩ := h.surj (y := n) (by omega)
    have hbn : b < n := by
      have : b ≠ n := fun z => c (by rw [← z, eb, z])
      omega
    have ha : at_ p n < n := by have := h.at_lt (x := n) (by omega); omega
    have off : ∀ x, x < n → x ≠ b → at_ (cutP n p) x = at_ p x := fun x hx hne => by
      rw [at_cut hx, if_neg]
      intro e
      exact hne (h.inj (by omega) (by omega) (by rw [e, eb]))
    have on : at_ (cutP n p) b = at_ p n := by rw [at_cut hbn, if_pos eb]
    have lt_n : ∀ x, x < n → x ≠ b → at_ p x < n := fun x hx hne => by
      have h1 := h.at_lt (x := x) (by omega)
      have : at_ p x ≠ n := fun e => hne (h.inj (by omega) (by omega) (by rw [e, eb]))
      omega
    have ne_a : ∀ x, x < n → at_ p x ≠ at_ p n := fun x hx e => by
      have := h.inj (x := x) (y := n) (by omega) (by omega) e; omega
    let g : Nat → Nat := fun x => if b < x then (if at_ p n < at_ p x then 1 else 0) else 0
    have gdef : ∀ x, g x = if b < x then (if at_ p n < at_ p x then 1 else 0) else 0 := fun _ => rfl
    have c1 : ∀ x, x < n → x ≠ b → tc p x = tc (cutP n p) x + g x := fun x hx hne => by
      unfold tc
      rw [gdef, off x hx hne]
      by_cases hxb : b < x
      · rw [if_pos hxb, sm_pt hxb (f := fun y => if at_ p x < at_ p y then 1 else 0), sm_pt hxb (f := fun y => if at_ p x < at_ (cutP n p) y then 1 else 0)]
        have e1 : sm x (fun y => if y = b then 0 else if at_ p x < at_ p y then 1 else 0) = sm x (fun y => if y = b then 0 else if at_ p x < at_ (cutP n p) y then 1 else 0) := sm_congr fun y hy => by
          by_cases z : y = b
          · rw [if_pos z, if_pos z]
          · rw [if_neg z, if_neg z, off y (by omega) z]
        rw [e1, eb, on, if_pos (lt_n x hx hne)]
        have := ne_a x hx
        by_cases q : at_ p x < at_ p n
        · rw [if_pos q, if_neg (by omega)]
        · rw [if_neg q, if_pos (by omega)]
      · rw [if_neg hxb, Nat.add_zero]
        refine sm_congr fun y hy => ?_
        rw [off y (by omega) (by omega)]
    have c2 : tc p b = 0 := by
      unfold tc
      rw [sm_congr (g := fun _ => 0), sm_zero]
      intro y hy
      rw [eb, if_neg]
      have := lt_n y (by omega) (by omega); omega
    have c3 : tc p n = tc (cutP n p) b + 1 + sm n g := by
      have e1 : tc (cutP n p) b = sm n fun y => if y < b then (if at_ p n < at_ p y then 1 else 0) else 0 := by
        rw [sm_cut (by omega)]
        unfold tc
        rw [on]
        exact sm_congr fun y hy => by rw [off y (by omega) (by omega)]
      have e2 : (1 : Nat) = sm n fun y => if y = b then 1 else 0 := by
        rw [sm_pt hbn, if_pos rfl, sm_congr (g := fun _ => 0), sm_zero]
        intro y hy
        by_cases z : y = b
        · rw [if_pos z]
        · rw [if_neg z, if_neg z]
      have e3 : sm n (fun y => if at_ p n < at_ p y then 1 else 0) = sm n (fun y => (if y < b then (if at_ p n < at_ p y then 1 else 0) else 0) + (if y = b then 1 else 0) + g y) := by
        refine sm_congr fun y hy => ?_
        rw [gdef]
        by_cases z : y = b
        · subst z
          rw [eb, if_pos ha, if_neg (Nat.lt_irrefl _), if_pos rfl]
        · by_cases w : y < b
          · rw [if_pos w, if_neg z, if_neg (show ¬ b < y by omega)]; omega
          · rw [if_neg w, if_neg z, if_pos (show b < y by omega)]
            omega
      rw [sm_add, sm_add, ← e1, ← e2] at e3
      exact e3
    have c4 : sm n (tc p) + tc (cutP n p) b = sm n (tc (cutP n p)) + sm n g := by
      rw [sm_pt hbn (f := tc p), sm_pt hbn (f := tc (cutP n p)), sm_pt hbn (f := g), c2, gdef b, if_neg (Nat.lt_irrefl _)]
      have : sm n (fun x => if x = b then 0 else tc p x) = sm n (fun x => if x = b then 0 else tc (cutP n p) x) + sm n (fun x => if x = b then 0 else g x) := by
        rw [← sm_add]
        refine sm_congr fun x hx => ?_
        by_cases z : x = b
        · simp only [if_pos z]
        · simp only [if_neg z]
          exact c1 x hx z
      rw [this]; omega
    show (sm n (tc p) + tc p n) % 2 = (sm n (tc (cutP n p)) + 1) % 2
    rw [c3]
    omega
theorem parity : ∀ {n : Nat} {p : List Nat}, Pm n p → (turned n p + n + ((List.range n).filter (mn p)).length) % 2 = 0
  | 0, _, _ => rfl
  | n + 1, p, h => by
    have ih := parity (cut_pm h)
    have e1 := cut_turned h
    have e2 : ((List.range (n + 1)).filter (mn p)).length = ((List.range n).filter (mn (cutP n p))).length + if at_ p n = n then 1 else 0 := by
      rw [sm_filter, sm_filter, sm, last_mn h]
      congr 1
      · exact sm_congr fun x hx => by rw [cut_mn h hx]
      · by_cases c : at_ p n = n
        · simp [c]
        · simp [c]
    rw [e2]
    by_cases c : at_ p n = n
    · rw [if_pos c] at e1 ⊢; omega
    · rw [if_neg c] at e1 ⊢; omega
/-! ## the lengths of the cycles -/
theorem Pm.rows_sum (h : Pm n p) : ((rows p).map List.length).sum = n := by
  rw [← List.length_flatten]
  have nd : (rows p).flatten.Nodup := by
    rw [List.nodup_iff_pairwise_ne, List.pairwise_flatten]
    constructor
    · intro r hr
      obtain ⟨x, hx, _, rfl⟩ := h.rows_mem hr
      exact List.nodup_iff_pairwise_ne.mp (h.cyc_nd hx)
    · unfold rows
      rw [List.pairwise_map]
      have hp : List.Pairwise (fun a b => a ≠ b) ((List.range p.length).filter (mn p)) := (List.nodup_iff_pairwise_ne.mp List.nodup_range).filter _
      refine hp.imp_of_mem fun {a b} ha hb hab x hx y hy e => ?_
      rw [List.mem_filter, List.mem_range, h.len] at ha hb
      subst e
      exact hab (h.mn_unique ha.1 hb.1 (h.cyc_lt ha.1 hx) ha.2 hb.2 hx hy)
  have le : (rows p).flatten.length ≤ n := by
    have := ph (m := List.range n) nd fun x hx => by
      obtain ⟨r, hr, hxr⟩ := List.mem_flatten.mp hx
      obtain ⟨z, hz, _, rfl⟩ := h.rows_mem hr
      exact List.mem_range.mpr (h.cyc_lt hz hxr)
    simpa using this
  have ge : n ≤ (rows p).flatten.length := by
    have := ph (l := List.range n) (m := (rows p).flatten) List.nodup_range fun x hx => by
      obtain ⟨m, hm, hmn, e⟩ := h.has_mn (List.mem_range.mp hx)
      refine List.mem_flatten.mpr ⟨cyc p m, ?_, e⟩
      unfold rows
      exact List.mem_map.mpr ⟨m, by rw [List.mem_filter, List.mem_range, h.len]; exact ⟨hm, hmn⟩, rfl⟩
    simpa using this
  omega
end
end Mi

namespace Mi
open PySem
/-! ## equality of plain data -/
/-- ints, and tuples of such, not deeper than d -/
def pI : Nat → D → Bool
  | _, .int _ => true
  | _, .str x => PySem.PyData.strOk x
  | _, .non => true
  | d + 1, .tup xs => pIs d xs
  | _, _ => false
where pIs (d : Nat) : List D → Bool
  | [] => true
  | x :: r => pI d x && pIs d r
theorem pIs_all {d : Nat} : ∀ {xs : List D}, (∀ x ∈ xs, pI d x = true) → pI.pIs d xs = true
  | [], _ => by rw [pI.pIs]
  | x :: r, h => by rw [pI.pIs, h x List.mem_cons_self, pIs_all fun y hy => h y (List.mem_cons_of_mem _ hy)]; rfl
theorem pI_tup {d : Nat} {xs : List D} (h : ∀ x ∈ xs, pI d x = true) : pI (d + 1) (.tup xs) = true := by
  rw [pI]; exact pIs_all h
theorem pI_int {d : Nat} {i : Int} : pI d (.int i) = true := by cases d <;> rw [pI]
theorem pI_P {d : Nat} {p : List Nat} : pI (d + 1) (P p) = true := pI_tup fun x hx => by
  obtain ⟨y, _, rfl⟩ := List.mem_map.mp hx
  exact pI_int
theorem pI_ref {d n : Nat} : pI d (.ref n) = false := by cases d <;> simp [pI]
def PyIs (d : Nat) (a : D) (x : PyData) : Prop := a.py0 = some x ∧ x.canLay0 = true ∧ x.depth ≤ d
theorem py_of : ∀ (d : Nat), (∀ a, pI d a = true → ∃ x, PyIs d a x) ∧ (∀ xs, pI.pIs d xs = true → ∃ ys, D.py0s xs = some ys ∧ PyData.canLayAll0 ys = true ∧ PyData.depthAll ys ≤ d)
  | 0 => by
    have one : ∀ a, pI 0 a = true → ∃ x, PyIs 0 a x := fun a h => by
      cases a <;> first | (exact ⟨_, rfl, rfl, Nat.le_refl _⟩) | (rw [pI] at h; exact ⟨_, rfl, by rw [PyData.canLay0]; exact h, Nat.le_refl _⟩) | (simp [pI] at h; done)
    refine ⟨one, fun xs => ?_⟩
    induction xs with
    | nil => intro _; exact ⟨[], rfl, rfl, Nat.le_refl _⟩
    | cons x r ih =>
      intro h
      rw [pI.pIs, Bool.and_eq_true] at h
      obtain ⟨y, e1, e2, e3⟩ := one x h.1
      obtain ⟨ys, f1, f2, f3⟩ := ih h.2
      refine ⟨y :: ys, by rw [D.py0s, e1, f1], by rw [PyData.canLayAll0, e2, f2]; rfl, ?_⟩
      rw [PyData.depthAll]; omega
  | d + 1 => by
    obtain ⟨_, ihs⟩ := py_of d
    have one : ∀ a, pI (d + 1) a = true → ∃ x, PyIs (d + 1) a x := fun a h => by
      cases a with
      | int i => exact ⟨_, rfl, rfl, Nat.zero_le _⟩
      | non => exact ⟨_, rfl, rfl, Nat.zero_le _⟩
      | str z => rw [pI] at h; exact ⟨_, rfl, by rw [PyData.canLay0]; exact h, Nat.zero_le _⟩
      | tup xs =>
        rw [pI] at h
        obtain ⟨ys, f1, f2, f3⟩ := ihs xs h
        refine ⟨.tuple ys, by rw [D.py0, f1]; rfl, by rw [PyData.canLay0]; exact f2, ?_⟩
        rw [PyData.depth]; omega
      | _ => simp [pI] at h
    refine ⟨one, fun xs => ?_⟩
    induction xs with
    | nil => intro _; exact ⟨[], rfl, rfl, Nat.zero_le _⟩
    | cons x r ih =>
      intro h
      rw [pI.pIs, Bool.and_eq_true] at h
      obtain ⟨y, e1, e2, e3⟩ := one x h.1
      obtain ⟨ys, f1, f2, f3⟩ := ih h.2
      refine ⟨y :: ys, by rw [D.py0s, e1, f1], by rw [PyData.canLayAll0, e2, f2]; rfl, ?_⟩
      rw [PyData.depthAll]; omega
theorem eqv_of : ∀ (d : Nat), (∀ a b x y, pI d a = true → pI d b = true → a.py0 = some x → b.py0 = some y → PyData.eqv x y = decide (a = b)) ∧
    (∀ xs ys us vs, pI.pIs d xs = true → pI.pIs d ys = true → D.py0s xs = some us → D.py0s ys = some vs → PyData.eqvAll us vs = decide (xs = ys)) := by
  have lists : ∀ d, (∀ a b x y, pI d a = true → pI d b = true → a.py0 = some x → b.py0 = some y → PyData.eqv x y = decide (a = b)) →
      (∀ xs ys us vs, pI.pIs d xs = true → pI.pIs d ys = true → D.py0s xs = some us → D.py0s ys = some vs → PyData.eqvAll us vs = decide (xs = ys)) := by
    intro d one xs
    induction xs with
    | nil =>
      intro ys us vs _ hy e1 e2
      cases e1
      cases ys with
      | nil => cases e2; rw [PyData.eqvAll]; simp
      | cons y s =>
        obtain ⟨zs, f, _⟩ := (py_of d).2 (y :: s) hy
        rw [f] at e2; cases e2
        rw [D.py0s] at f
        split at f
        · cases f; rw [PyData.eqvAll]; simp
        · cases f
    | cons x r ih =>
      intro ys us vs hx hy e1 e2
      have hx0 := hx
      rw [pI.pIs, Bool.and_eq_true] at hx
      obtain ⟨x1, ex, _⟩ := (py_of d).1 x hx.1
      obtain ⟨r1, er, _⟩ := (py_of d).2 r hx.2
      rw [D.py0s, ex, er] at e1
      cases e1
      cases ys with
      | nil => cases e2; rw [PyData.eqvAll]; simp
      | cons y s =>
        rw [pI.pIs, Bool.and_eq_true] at hy
        obtain ⟨y1, ey, _⟩ := (py_of d).1 y hy.1
        obtain ⟨s1, es, _⟩ := (py_of d).2 s hy.2
        rw [D.py0s, ey, es] at e2
        cases e2
        rw [PyData.eqvAll, one x y _ _ hx.1 hy.1 ex ey, ih s _ _ hx.2 hy.2 er es]
        rw [Bool.eq_iff_iff]; simp
  intro d
  induction d with
  | zero =>
    have one : ∀ a b x y, pI 0 a = true → pI 0 b = true → a.py0 = some x → b.py0 = some y → PyData.eqv x y = decide (a = b) := by
      intro a b x y ha hb ea eb
      cases a <;> first | (simp [pI] at ha; done) | skip
      all_goals
        cases b <;> first | (simp [pI] at hb; done) | skip
      all_goals
        cases ea; cases eb
        rw [Bool.eq_iff_iff]; simp [PyData.eqv]
    exact ⟨one, lists 0 one⟩
  | succ d ih =>
    have one : ∀ a b x y, pI (d + 1) a = true → pI (d + 1) b = true → a.py0 = some x → b.py0 = some y → PyData.eqv x y = decide (a = b) := by
      intro a b x y ha hb ea eb
      by_cases ta : ∃ xs, a = .tup xs
      · obtain ⟨xs, rfl⟩ := ta
        rw [pI] at ha
        obtain ⟨us, f0, _⟩ := (py_of d).2 _ ha
        rw [D.py0, f0] at ea
        cases ea
        cases b <;> first | (simp [pI] at hb; done) | (cases eb; simp [PyData.eqv]; done) | skip
        rename_i ys
        rw [pI] at hb
        obtain ⟨vs, f1, _⟩ := (py_of d).2 _ hb
        rw [D.py0, f1] at eb
        cases eb
        rw [PyData.eqv, ih.2 xs ys us vs ha hb f0 f1]
        simp
      · by_cases tb : ∃ xs, b = .tup xs
        · obtain ⟨ys, rfl⟩ := tb
          rw [pI] at hb
          obtain ⟨vs, f1, _⟩ := (py_of d).2 _ hb
          rw [D.py0, f1] at eb
          cases eb
          cases a <;> first | (simp [pI] at ha; done) | (cases ea; simp [PyData.eqv]; done) | (exact absurd ⟨_, rfl⟩ ta)
        · cases a <;> first | (simp [pI] at ha; done) | (exact absurd ⟨_, rfl⟩ ta) | skip
          all_goals
            cases b <;> first | (simp [pI] at hb; done) | (exact absurd ⟨_, rfl⟩ tb) | skip
          all_goals
            cases ea; cases eb
            rw [Bool.eq_iff_iff]; simp [PyData.eqv]
    exact ⟨one, lists (d + 1) one⟩
theorem py_non {h : HS} {a : D} {d : Nat} (ha : pI d a = true) : a.py h = a.py0 := by
  cases a <;> first | rfl | (rw [pI_ref] at ha; cases ha)
theorem shaped_of {x : PyData} (h1 : x.canLay0 = true) (h2 : x.depth ≤ 64) : SeqAt.shaped x = true := by
  unfold SeqAt.shaped
  rw [h1]; simpa using h2
theorem eqD_pI {h : HS} {a b : D} (ha : pI 60 a = true) (hb : pI 60 b = true) : eqD h a b = some (decide (a = b)) := by
  obtain ⟨x, ex, cx, dx⟩ := (py_of 60).1 a ha
  obtain ⟨y, ey, cy, dy⟩ := (py_of 60).1 b hb
  unfold eqD
  rw [py_non ha, py_non hb, ex, ey]
  simp only [shaped_of cx (by omega), shaped_of cy (by omega), Bool.and_self, if_true]
  rw [(eqv_of 60).1 a b x y ha hb ex ey]
theorem eqD_int {h : HS} {i j : Int} : eqD h (.int i) (.int j) = some (decide (i = j)) := by
  rw [eqD_pI pI_int pI_int]; simp
theorem eqD_nat {h : HS} {i j : Nat} : eqD h (dN i) (dN j) = some (decide (i = j)) := by
  rw [eqD_int]
  congr 1
  rw [Bool.eq_iff_iff]; simp; omega
theorem eqD_self {h : HS} {a : D} (ha : pI 60 a = true) : eqD h a a = some true := by rw [eqD_pI ha ha]; simp
theorem eqD_bl {h : HS} {i j : Bool} : eqD h (.bl i) (.bl j) = some (decide (i = j)) := by
  unfold eqD
  show (if (SeqAt.shaped (.bool i) && SeqAt.shaped (.bool j)) = true then some (PyData.eqv (.bool i) (.bool j)) else none) = _
  rw [shaped_of (x := .bool i) rfl (Nat.zero_le _), shaped_of (x := .bool j) rfl (Nat.zero_le _)]
  cases i <;> cases j <;> rfl
theorem eqD_lists {h : HS} {m n : Nat} {xs ys : List D} (hm : h[m]? = some (.lst xs)) (hn : h[n]? = some (.lst ys)) (hx : ∀ x ∈ xs, pI 50 x = true) (hy : ∀ x ∈ ys, pI 50 x = true) : eqD h (.ref m) (.ref n) = some (decide (xs = ys)) := by
  obtain ⟨us, e1, c1, d1⟩ := (py_of 50).2 xs (pIs_all hx)
  obtain ⟨vs, e2, c2, d2⟩ := (py_of 50).2 ys (pIs_all hy)
  unfold eqD D.py
  simp only [hm, hn, e1, e2, Option.map_some]
  rw [shaped_of (x := .list us) (by rw [PyData.canLay0]; exact c1) (by rw [PyData.depth]; omega), shaped_of (x := .list vs) (by rw [PyData.canLay0]; exact c2) (by rw [PyData.depth]; omega)]
  simp only [Bool.and_self, if_true]
  rw [PyData.eqv, (eqv_of 50).2 xs ys us vs (pIs_all hx) (pIs_all hy) e1 e2]
/-! ## tests -/
section
variable {cl : Cl} {δ : En} {h : HS} {a b : CE} {x y : D} {k : Bool} {o : CmpOp}
theorem cmpB (ha : evalE cl a δ h = .ok x h) (hb : evalE cl b δ h = .ok y h) (hc : cmpF o x y h = some k) : evalB cl (.cmp o a b) δ h = .ok k h := by
  simp only [evalB, ha, hb, R.bind_ok, hc, trim_self]
theorem cmpE (ha : evalE cl a δ h = .ok x h) (hb : evalE cl b δ h = .ok y h) (hc : cmpF o x y h = some k) : evalE cl (.cmp o a b) δ h = .ok (.bl k) h := by
  simp only [evalE, ha, hb, R.bind_ok, hc, Option.map_some, ofO_ok, R.tr_ok, trim_self]
theorem valB (ha : evalE cl a δ h = .ok (.bl k) h) : evalB cl (.val a) δ h = .ok k h := by
  simp only [evalB, ha, R.bind_ok, truD, ofO_ok]
theorem notB {c : CB} (hc : evalB cl c δ h = .ok k h) : evalB cl (.not_ c) δ h = .ok (!k) h := by
  simp only [evalB, hc, R.bind_ok]
theorem orF {c d : CB} (hc : evalB cl c δ h = .ok false h) (hd : evalB cl d δ h = .ok k h) : evalB cl (.or_ c d) δ h = .ok k h := by
  simp only [evalB, hc, R.bind_ok]; exact hd
theorem orT {c d : CB} (hc : evalB cl c δ h = .ok true h) : evalB cl (.or_ c d) δ h = .ok true h := by
  simp only [evalB, hc, R.bind_ok, if_true]
theorem andT {c d : CB} (hc : evalB cl c δ h = .ok true h) (hd : evalB cl d δ h = .ok k h) : evalB cl (.and_ c d) δ h = .ok k h := by
  simp only [evalB, hc, R.bind_ok, if_true]; exact hd
theorem andF {c d : CB} (hc : evalB cl c δ h = .ok false h) : evalB cl (.and_ c d) δ h = .ok false h := by
  simp only [evalB, hc, R.bind_ok]; rfl
theorem binE {op : Operator} {v : D} (ha : evalE cl a δ h = .ok x h) (hb : evalE cl b δ h = .ok y h) (hc : binF op x y h = .ok v h) : evalE cl (.bin op a b) δ h = .ok v h := by
  simp only [evalE, ha, hb, R.bind_ok, hc, R.tr_ok, trim_self]
end
end Mi

namespace Mi
open PySem
theorem bnd_ok {α β : Type} (a : α) (h : HS) (f : α → HS → R β) : (R.ok a h).bind f = f a h := (rfl)
theorem tr_ok' (n : Nat) (d : D) (h : HS) : (R.ok d h).tr n = trim n d h := (rfl)
theorem ofO_ok' {α : Type} (a : α) (h : HS) : ofO (some a) h = .ok a h := (rfl)
/-! ## the evaluator by named continuations: for simp, from the left -/
def kOp (o : Operator) (x y : D) (h : HS) : R D := binF o x y h
def kBin (cl : Cl) (o : Operator) (b : CE) (δ : En) (x : D) (h : HS) : R D := (evalE cl b δ h).bind (kOp o x)
def kNeg (x : D) (h : HS) : R D := match x with
  | .int i => .ok (.int (-i)) h
  | _ => .bad
def kCmp2 (o : CmpOp) (x y : D) (h : HS) : R D := ofO ((cmpF o x y h).map .bl) h
def kCmp (cl : Cl) (o : CmpOp) (b : CE) (δ : En) (x : D) (h : HS) : R D := (evalE cl b δ h).bind (kCmp2 o x)
def kCh3 (o' : CmpOp) (y z : D) (h : HS) : R D := ofO ((cmpF o' y z h).map .bl) h
def kCh2 (cl : Cl) (o o' : CmpOp) (c : CE) (δ : En) (x y : D) (h : HS) : R D := match cmpF o x y h with
  | some true => (evalE cl c δ h).bind (kCh3 o' y)
  | some false => .ok (.bl false) h
  | none => .bad
def kCh (cl : Cl) (o o' : CmpOp) (b c : CE) (δ : En) (x : D) (h : HS) : R D := (evalE cl b δ h).bind (kCh2 cl o o' c δ x)
def kAnd (cl : Cl) (b : CE) (δ : En) (x : D) (h : HS) : R D := match x with
  | .bl true => evalE cl b δ h
  | .bl false => .ok (.bl false) h
  | _ => .bad
def kOr (cl : Cl) (b : CE) (δ : En) (x : D) (h : HS) : R D := match x with
  | .bl false => evalE cl b δ h
  | .bl true => .ok (.bl true) h
  | _ => .bad
def kNot (x : D) (h : HS) : R D := match x with
  | .bl b => .ok (.bl !b) h
  | _ => .bad
def kIfe (cl : Cl) (a b : CE) (δ : En) (t : Bool) (h : HS) : R D := if t then evalE cl a δ h else evalE cl b δ h
def kIx2 (x y : D) (h : HS) : R D := ixF x y h
def kIx (cl : Cl) (b : CE) (δ : En) (x : D) (h : HS) : R D := (evalE cl b δ h).bind (kIx2 x)
def kSl3 (x : D) (l u : Option Int) (h : HS) : R D := slF x l u h
def kSl2 (cl : Cl) (hi : CO) (δ : En) (x : D) (l : Option Int) (h : HS) : R D := (evalO cl hi δ h).bind (kSl3 x l)
def kSl (cl : Cl) (lo hi : CO) (δ : En) (x : D) (h : HS) : R D := (evalO cl lo δ h).bind (kSl2 cl hi δ x)
def kRev (x : D) (h : HS) : R D := match x with
  | .ref n => match h[n]? with
    | some (.lst xs) => .ok (.ref h.length) (h ++ [.lst xs.reverse])
    | _ => .bad
  | .tup xs => .ok (.tup xs.reverse) h
  | _ => .bad
def kMe2 (m : Me) (x : D) (xs : List D) (h : HS) : R D := meF m x xs h
def kMe (cl : Cl) (m : Me) (es : CL) (δ : En) (x : D) (h : HS) : R D := if rcvOk m x h then (evalL cl es δ h).bind (kMe2 m x) else .bad
def kIsi (t : Ty) (x : D) (h : HS) : R D := ofO ((isiF t x h).map .bl) h
def kLrg (xs : List D) (h : HS) : R D := match rngF xs with
  | some p => mkL (rngL p) h
  | none => .bad
def kTrg (xs : List D) (h : HS) : R D := match rngF xs with
  | some p => mkT (rngL p) h
  | none => .bad
def kLc (cl : Cl) (own : List Nat) (tg : NT) (t : CB) (e : CE) (δ : En) (w : Its) (h : HS) : R D := (compD (liveOk w.live) (turnD cl own tg t e δ) w.items h).nx.bind mkL
def kLcB (cl : Cl) (own1 : List Nat) (tg1 : NT) (it1 : CI) (t1 : CB) (e : CE) (δ1 : En) (b : Bool) (h : HS) : R (List D) :=
  if b then (evalI cl it1 δ1 h).bind fun w1 h4 => compD (liveOk w1.live) (turnD cl own1 tg1 t1 e δ1) w1.items h4 else .ok [] h
def turn2 (cl : Cl) (own own1 : List Nat) (tg : NT) (t : CB) (tg1 : NT) (it1 : CI) (t1 : CB) (e : CE) (δ : En) (x : D) (h : HS) : R (List D) := match bindN tg x (wipeE δ own) with
  | some δ1 => (evalB cl t δ1 h).bind (kLcB cl own1 tg1 it1 t1 e δ1)
  | none => .bad
def kLc2 (cl : Cl) (own own1 : List Nat) (tg : NT) (t : CB) (tg1 : NT) (it1 : CI) (t1 : CB) (e : CE) (δ : En) (w : Its) (h : HS) : R D := (compD (liveOk w.live) (turn2 cl own own1 tg t tg1 it1 t1 e δ) w.items h).nx.bind mkL
def getV (δ : En) (i : Nat) (h : HS) : R D := match δ[i]? with
  | some (some d) => .ok d h
  | _ => .bad
section
variable {cl : Cl} {δ : En} {h : HS} {a b c e : CE} {es : CL}
theorem e_var {i : Nat} : evalE cl (.var i) δ h = getV δ i h := by simp only [evalE]; rfl
theorem getV0 {d : D} : getV (some d :: δ) 0 h = .ok d h := (rfl)
theorem getVs {o : Option D} {i : Nat} : getV (o :: δ) (i + 1) h = getV δ i h := by unfold getV; rw [List.getElem?_cons_succ]
theorem e_lit {d : D} : evalE cl (.lit d) δ h = .ok d h := by simp only [evalE]
theorem e_bin {o : Operator} : evalE cl (.bin o a b) δ h = ((evalE cl a δ h).bind (kBin cl o b δ)).tr h.length := by simp only [evalE]; rfl
theorem kBin_ {o : Operator} {x : D} : kBin cl o b δ x h = (evalE cl b δ h).bind (kOp o x) := (rfl)
theorem kOp_ {o : Operator} {x y : D} : kOp o x y h = binF o x y h := (rfl)
theorem e_neg : evalE cl (.neg a) δ h = (evalE cl a δ h).bind kNeg := by simp only [evalE]; rfl
theorem kNeg_ {i : Int} : kNeg (.int i) h = .ok (.int (-i)) h := (rfl)
theorem e_cmp {o : CmpOp} : evalE cl (.cmp o a b) δ h = ((evalE cl a δ h).bind (kCmp cl o b δ)).tr h.length := by simp only [evalE]; rfl
theorem kCmp_ {o : CmpOp} {x : D} : kCmp cl o b δ x h = (evalE cl b δ h).bind (kCmp2 o x) := (rfl)
theorem kCmp2_ {o : CmpOp} {x y : D} : kCmp2 o x y h = ofO ((cmpF o x y h).map .bl) h := (rfl)
theorem e_chain {o o' : CmpOp} : evalE cl (.chain o o' a b c) δ h = ((evalE cl a δ h).bind (kCh cl o o' b c δ)).tr h.length := by simp only [evalE]; rfl
theorem kCh_ {o o' : CmpOp} {x : D} : kCh cl o o' b c δ x h = (evalE cl b δ h).bind (kCh2 cl o o' c δ x) := (rfl)
theorem kCh2_ {o o' : CmpOp} {x y : D} : kCh2 cl o o' c δ x y h = match cmpF o x y h with
  | some true => (evalE cl c δ h).bind (kCh3 o' y)
  | some false => .ok (.bl false) h
  | none => .bad := (rfl)
theorem kCh3_ {o : CmpOp} {x y : D} : kCh3 o x y h = ofO ((cmpF o x y h).map .bl) h := (rfl)
theorem e_and : evalE cl (.andv a b) δ h = (evalE cl a δ h).bind (kAnd cl b δ) := by simp only [evalE]; rfl
theorem kAnd_ {x : Bool} : kAnd cl b δ (.bl x) h = if x then evalE cl b δ h else .ok (.bl false) h := by cases x <;> rfl
theorem kAnd_t : kAnd cl b δ (.bl true) h = evalE cl b δ h := (rfl)
theorem kAnd_f : kAnd cl b δ (.bl false) h = .ok (.bl false) h := (rfl)
theorem e_or : evalE cl (.orv a b) δ h = (evalE cl a δ h).bind (kOr cl b δ) := by simp only [evalE]; rfl
theorem kOr_ {x : Bool} : kOr cl b δ (.bl x) h = if x then .ok (.bl true) h else evalE cl b δ h := by cases x <;> rfl
theorem kOr_t : kOr cl b δ (.bl true) h = .ok (.bl true) h := (rfl)
theorem kOr_f : kOr cl b δ (.bl false) h = evalE cl b δ h := (rfl)
theorem e_not : evalE cl (.notv a) δ h = (evalE cl a δ h).bind kNot := by simp only [evalE]; rfl
theorem kNot_ {x : Bool} : kNot (.bl x) h = .ok (.bl !x) h := (rfl)
theorem e_ife {t : CB} : evalE cl (.ife t a b) δ h = (evalB cl t δ h).bind (kIfe cl a b δ) := by simp only [evalE]; rfl
theorem kIfe_ {t : Bool} : kIfe cl a b δ t h = if t then evalE cl a δ h else evalE cl b δ h := (rfl)
theorem kIfe_t : kIfe cl a b δ true h = evalE cl a δ h := (rfl)
theorem kIfe_f : kIfe cl a b δ false h = evalE cl b δ h := (rfl)
theorem e_tup : evalE cl (.tup es) δ h = (evalL cl es δ h).bind mkT := by simp only [evalE]
theorem e_lst : evalE cl (.lst es) δ h = (evalL cl es δ h).bind mkL := by simp only [evalE]
theorem e_dct0 : evalE cl .dct0 δ h = .ok (.ref h.length) (h ++ [.dct []]) := by simp only [evalE]
theorem e_dctL : evalE cl (.dctL es) δ h = (evalL cl es δ h).nx.bind dispF := by simp only [evalE]
theorem e_ix : evalE cl (.ix a b) δ h = ((evalE cl a δ h).bind (kIx cl b δ)).tr h.length := by simp only [evalE]; rfl
theorem kIx_ {x : D} : kIx cl b δ x h = (evalE cl b δ h).bind (kIx2 x) := (rfl)
theorem kIx2_ {x y : D} : kIx2 x y h = ixF x y h := (rfl)
theorem e_slice {lo hi : CO} : evalE cl (.slice a lo hi) δ h = ((evalE cl a δ h).bind (kSl cl lo hi δ)).tr h.length := by simp only [evalE]; rfl
theorem kSl_ {lo hi : CO} {x : D} : kSl cl lo hi δ x h = (evalO cl lo δ h).bind (kSl2 cl hi δ x) := (rfl)
theorem kSl2_ {hi : CO} {x : D} {l : Option Int} : kSl2 cl hi δ x l h = (evalO cl hi δ h).bind (kSl3 x l) := (rfl)
theorem kSl3_ {x : D} {l u : Option Int} : kSl3 x l u h = slF x l u h := (rfl)
theorem e_rev : evalE cl (.rev a) δ h = ((evalE cl a δ h).bind kRev).tr h.length := by simp only [evalE]; rfl
theorem kRev_t {xs : List D} : kRev (.tup xs) h = .ok (.tup xs.reverse) h := (rfl)
theorem kRev_P {p : List Nat} : kRev (P p) h = .ok (P p.reverse) h := by
  show R.ok (D.tup (p.map dN).reverse) h = .ok (D.tup (p.reverse.map dN)) h
  rw [List.map_reverse]
theorem e_call {f : Str} : evalE cl (.call f es) δ h = ((evalL cl es δ h).bind (cl f)).tr h.length := by simp only [evalE]
def kCv (cl : Cl) (es : CL) (δ : En) (o : Option (Option D)) (h : HS) : R D := match o with
  | some (some (.fn f)) => ((evalL cl es δ h).nx.bind (cl f)).tr h.length
  | _ => .bad
theorem e_callv {i : Nat} : evalE cl (.callv i es) δ h = kCv cl es δ δ[i]? h := by simp only [evalE]; rfl
theorem kCv_ {f : Str} : kCv cl es δ (some (some (.fn f))) h = ((evalL cl es δ h).nx.bind (cl f)).tr h.length := (rfl)
theorem e_bi {f : Bi} : evalE cl (.bi f es) δ h = ((evalL cl es δ h).bind (biF f)).tr h.length := by simp only [evalE]
theorem e_meth {m : Me} : evalE cl (.meth m a es) δ h = ((evalE cl a δ h).bind (kMe cl m es δ)).tr h.length := by simp only [evalE]; rfl
theorem kMe_ {m : Me} {x : D} : kMe cl m es δ x h = if rcvOk m x h then (evalL cl es δ h).bind (kMe2 m x) else .bad := (rfl)
theorem kMe2_ {m : Me} {x : D} {xs : List D} : kMe2 m x xs h = meF m x xs h := (rfl)
theorem e_isi {t : Ty} : evalE cl (.isi t a) δ h = ((evalE cl a δ h).bind (kIsi t)).tr h.length := by simp only [evalE]; rfl
theorem kIsi_ {t : Ty} {x : D} : kIsi t x h = ofO ((isiF t x h).map .bl) h := (rfl)
theorem e_lrg : evalE cl (.lrg es) δ h = ((evalL cl es δ h).bind kLrg).tr h.length := by simp only [evalE]; rfl
theorem e_trg : evalE cl (.trg es) δ h = ((evalL cl es δ h).bind kTrg).tr h.length := by simp only [evalE]; rfl
theorem e_lc {own : List Nat} {tg : NT} {it : CI} {t : CB} : evalE cl (.lc own tg it t e) δ h = ((evalI cl it δ h).bind (kLc cl own tg t e δ)).tr h.length := by simp only [evalE]; rfl
theorem kLc_ {own : List Nat} {tg : NT} {t : CB} {w : Its} : kLc cl own tg t e δ w h = (compD (liveOk w.live) (turnD cl own tg t e δ) w.items h).nx.bind mkL := (rfl)
theorem e_lc2 {own own1 : List Nat} {tg tg1 : NT} {it it1 : CI} {t t1 : CB} : evalE cl (.lc2 own own1 tg it t tg1 it1 t1 e) δ h = ((evalI cl it δ h).bind (kLc2 cl own own1 tg t tg1 it1 t1 e δ)).tr h.length := by simp only [evalE]; rfl
theorem l_nil : evalL cl .nil δ h = .ok [] h := by simp only [evalL]
def kL2 (x : D) (xs : List D) (h : HS) : R (List D) := .ok (x :: xs) h
def kL (cl : Cl) (r : CL) (δ : En) (x : D) (h : HS) : R (List D) := (evalL cl r δ h).bind (kL2 x)
theorem l_cons {r : CL} : evalL cl (.cons a r) δ h = (evalE cl a δ h).bind (kL cl r δ) := by simp only [evalL]; rfl
theorem kL_ {r : CL} {x : D} : kL cl r δ x h = (evalL cl r δ h).bind (kL2 x) := (rfl)
theorem kL2_ {x : D} {xs : List D} : kL2 x xs h = .ok (x :: xs) h := (rfl)
theorem o_no : evalO cl .no δ h = .ok none h := by simp only [evalO]
def kO (x : D) (h : HS) : R (Option Int) := match x with
  | .int i => .ok (some i) h
  | _ => .bad
theorem o_so : evalO cl (.so a) δ h = (evalE cl a δ h).bind kO := by simp only [evalO]; rfl
theorem kO_ {i : Int} : kO (.int i) h = .ok (some i) h := (rfl)
def kSeq (n : Nat) (x : D) (h : HS) : R Its := walkD n x h
theorem y_seq : evalI cl (.seq a) δ h = (evalE cl a δ h).bind (kSeq h.length) := by simp only [evalI]; rfl
theorem kSeq_ {n : Nat} {x : D} : kSeq n x h = walkD n x h := (rfl)
def kRng (xs : List D) (h : HS) : R Its := match rngF xs with
  | some p => .ok ⟨rngL p, none⟩ h
  | none => .bad
theorem y_rng : evalI cl (.rng es) δ h = (evalL cl es δ h).bind kRng := by simp only [evalI]; rfl
def kRng3 (xs : List D) (h : HS) : R Its := match rng3F xs with
  | some l => .ok ⟨l, none⟩ h
  | none => .bad
theorem y_rng3 : evalI cl (.rng3 es) δ h = (evalL cl es δ h).bind kRng3 := by simp only [evalI]; rfl
def kEn2 (w : Its) (h : HS) : R Its := .ok ⟨enumL 0 w.items, w.live⟩ h
def kEn (n : Nat) (x : D) (h : HS) : R Its := (walkD n x h).bind kEn2
theorem y_enum : evalI cl (.enum a) δ h = (evalE cl a δ h).bind (kEn h.length) := by simp only [evalI]; rfl
theorem kEn_ {n : Nat} {x : D} : kEn n x h = (walkD n x h).bind kEn2 := (rfl)
theorem kEn2_ {w : Its} : kEn2 w h = .ok ⟨enumL 0 w.items, w.live⟩ h := (rfl)
def kIr2 (w : Its) (h : HS) : R Its := .ok ⟨w.items.reverse, w.live⟩ h
def kIr (n : Nat) (x : D) (h : HS) : R Its := (walkD n x h).bind kIr2
theorem y_rev : evalI cl (.rev a) δ h = (evalE cl a δ h).bind (kIr h.length) := by simp only [evalI]; rfl
theorem kIr_ {n : Nat} {x : D} : kIr n x h = (walkD n x h).bind kIr2 := (rfl)
theorem kIr2_ {w : Its} : kIr2 w h = .ok ⟨w.items.reverse, w.live⟩ h := (rfl)
/-! tests -/
theorem b_tru : evalB cl .tru δ h = .ok true h := by simp only [evalB]
def kVal (x : D) (h : HS) : R Bool := ofO (truD h x) h
theorem b_val : evalB cl (.val a) δ h = (evalE cl a δ h).bind kVal := by simp only [evalB]; rfl
theorem kVal_ {x : D} : kVal x h = ofO (truD h x) h := (rfl)
def kTb (n : Nat) (k : Option Bool) (h : HS) : R Bool := match k with
  | some k => match trim n (.bl k) h with
    | .ok _ h3 => .ok k h3
    | _ => .bad
  | none => .bad
def kBc2 (o : CmpOp) (n : Nat) (x y : D) (h : HS) : R Bool := kTb n (cmpF o x y h) h
def kBc (cl : Cl) (o : CmpOp) (b : CE) (δ : En) (n : Nat) (x : D) (h : HS) : R Bool := (evalE cl b δ h).bind (kBc2 o n x)
theorem b_cmp {o : CmpOp} : evalB cl (.cmp o a b) δ h = (evalE cl a δ h).bind (kBc cl o b δ h.length) := by simp only [evalB]; rfl
theorem kBc_ {o : CmpOp} {n : Nat} {x : D} : kBc cl o b δ n x h = (evalE cl b δ h).bind (kBc2 o n x) := (rfl)
theorem kBc2_ {o : CmpOp} {n : Nat} {x y : D} : kBc2 o n x y h = kTb n (cmpF o x y h) h := (rfl)
theorem kTb_ {n : Nat} {k : Bool} {v : D} {h' : HS} (e : trim n (.bl k) h = .ok v h') : kTb n (some k) h = .ok k h' := by simp only [kTb, e]
def kTbR (k : Bool) : R D → R Bool
  | .ok _ h => .ok k h
  | _ => .bad
theorem kTb_some {n : Nat} {k : Bool} : kTb n (some k) h = kTbR k (trim n (.bl k) h) := (rfl)
theorem kTbR_ok {k : Bool} {v : D} : kTbR k (.ok v h) = .ok k h := (rfl)
theorem kTb_self {k : Bool} : kTb h.length (some k) h = .ok k h := kTb_ (trim_self _ _)
def kBh3 (o' : CmpOp) (n : Nat) (y z : D) (h : HS) : R Bool := kTb n (cmpF o' y z h) h
def kBh2 (cl : Cl) (o o' : CmpOp) (c : CE) (δ : En) (n : Nat) (x y : D) (h : HS) : R Bool := match cmpF o x y h with
  | some true => (evalE cl c δ h).bind (kBh3 o' n y)
  | some false => .ok false h
  | none => .bad
def kBh (cl : Cl) (o o' : CmpOp) (b c : CE) (δ : En) (n : Nat) (x : D) (h : HS) : R Bool := (evalE cl b δ h).bind (kBh2 cl o o' c δ n x)
theorem b_chain {o o' : CmpOp} : evalB cl (.chain o o' a b c) δ h = (evalE cl a δ h).bind (kBh cl o o' b c δ h.length) := by simp only [evalB]; rfl
theorem kBh_ {o o' : CmpOp} {n : Nat} {x : D} : kBh cl o o' b c δ n x h = (evalE cl b δ h).bind (kBh2 cl o o' c δ n x) := (rfl)
def kBh4 (cl : Cl) (o' : CmpOp) (c : CE) (δ : En) (n : Nat) (y : D) (h : HS) (k : Option Bool) : R Bool := match k with
  | some true => (evalE cl c δ h).bind (kBh3 o' n y)
  | some false => .ok false h
  | none => .bad
theorem kBh2_ {o o' : CmpOp} {n : Nat} {x y : D} : kBh2 cl o o' c δ n x y h = kBh4 cl o' c δ n y h (cmpF o x y h) := (rfl)
theorem kBh4_ {o' : CmpOp} {n : Nat} {y : D} {k : Bool} : kBh4 cl o' c δ n y h (some k) = if k then (evalE cl c δ h).bind (kBh3 o' n y) else .ok false h := by cases k <;> rfl
theorem kBh4_t {o' : CmpOp} {n : Nat} {y : D} : kBh4 cl o' c δ n y h (some true) = (evalE cl c δ h).bind (kBh3 o' n y) := (rfl)
theorem kBh4_f {o' : CmpOp} {n : Nat} {y : D} : kBh4 cl o' c δ n y h (some false) = .ok false h := (rfl)
theorem kBh3_ {o : CmpOp} {n : Nat} {x y : D} : kBh3 o n x y h = kTb n (cmpF o x y h) h := (rfl)
variable {s t : CB}
def kBa (cl : Cl) (t : CB) (δ : En) (x : Bool) (h : HS) : R Bool := if x then evalB cl t δ h else .ok false h
theorem b_and : evalB cl (.and_ s t) δ h = (evalB cl s δ h).bind (kBa cl t δ) := by simp only [evalB]; rfl
theorem kBa_ {x : Bool} : kBa cl t δ x h = if x then evalB cl t δ h else .ok false h := (rfl)
theorem kBa_t : kBa cl t δ true h = evalB cl t δ h := (rfl)
theorem kBa_f : kBa cl t δ false h = .ok false h := (rfl)
def kBo (cl : Cl) (t : CB) (δ : En) (x : Bool) (h : HS) : R Bool := if x then .ok true h else evalB cl t δ h
theorem b_or : evalB cl (.or_ s t) δ h = (evalB cl s δ h).bind (kBo cl t δ) := by simp only [evalB]; rfl
theorem kBo_ {x : Bool} : kBo cl t δ x h = if x then .ok true h else evalB cl t δ h := (rfl)
theorem kBo_t : kBo cl t δ true h = .ok true h := (rfl)
theorem kBo_f : kBo cl t δ false h = evalB cl t δ h := (rfl)
def kBn (x : Bool) (h : HS) : R Bool := .ok (!x) h
theorem b_not : evalB cl (.not_ s) δ h = (evalB cl s δ h).bind kBn := by simp only [evalB]; rfl
theorem kBn_ {x : Bool} : kBn x h = .ok (!x) h := (rfl)
/-! an if of plain results -/
theorem bind_ite {α β : Type} {p : Prop} [Decidable p] {x y : R α} {f : α → HS → R β} : (if p then x else y).bind f = if p then x.bind f else y.bind f := by split <;> rfl
theorem ok_ite {α : Type} {p : Prop} [Decidable p] {x y : α} : (if p then R.ok x h else R.ok y h) = R.ok (if p then x else y) h := by split <;> rfl
end
def allLt : List Nat → Nat → Bool
  | [], _ => true
  | i :: is, n => decide (i < n) && allLt is n
theorem allLt_nil {n : Nat} : allLt [] n = true := (rfl)
theorem allLt_cons {i n : Nat} {is : List Nat} : allLt (i :: is) n = (decide (i < n) && allLt is n) := (rfl)
theorem allLt_all {n : Nat} : ∀ {is : List Nat}, allLt is n = true → is.all (· < n) = true
  | [], _ => rfl
  | i :: is, h => by
    rw [allLt_cons, Bool.and_eq_true] at h
    rw [List.all_cons, h.1, allLt_all h.2]; rfl
/-! ## statements -/
section
variable {cl : Cl} {δ : En} {h : HS} {e : CE} {s : CS} {r a b : CSs} {c : CB}
theorem z_nil : execB cl .nil δ h = .next δ h := by rw [execB]
theorem z_cons : execB cl (.cons s r) δ h = (execS cl s δ h).then_ (execB cl r) := by rw [execB]
theorem then_ok {f : En → HS → Fl} : (Fl.next δ h).then_ f = f δ h := (rfl)
theorem then_ret {d : D} {f : En → HS → Fl} : (Fl.ret d h).then_ f = .ret d h := (rfl)
theorem then_brk {f : En → HS → Fl} : (Fl.brk δ h).then_ f = .brk δ h := (rfl)
theorem then_cont {f : En → HS → Fl} : (Fl.cont δ h).then_ f = .cont δ h := (rfl)
theorem then_ite {p : Prop} [Decidable p] {x y : Fl} {f : En → HS → Fl} : (if p then x else y).then_ f = if p then x.then_ f else y.then_ f := by split <;> rfl
theorem fl_ok {α : Type} {v : α} {f : α → HS → Fl} : (R.ok v h).fl δ f = f v h := (rfl)
theorem bnd_exc {α β : Type} {c : Str} {fs : List (Str × D)} {f : α → HS → R β} : (R.exc c fs h).bind f = .exc c fs h := (rfl)
theorem tr_exc {n : Nat} {c : Str} {fs : List (Str × D)} : (R.exc c fs h).tr n = .exc c fs h := (rfl)
theorem fl_exc {α : Type} {c : Str} {fs : List (Str × D)} {f : α → HS → Fl} : (R.exc c fs h).fl δ f = .exc c fs δ h := (rfl)
theorem then_exc {c : Str} {fs : List (Str × D)} {f : En → HS → Fl} : (Fl.exc c fs δ h).then_ f = .exc c fs δ h := (rfl)
/-- what stands behind a try's body -/
def kTry (i : Nat) (ks : List (Str × Bool)) (s : XS) : Fl → Fl
  | .exc c fs δ1 h1 => match lkX ks c with
    | some true => if i < δ1.length then execX c fs s (δ1.set i none) h1 else .bad
    | some false => .exc c fs δ1 h1
    | none => .bad
  | r => r
def kRs (c : Str) (fl : List (Str × XA)) (δ : En) (x : D) (h : HS) : Fl := match mkFs [x] fl with
  | some fs => .exc c fs δ h
  | none => .bad
theorem z_raise {c : Str} {fl : List (Str × XA)} : execS cl (.raise_ c fl e) δ h = (evalE cl e δ h).fl δ (kRs c fl δ) := by simp only [execS]; rfl
theorem kRs_one {c f : Str} {x : D} : kRs c [(f, .ar 0)] δ x h = .exc c [(f, x)] δ h := (rfl)
theorem kRs_two {c f g z : Str} {x : D} : kRs c [(f, .ar 0), (g, .st z)] δ x h = .exc c [(f, x), (g, .str z)] δ h := (rfl)
theorem z_try {b : CSs} {i : Nat} {ks : List (Str × Bool)} {s : XS} : execS cl (.try_ b i ks s) δ h = kTry i ks s (execB cl b δ h) := by
  simp only [execS]
  cases execB cl b δ h <;> rfl
theorem kTry_ret {i : Nat} {ks : List (Str × Bool)} {s : XS} {d : D} : kTry i ks s (.ret d h) = .ret d h := (rfl)
theorem kTry_next {i : Nat} {ks : List (Str × Bool)} {s : XS} : kTry i ks s (.next δ h) = .next δ h := (rfl)
theorem kTry_exc {i : Nat} {ks : List (Str × Bool)} {s : XS} {c : Str} {fs : List (Str × D)} (h1 : lkX ks c = some true) (h2 : i < δ.length) : kTry i ks s (.exc c fs δ h) = execX c fs s (δ.set i none) h := by unfold kTry; simp only [h1, if_pos h2]
theorem kTry_ite {i : Nat} {ks : List (Str × Bool)} {s : XS} {p : Prop} [Decidable p] {x y : Fl} : kTry i ks s (if p then x else y) = if p then kTry i ks s x else kTry i ks s y := by split <;> rfl
theorem nx_ok {α : Type} {v : α} : (R.ok v h).nx = .ok v h := (rfl)
def nx1 (δ : En) (h : HS) : Fl := .next δ h
def kAs (cl : Cl) (t : AT) (δ : En) (v : D) (h : HS) : Fl := (asgA cl t v δ h).nx.fl δ nx1
theorem z_asg {t : AT} : execS cl (.asg t e) δ h = (evalE cl e δ h).fl δ (kAs cl t δ) := by simp only [execS]; rfl
theorem kAs_nm {i : Nat} {v : D} (hi : i < δ.length) : kAs cl (.nm i) δ v h = .next (δ.set i (some v)) h := by unfold kAs; simp only [asgA, if_pos hi, R.fl_ok, R.nx_ok]; rfl
def kSet3 (x y v : D) (h : HS) : R Unit := setF x y v h
def kSet2 (v x : D) (y : D) (h : HS) : R Unit := kSet3 x y v h
def kSet1 (cl : Cl) (i : CE) (δ : En) (v x : D) (h : HS) : R Unit := (evalE cl i δ h).bind (kSet2 v x)
def kSet0 (δ : En) (_ : Unit) (h : HS) : R En := .ok δ h
def kSetN (δ : En) (_ : Unit) (h : HS) : Fl := .next δ h
theorem kAs_sub {o i : CE} {v : D} : kAs cl (.sub o i) δ v h = ((evalE cl o δ h).bind (kSet1 cl i δ v)).nx.fl δ (kSetN δ) := by
  unfold kAs
  simp only [asgA]
  cases evalE cl o δ h with
  | ok x h1 =>
    simp only [R.bind_ok, kSet1]
    cases evalE cl i δ h1 with
    | ok y h2 =>
      simp only [R.bind_ok, kSet2, kSet3]
      cases setF x y v h2 <;> rfl
    | _ => rfl
  | _ => rfl
theorem kSet1_ {i : CE} {v x : D} : kSet1 cl i δ v x h = (evalE cl i δ h).bind (kSet2 v x) := (rfl)
theorem kSet2_ {v x y : D} : kSet2 v x y h = setF x y v h := (rfl)
theorem kSetN_ {u : Unit} : kSetN δ u h = .next δ h := (rfl)
def kAsT (cl : Cl) (ts : List AT) (δ : En) (v : D) (h : HS) : Fl := match v with
  | .tup xs => if xs.length = ts.length then (asgAs cl ts xs δ h).nx.fl δ nx1 else .bad
  | .kt xs => if xs.length = ts.length then (asgAs cl ts xs δ h).nx.fl δ nx1 else .bad
  | _ => .bad
theorem z_asgT {ts : List AT} : execS cl (.asgT ts e) δ h = (evalE cl e δ h).fl δ (kAsT cl ts δ) := by
  simp only [execS]; rfl
theorem kAsT_ {ts : List AT} {xs : List D} : kAsT cl ts δ (.tup xs) h = if xs.length = ts.length then (asgAs cl ts xs δ h).nx.fl δ nx1 else .bad := (rfl)
theorem nx1_ : nx1 δ h = .next δ h := (rfl)
def kAss (cl : Cl) (ts : List AT) (vs : List D) (δ : En) (h : HS) : R En := asgAs cl ts vs δ h
theorem ass_nil : asgAs cl [] [] δ h = .ok δ h := by simp only [asgAs]
theorem ass_cons {t : AT} {ts : List AT} {v : D} {vs : List D} : asgAs cl (t :: ts) (v :: vs) δ h = (asgA cl t v δ h).bind (kAss cl ts vs) := by simp only [asgAs]; rfl
theorem kAss_ {ts : List AT} {vs : List D} : kAss cl ts vs δ h = asgAs cl ts vs δ h := (rfl)
theorem asgA_nm {i : Nat} {v : D} (hi : i < δ.length) : asgA cl (.nm i) v δ h = .ok (δ.set i (some v)) h := by simp only [asgA, if_pos hi]
theorem asgA_sub {o i : CE} {v : D} : asgA cl (.sub o i) v δ h = ((evalE cl o δ h).bind (kSet1 cl i δ v)).bind (kSet0 δ) := by
  simp only [asgA]
  cases evalE cl o δ h with
  | ok x h1 =>
    simp only [R.bind_ok, kSet1]
    cases evalE cl i δ h1 with
    | ok y h2 => simp only [R.bind_ok, kSet2, kSet3]; rfl
    | _ => rfl
  | _ => rfl
theorem kSet0_ {u : Unit} : kSet0 δ u h = .ok δ h := (rfl)
def kPar (is : List Nat) (δ : En) (xs : List D) (h : HS) : Fl := match bindN (.tp is) (.tup xs) δ with
  | some δ1 => .next δ1 h
  | none => .bad
theorem z_par {is : List Nat} {es : CL} : execS cl (.par is es) δ h = (evalL cl es δ h).fl δ (kPar is δ) := by simp only [execS]; rfl
theorem kPar_ {is : List Nat} {xs : List D} (c1 : is.length = xs.length) (c2 : allLt is δ.length = true) : kPar is δ xs h = .next (setAll δ is xs) h := by
  unfold kPar; simp only [bindN, if_pos (And.intro c1 (allLt_all c2))]
def kAug3 (i : Nat) (δ : En) (z : D) (h : HS) : Fl := .next (δ.set i (some z)) h
def kAug2 (o : Operator) (x y : D) (h : HS) : R D := augF o x y h
def kAug1 (cl : Cl) (i : Nat) (o : Operator) (e : CE) (δ : En) (x : D) (h : HS) : Fl := (((evalE cl e δ h).bind (kAug2 o x)).tr h.length).fl δ (kAug3 i δ)
theorem z_aug {i : Nat} {o : Operator} : execS cl (.aug i o e) δ h = (getV δ i h).fl δ (kAug1 cl i o e δ) := by
  simp only [execS, getV]
  cases δ[i]? with
  | none => rfl
  | some x => cases x <;> rfl
theorem kAug1_ {i : Nat} {o : Operator} {x : D} : kAug1 cl i o e δ x h = (((evalE cl e δ h).bind (kAug2 o x)).tr h.length).fl δ (kAug3 i δ) := (rfl)
theorem kAug2_ {o : Operator} {x y : D} : kAug2 o x y h = augF o x y h := (rfl)
theorem kAug3_ {i : Nat} {z : D} : kAug3 i δ z h = .next (δ.set i (some z)) h := (rfl)
def kEx (δ : En) (_ : D) (h : HS) : Fl := .next δ h
theorem z_ex : execS cl (.ex e) δ h = (evalE cl e δ h).fl δ (kEx δ) := by simp only [execS]; rfl
theorem kEx_ {v : D} : kEx δ v h = .next δ h := (rfl)
def kRet (v : D) (h : HS) : Fl := .ret v h
theorem z_ret : execS cl (.ret e) δ h = (evalE cl e δ h).fl δ kRet := by simp only [execS]; rfl
theorem kRet_ {v : D} : kRet v h = .ret v h := (rfl)
theorem z_retn : execS cl .retn δ h = .ret .non h := by simp only [execS]
def kIfs (cl : Cl) (a b : CSs) (δ : En) (t : Bool) (h : HS) : Fl := if t then execB cl a δ h else execB cl b δ h
theorem z_ifs : execS cl (.ifs c a b) δ h = (evalB cl c δ h).fl δ (kIfs cl a b δ) := by simp only [execS]; rfl
theorem kIfs_ {t : Bool} : kIfs cl a b δ t h = if t then execB cl a δ h else execB cl b δ h := (rfl)
theorem kIfs_t : kIfs cl a b δ true h = execB cl a δ h := (rfl)
theorem kIfs_f : kIfs cl a b δ false h = execB cl b δ h := (rfl)
def kFor (cl : Cl) (t : NT) (b : CSs) (δ : En) (w : Its) (h : HS) : Fl := forD (liveOk w.live) (bodyF t (execB cl b)) w.items δ h
theorem z_for {t : NT} {it : CI} : execS cl (.for_ t it b) δ h = (evalI cl it δ h).fl δ (kFor cl t b δ) := by simp only [execS]; rfl
theorem kFor_ {t : NT} {w : Its} : kFor cl t b δ w h = forD (liveOk w.live) (bodyF t (execB cl b)) w.items δ h := (rfl)
theorem z_while : execS cl (.while_ c b) δ h = whileD (evalB cl c) (execB cl b) FUEL δ h := by simp only [execS]
theorem z_brk : execS cl .brk δ h = .brk δ h := by simp only [execS]
theorem z_cont : execS cl .cont δ h = .cont δ h := by simp only [execS]
theorem z_pass : execS cl .pass δ h = .next δ h := by simp only [execS]
theorem body_ {t : NT} {g : En → HS → Fl} {x : D} : bodyF t g x δ h = match bindN t x δ with
  | some δ2 => g δ2 h
  | none => .bad := (rfl)
theorem body_nm {i : Nat} {g : En → HS → Fl} {x : D} (hi : i < δ.length) : bodyF (.nm i) g x δ h = g (δ.set i (some x)) h := by unfold bodyF; simp only [bindN, if_pos hi]
theorem body_tp {is : List Nat} {g : En → HS → Fl} {xs : List D} (c1 : is.length = xs.length) (c2 : allLt is δ.length = true) : bodyF (.tp is) g (.tup xs) δ h = g (setAll δ is xs) h := by unfold bodyF; simp only [bindN, if_pos (And.intro c1 (allLt_all c2))]
theorem body_tpk {is : List Nat} {g : En → HS → Fl} {xs : List D} (c1 : is.length = xs.length) (c2 : allLt is δ.length = true) : bodyF (.tp is) g (.kt xs) δ h = g (setAll δ is xs) h := by unfold bodyF; simp only [bindN, if_pos (And.intro c1 (allLt_all c2))]
theorem setAll_cons {i : Nat} {is : List Nat} {x : D} {xs : List D} : setAll δ (i :: is) (x :: xs) = setAll (δ.set i (some x)) is xs := (rfl)
theorem setAll_nil {xs : List D} : setAll δ [] xs = δ := (rfl)
def kT2 (y : D) (h : HS) : R (List D) := .ok [y] h
def kT1 (cl : Cl) (e : CE) (δ : En) (b : Bool) (h : HS) : R (List D) := if b then (evalE cl e δ h).bind kT2 else .ok [] h
theorem turn_nm {own : List Nat} {i : Nat} {t : CB} {x : D} (hi : i < (wipeE δ own).length) : turnD cl own (.nm i) t e δ x h = (evalB cl t ((wipeE δ own).set i (some x)) h).bind (kT1 cl e ((wipeE δ own).set i (some x))) := by
  unfold turnD; simp only [bindN, if_pos hi]; rfl
theorem turn_tp {own is : List Nat} {t : CB} {xs : List D} (c1 : is.length = xs.length) (c2 : allLt is (wipeE δ own).length = true) : turnD cl own (.tp is) t e δ (.tup xs) h = (evalB cl t (setAll (wipeE δ own) is xs) h).bind (kT1 cl e (setAll (wipeE δ own) is xs)) := by
  unfold turnD; simp only [bindN, if_pos (And.intro c1 (allLt_all c2))]; rfl
theorem turn_tpk {own is : List Nat} {t : CB} {xs : List D} (c1 : is.length = xs.length) (c2 : allLt is (wipeE δ own).length = true) : turnD cl own (.tp is) t e δ (.kt xs) h = (evalB cl t (setAll (wipeE δ own) is xs) h).bind (kT1 cl e (setAll (wipeE δ own) is xs)) := by
  unfold turnD; simp only [bindN, if_pos (And.intro c1 (allLt_all c2))]; rfl
theorem kT1_ {b : Bool} : kT1 cl e δ b h = if b then (evalE cl e δ h).bind kT2 else .ok [] h := (rfl)
theorem kT1_t : kT1 cl e δ true h = (evalE cl e δ h).bind kT2 := (rfl)
theorem kT1_f : kT1 cl e δ false h = .ok [] h := (rfl)
theorem kT2_ {y : D} : kT2 y h = .ok [y] h := (rfl)
theorem wipe_nil : wipeE δ [] = δ := (rfl)
theorem wipe_cons {v : Nat} {vs : List Nat} : wipeE δ (v :: vs) = (wipeE δ vs).set v none := (rfl)
end
end Mi

namespace Mi
open PySem
/-! ## operations on plain data, for simp -/
section
variable {cl : Cl} {δ : En} {h l : HS} {v : D}
theorem e_litI {n : Nat} : evalE cl (.lit (.int (no_index (OfNat.ofNat n)))) δ h = .ok (dN (OfNat.ofNat n)) h := e_lit
theorem e_litB {b : Bool} : evalE cl (.lit (.bl b)) δ h = .ok (.bl b) h := e_lit
theorem e_litS {b : Str} : evalE cl (.lit (.str b)) δ h = .ok (.str b) h := e_lit
theorem e_litN : evalE cl (.lit .non) δ h = .ok .non h := e_lit
theorem e_litK {b : List D} : evalE cl (.lit (.kt b)) δ h = .ok (.kt b) h := e_lit
theorem wipe_len {own : List Nat} : (wipeE δ own).length = δ.length := by
  induction own with
  | nil => rfl
  | cons x r ih => rw [wipe_cons, List.length_set, ih]
/-! arithmetic -/
theorem add_n {a b : Nat} : binF .Add (dN a) (dN b) h = .ok (dN (a + b)) h := by unfold binF; rfl
theorem sub_n {a b : Nat} (hb : b ≤ a) : binF .Sub (dN a) (dN b) h = .ok (dN (a - b)) h := by
  show R.ok (D.int ((a : Int) - (b : Int))) h = _
  congr 2; omega
theorem mul_n {a b : Nat} (hb : b < 18446744073709551616) : binF .Mult (dN a) (dN b) h = .ok (dN (a * b)) h := by
  unfold binF
  simp only
  rw [if_pos]
  · rfl
  · unfold mulOk
    rw [Bool.or_eq_true]
    right; simp; omega
theorem mul_nl {a b : Nat} (hb : a < 18446744073709551616) : binF .Mult (dN a) (dN b) h = .ok (dN (a * b)) h := by
  unfold binF
  simp only
  rw [if_pos]
  · rfl
  · unfold mulOk
    rw [Bool.or_eq_true]
    left; simp; omega
def repC (c : Option Cell) (k : Nat) (h : HS) : R D := match c with
    | some (.lst xs) => if xs.length * k ≤ LIM then .ok (.ref h.length) (h ++ [.lst (List.replicate k xs).flatten]) else .bad
    | _ => .bad
theorem mul_ref {m k : Nat} (hk : k < 9223372036854775808) : binF .Mult (.ref m) (dN k) h = repC h[m]? k h := by
  simp only [binF]
  cases h[m]? with
  | none => rfl
  | some c =>
    cases c with
    | lst xs =>
      simp only [repC, Int.toNat_natCast]
      rw [show decide (-(2 ^ 63) ≤ (k : Int)) = true from decide_eq_true (by omega), show decide ((k : Int) < 2 ^ 63) = true from decide_eq_true (by omega)]
      simp
    | _ => rfl
theorem repC_ {xs : List D} {k : Nat} (hl : xs.length * k ≤ LIM) : repC (some (.lst xs)) k h = .ok (.ref h.length) (h ++ [.lst (List.replicate k xs).flatten]) := if_pos hl
theorem repC_1 {x : D} {k : Nat} (hl : k ≤ LIM) : repC (some (.lst [x])) k h = .ok (.ref h.length) (h ++ [.lst (List.replicate k x)]) := by
  rw [repC_ (by simpa using hl)]
  congr 3
  simp
theorem rep_dN {k x : Nat} : List.replicate k (dN x) = (List.replicate k x).map dN := by rw [List.map_replicate]
theorem flat1 {α : Type} {x : α} {k : Nat} : (List.replicate k [x]).flatten = List.replicate k x := by simp
theorem mod_n {a b : Nat} (hb : 0 < b) : binF .Mod (dN a) (dN b) h = .ok (dN (a % b)) h := by
  unfold binF
  simp only [show decide ((0 : Int) < (b : Int)) = true by simp; omega, if_true]
  rfl
theorem div_n {a b : Nat} (hb : 0 < b) (hl : b < 1073741824) : binF .FloorDiv (dN a) (dN b) h = .ok (dN (a / b)) h := by
  unfold binF
  simp only [show decide ((0 : Int) < (b : Int)) = true by simp; omega, show decide ((b : Int) < 1073741824) = true by simp; omega, Bool.and_self, if_true]
  rfl
theorem aug_add {a b : Nat} : augF .Add (dN a) (dN b) h = .ok (dN (a + b)) h := by unfold augF; rfl
theorem add_tup {a b : List D} (hl : a.length + b.length ≤ LIM) : binF .Add (.tup a) (.tup b) h = .ok (.tup (a ++ b)) h := by
  show mkT (a ++ b) h = _
  rw [mkT_ok (by simpa using hl)]
def catC (a b : Option Cell) (h : HS) : R D := match a, b with
    | some (.lst xs), some (.lst ys) => mkL (xs ++ ys) h
    | _, _ => .bad
theorem add_ref {a b : Nat} : binF .Add (.ref a) (.ref b) h = catC h[a]? h[b]? h := (rfl)
theorem catC_ {xs ys : List D} (hl : xs.length + ys.length ≤ LIM) : catC (some (.lst xs)) (some (.lst ys)) h = .ok (.ref h.length) (h ++ [.lst (xs ++ ys)]) := by
  show mkL (xs ++ ys) h = _
  rw [mkL_ok (by simpa using hl)]
theorem add_str {a b : Str} (hl : a.length + b.length ≤ LIM) : binF .Add (.str a) (.str b) h = .ok (.str (a ++ b)) h := if_pos hl
theorem cmp_eqn {a b : Nat} : cmpF .Eq (dN a) (dN b) h = some (decide (a = b)) := eqD_nat (h := h)
theorem cmp_nen {a b : Nat} : cmpF .NotEq (dN a) (dN b) h = some (decide (a ≠ b)) := by
  show (eqD h (dN a) (dN b)).map (!·) = _
  rw [eqD_nat, decide_not]; rfl
theorem cmp_ltn {a b : Nat} : cmpF .Lt (dN a) (dN b) h = some (decide (a < b)) := by
  show some (decide ((a : Int) < (b : Int))) = _
  congr 1; rw [Bool.eq_iff_iff]; simp
theorem cmp_gtn {a b : Nat} : cmpF .Gt (dN a) (dN b) h = some (decide (b < a)) := by
  show some (decide ((b : Int) < (a : Int))) = _
  congr 1; rw [Bool.eq_iff_iff]; simp
theorem cmp_len {a b : Nat} : cmpF .LtE (dN a) (dN b) h = some (decide (a ≤ b)) := by
  show some (decide ((a : Int) ≤ (b : Int))) = _
  congr 1; rw [Bool.eq_iff_iff]; simp
theorem cmp_gen {a b : Nat} : cmpF .GtE (dN a) (dN b) h = some (decide (b ≤ a)) := by
  show some (decide ((b : Int) ≤ (a : Int))) = _
  congr 1; rw [Bool.eq_iff_iff]; simp
theorem cmp_isN {x : D} : cmpF .Is x .non h = some (decide (x = .non)) := by cases x <;> rfl
theorem cmp_notN {x : D} : cmpF .IsNot x .non h = some (!decide (x = .non)) := by cases x <;> rfl
theorem cmp_eqP {x y : D} (hx : pI 60 x = true) (hy : pI 60 y = true) : cmpF .Eq x y h = some (decide (x = y)) := eqD_pI hx hy
theorem cmp_neP {x y : D} (hx : pI 60 x = true) (hy : pI 60 y = true) : cmpF .NotEq x y h = some (!decide (x = y)) := by
  show (eqD h x y).map (!·) = _
  rw [eqD_pI hx hy]; rfl
theorem dN_inj : ∀ {p q : List Nat}, p.map dN = q.map dN → p = q
  | [], [], _ => rfl
  | [], _ :: _, e => by simp at e
  | _ :: _, [], e => by simp at e
  | x :: p, y :: q, e => by
    rw [List.map_cons, List.map_cons] at e
    injection e with e1 e2
    injection e1 with e1
    rw [show x = y by omega, dN_inj e2]
theorem P_inj {p q : List Nat} : (P p = P q) = (p = q) := by
  refine propext ⟨fun e => ?_, fun e => by rw [e]⟩
  unfold P at e
  injection e with e
  exact dN_inj e
/-! truth -/
theorem tru_bl {b : Bool} : truD h (.bl b) = some b := (rfl)
theorem tru_n {n : Nat} : truD h (dN n) = some (decide (n ≠ 0)) := by
  show some ((n : Int) != 0) = _
  congr 1; rw [Bool.eq_iff_iff]; simp
theorem tru_tup {xs : List D} : truD h (.tup xs) = some (!xs.isEmpty) := (rfl)
def truC : Option Cell → Option Bool
  | some (.lst xs) => some (!xs.isEmpty)
  | _ => none
theorem tru_ref {m : Nat} : truD h (.ref m) = truC h[m]? := (rfl)
theorem truC_ {xs : List D} : truC (some (.lst xs)) = some (!xs.isEmpty) := (rfl)
/-! places -/
theorem ix_Pn {p : List Nat} {k : Nat} (hk : k < p.length) : ixF (P p) (dN k) h = .ok (dN (at_ p k)) h := ixF_P hk
theorem atI_n {α : Type} {xs : List α} {k : Nat} : L2.atI xs (k : Int) = xs[k]? := by
  by_cases c : k < xs.length
  · rw [List.getElem?_eq_getElem c, atI_nat (List.getElem?_eq_getElem c)]
  · rw [List.getElem?_eq_none (by omega)]
    unfold L2.atI L2.ixN
    rw [if_pos (by omega), if_neg (by omega)]; rfl
theorem ix_tup {xs : List D} {k : Nat} : ixF (.tup xs) (dN k) h = ofO xs[k]? h := by
  simp only [ixF, atI_n]
theorem ix_kt {xs : List D} {k : Nat} : ixF (.kt xs) (dN k) h = ofO xs[k]? h := by
  simp only [ixF, atI_n]
def ixC (c : Option Cell) (y : D) (h : HS) : R D := match c with
  | some (.lst xs) => match y with
    | .int i => ofO (L2.atI xs i) h
    | _ => .bad
  | some (.dct kvs) => if keyOk kvs y then ofO (getK kvs y) h else .bad
  | _ => .bad
theorem ix_ref {m : Nat} {y : D} : ixF (.ref m) y h = ixC h[m]? y h := (rfl)
theorem ixC_l {xs : List D} {k : Nat} : ixC (some (.lst xs)) (dN k) h = ofO xs[k]? h := by simp only [ixC, atI_n]
theorem ixC_d {kvs : List (D × D)} {y : D} (hk : keyOk kvs y = true) : ixC (some (.dct kvs)) y h = ofO (getK kvs y) h := by simp only [ixC, hk, if_true]
theorem atI_m1 {α : Type} {xs : List α} : L2.atI xs (-1) = xs.getLast? := by
  cases xs with
  | nil => rfl
  | cons x r =>
    unfold L2.atI
    rw [ixN_neg1 (by simp), List.getLast?_eq_getElem?]; rfl
theorem ixC_last {xs : List D} : ixC (some (.lst xs)) (.int (-1)) h = ofO xs.getLast? h := by simp only [ixC, atI_m1]
theorem ix_tlast {xs : List D} : ixF (.tup xs) (.int (-1)) h = ofO xs.getLast? h := by simp only [ixF, atI_m1]
def setC (c : Option Cell) (n : Nat) (i v : D) (h : HS) : R Unit := match c with
    | some (.lst xs) => match i with
      | .int k => match L2.ixN xs.length k with
        | some j => .ok () (h.set n (.lst (xs.set j v)))
        | none => .bad
      | _ => .bad
    | some (.dct kvs) => if keyOk kvs i && decide (kvs.length < LIM) then .ok () (h.set n (.dct (putK kvs i v))) else .bad
    | _ => .bad
theorem set_ref {m : Nat} {i v : D} : setF (.ref m) i v h = setC h[m]? m i v h := (rfl)
theorem setC_l {m : Nat} {xs : List D} {k : Nat} {x : D} (hk : k < xs.length) : setC (some (.lst xs)) m (dN k) x h = .ok () (h.set m (.lst (xs.set k x))) := by
  simp only [setC, ixN_nat hk]
theorem setC_d {m : Nat} {kvs : List (D × D)} {i x : D} (hk : keyOk kvs i = true) (hl : kvs.length < LIM) : setC (some (.dct kvs)) m i x h = .ok () (h.set m (.dct (putK kvs i x))) := by
  simp only [setC, hk, decide_eq_true hl, Bool.and_self, if_true]
/-! built-ins -/
theorem blsD_bls : ∀ {bs : List Bool}, blsD (bs.map .bl) = some bs
  | [] => rfl
  | x :: r => by rw [List.map_cons, blsD, blsD_bls]; rfl
theorem bi_lenP {p : List Nat} : biF .len [P p] h = .ok (dN p.length) h := by
  show R.ok (D.int ((p.map dN).length : Nat)) h = _
  rw [List.length_map]
theorem bi_lenT {xs : List D} : biF .len [.tup xs] h = .ok (dN xs.length) h := (rfl)
def lenC (c : Option Cell) (h : HS) : R D := match c with
    | some (.lst xs) => .ok (.int xs.length) h
    | some (.dct kvs) => if kvs.all (fun kv => keyD kv.1) || kvs.all (fun kv => tkeyD kv.1) then .ok (.int kvs.length) h else .bad
    | _ => .bad
theorem bi_lenR {m : Nat} : biF .len [.ref m] h = lenC h[m]? h := (rfl)
theorem lenC_l {xs : List D} : lenC (some (.lst xs)) h = .ok (dN xs.length) h := (rfl)
theorem lenC_d {kvs : List (D × D)} (hk : kvs.all (fun kv => keyD kv.1) = true) : lenC (some (.dct kvs)) h = .ok (dN kvs.length) h := by simp only [lenC, hk, Bool.true_or, if_true]
theorem lenC_t {kvs : List (D × D)} (hk : kvs.all (fun kv => tkeyD kv.1) = true) : lenC (some (.dct kvs)) h = .ok (dN kvs.length) h := by simp only [lenC, hk, Bool.or_true, if_true]
def tupC (c : Option Cell) (h : HS) : R D := match c with
    | some (.lst xs) => mkT xs h
    | _ => .bad
theorem bi_tupR {m : Nat} : biF .tuple [.ref m] h = tupC h[m]? h := by
  show (match itemsD h (.ref m) with | some ys => mkT ys h | none => .bad) = _
  simp only [itemsD]
  cases h[m]? with
  | none => rfl
  | some c => cases c <;> rfl
theorem tupC_ {xs : List D} (hl : xs.length ≤ LIM) : tupC (some (.lst xs)) h = .ok (.tup xs) h := mkT_ok hl
def lstC (c : Option Cell) (h : HS) : R D := match c with
    | some (.lst xs) => mkL xs h
    | _ => .bad
theorem bi_lstR {m : Nat} : biF .list [.ref m] h = lstC h[m]? h := by
  show (match itemsD h (.ref m) with | some ys => mkL ys h | none => .bad) = _
  simp only [itemsD]
  cases h[m]? with
  | none => rfl
  | some c => cases c <;> rfl
theorem lstC_ {xs : List D} (hl : xs.length ≤ LIM) : lstC (some (.lst xs)) h = .ok (.ref h.length) (h ++ [.lst xs]) := mkL_ok hl
theorem bi_lstP {p : List Nat} (hl : p.length ≤ LIM) : biF .list [P p] h = .ok (.ref h.length) (h ++ [.lst (p.map dN)]) := by
  simp only [biF, itemsD, P]; exact mkL_ok (by simpa using hl)
theorem bi_lstT {p : List D} (hl : p.length ≤ LIM) : biF .list [.tup p] h = .ok (.ref h.length) (h ++ [.lst p]) := by
  simp only [biF, itemsD]; exact mkL_ok (by simpa using hl)
def anyC (c : Option Cell) (h : HS) : R D := match c with
    | some (.lst xs) => match blsD xs with
      | some bs => .ok (.bl (bs.any id)) h
      | none => .bad
    | _ => .bad
theorem bi_anyR {m : Nat} : biF .any [.ref m] h = anyC h[m]? h := (rfl)
theorem blsD_map' {α : Type} {f : α → Bool} : ∀ {l : List α}, blsD (l.map fun x => D.bl (f x)) = some (l.map f)
  | [] => rfl
  | x :: r => by rw [List.map_cons, blsD, blsD_map']; rfl
theorem anyC_ {α : Type} {l : List α} {f : α → Bool} : anyC (some (.lst (l.map fun x => .bl (f x)))) h = .ok (.bl (l.any f)) h := by
  simp only [anyC, blsD_map', List.any_map]
  rfl
def allC (c : Option Cell) (h : HS) : R D := match c with
    | some (.lst xs) => match blsD xs with
      | some bs => .ok (.bl (bs.all id)) h
      | none => .bad
    | _ => .bad
theorem bi_allR {m : Nat} : biF .all [.ref m] h = allC h[m]? h := (rfl)
theorem allC_ {α : Type} {l : List α} {f : α → Bool} : allC (some (.lst (l.map fun x => .bl (f x)))) h = .ok (.bl (l.all f)) h := by
  simp only [allC, blsD_map', List.all_map]
  rfl
theorem bi_minN {a b : Nat} : biF .min [dN a, dN b] h = .ok (dN (min a b)) h := by
  simp only [biF]
  congr 2
  split <;> omega
theorem bi_maxN {a b : Nat} : biF .max [dN a, dN b] h = .ok (dN (max a b)) h := by
  simp only [biF]
  congr 2
  split <;> omega
theorem bi_absN {a : Nat} : biF .abs [dN a] h = .ok (dN a) h := by
  show R.ok (D.int (if (a : Int) < 0 then -(a : Int) else a)) h = _
  rw [if_neg (by omega)]
theorem bi_intN {a : Nat} : biF .int [dN a] h = .ok (dN a) h := by unfold biF; rfl
theorem kLrg1 {n : Nat} (hn : n ≤ LIM) : kLrg [dN n] h = .ok (.ref h.length) (h ++ [.lst ((List.range n).map dN)]) := by
  unfold kLrg
  simp only [rngF]
  rw [if_pos (by simpa using hn)]
  simp only [rngL_nat]
  exact mkL_ok (by simpa using hn)
theorem kTrg1 {n : Nat} (hn : n ≤ LIM) : kTrg [dN n] h = .ok (P (List.range n)) h := by
  unfold kTrg
  simp only [rngF]
  rw [if_pos (by simpa using hn)]
  simp only [rngL_nat]
  exact mkT_ok (by simpa using hn)
theorem rngL2 {a b : Nat} : rngL ((a : Int), (b : Int)) = (List.range (b - a)).map fun i => dN (a + i) := by
  unfold rngL
  have e : ((b : Int) - (a : Int)).toNat = b - a := by omega
  simp only [e]
  refine List.map_congr_left fun i _ => ?_
  show D.int _ = D.int _
  congr 1
theorem kLrg2 {a n : Nat} (ha : a ≤ LIM) (hn : n ≤ LIM) : kLrg [dN a, dN n] h = .ok (.ref h.length) (h ++ [.lst ((List.range (n - a)).map fun i => dN (a + i))]) := by
  unfold kLrg
  simp only [rngF]
  rw [if_pos ⟨by simpa using ha, by simpa using hn, by unfold LIM at *; omega⟩]
  simp only [rngL2]
  exact mkL_ok (by simp; omega)
theorem kRng1 {n : Nat} (hn : n ≤ LIM) : kRng [dN n] h = .ok ⟨(List.range n).map dN, none⟩ h := by
  unfold kRng
  simp only [rngF]
  rw [if_pos (by simpa using hn)]
  simp only [rngL_nat]
theorem kRng2 {a n : Nat} (ha : a ≤ LIM) (hn : n ≤ LIM) : kRng [dN a, dN n] h = .ok ⟨(List.range (n - a)).map fun i => dN (a + i), none⟩ h := by
  unfold kRng
  simp only [rngF]
  rw [if_pos ⟨by simpa using ha, by simpa using hn, by unfold LIM at *; omega⟩]
  simp only [rngL2]
theorem walk_P {n : Nat} {p : List Nat} : walkD n (P p) h = .ok ⟨p.map dN, none⟩ h := (rfl)
theorem walk_T {n : Nat} {xs : List D} : walkD n (.tup xs) h = .ok ⟨xs, none⟩ h := (rfl)
theorem live_none : liveOk none h = true := (rfl)
/-! methods -/
def rcvC (m : Me) (c : Option Cell) : Bool := match c with
    | some (.lst _) => match m with
      | .append | .pop | .extend | .index => true
      | _ => false
    | some (.dct _) => match m with
      | .get => true
      | _ => false
    | _ => false
theorem rcv_ref {k : Me} {m : Nat} : rcvOk k (.ref m) h = rcvC k h[m]? := (rfl)
theorem rcvC_app {xs : List D} : rcvC .append (some (.lst xs)) = true := (rfl)
theorem rcvC_pop {xs : List D} : rcvC .pop (some (.lst xs)) = true := (rfl)
theorem rcvC_ext {xs : List D} : rcvC .extend (some (.lst xs)) = true := (rfl)
theorem rcvC_idx {xs : List D} : rcvC .index (some (.lst xs)) = true := (rfl)
theorem rcvC_get {xs : List (D × D)} : rcvC .get (some (.dct xs)) = true := (rfl)
def meC (k : Me) (c : Option Cell) (m : Nat) (xs : List D) (h : HS) : R D := match c with
    | some (.lst ys) => lstMe k m ys xs h
    | some (.dct kvs) => dctMe k kvs xs h
    | _ => .bad
theorem me_ref {k : Me} {m : Nat} {xs : List D} : meF k (.ref m) xs h = meC k h[m]? m xs h := (rfl)
theorem me_app {m : Nat} {xs : List D} {x : D} (hl : xs.length < LIM) : meC .append (some (.lst xs)) m [x] h = .ok .non (h.set m (.lst (xs ++ [x]))) := by
  simp only [meC, lstMe, if_pos hl]
def extC (c : Option Cell) (m : Nat) (ys : List D) (h : HS) : R D := match c with
    | some (.lst zs) => if ys.length + zs.length ≤ LIM then .ok .non (h.set m (.lst (ys ++ zs))) else .bad
    | _ => .bad
theorem me_ext {m b : Nat} {xs : List D} : meC .extend (some (.lst xs)) m [.ref b] h = extC h[b]? m xs h := (rfl)
theorem extC_ {m : Nat} {xs ys : List D} (hl : xs.length + ys.length ≤ LIM) : extC (some (.lst ys)) m xs h = .ok .non (h.set m (.lst (xs ++ ys))) := by
  simp only [extC, if_pos hl]
theorem me_pop {m : Nat} {xs : List D} {y : D} : meC .pop (some (.lst (xs ++ [y]))) m [] h = .ok y (h.set m (.lst xs)) := by
  simp [meC, lstMe]
def popC (o : Option D) (m k : Nat) (ys : List D) (h : HS) : R D := match o with
  | some y => .ok y (h.set m (.lst (ys.eraseIdx k)))
  | none => .bad
theorem me_popAt {m k : Nat} {ys : List D} (hl : k < 16777216) (hk : k < ys.length) : meC .pop (some (.lst ys)) m [dN k] h = popC ys[k]? m k ys h := by
  simp only [meC, lstMe]
  rw [if_pos (by simp; omega), ixN_nat hk]
  rfl
theorem popC_ {m k : Nat} {ys : List D} {y : D} : popC (some y) m k ys h = .ok y (h.set m (.lst (ys.eraseIdx k))) := (rfl)
theorem me_get1 {m : Nat} {kvs : List (D × D)} {x : D} (hk : keyOk kvs x = true) : meC .get (some (.dct kvs)) m [x] h = .ok ((getK kvs x).getD .non) h := by
  simp only [meC, dctMe, hk, if_true]
theorem me_get2 {m : Nat} {kvs : List (D × D)} {x d : D} (hk : keyOk kvs x = true) : meC .get (some (.dct kvs)) m [x, d] h = .ok ((getK kvs x).getD d) h := by
  simp only [meC, dctMe, hk, if_true]
/-! walks over a list -/
def walkC (n c : Nat) (h : HS) (o : Option Cell) : R Its := match o with
    | some (.lst xs) => if decide (n ≤ c) && (h.take n).all (Cell.lo n) && D.los n xs then .ok ⟨xs, none⟩ (h.take n) else .ok ⟨xs, some (c, xs)⟩ h
    | _ => .bad
theorem walk_ref {n c : Nat} : walkD n (.ref c) h = walkC n c h h[c]? := (rfl)
theorem walkC_old {n c : Nat} {xs : List D} (hc : c < n) : walkC n c h (some (.lst xs)) = .ok ⟨xs, some (c, xs)⟩ h := by
  simp only [walkC]
  rw [if_neg]
  simp; omega
theorem walk_old {n c : Nat} {xs : List D} (e : h[c]? = some (.lst xs)) (hc : c < n) : walkD n (.ref c) h = .ok ⟨xs, some (c, xs)⟩ h := by
  simp only [walkD, e]
  rw [if_neg]
  simp; omega
theorem live_some {c : Nat} {xs : List D} : liveOk (some (c, xs)) h = decide (h[c]? = some (.lst xs)) := (rfl)
theorem walk_new {xs : List D} {g : HS} (hw : WF g) (hl : D.los g.length xs = true) : walkD g.length (.ref g.length) (g ++ [.lst xs]) = .ok ⟨xs, none⟩ g := by
  have hw' : (g.all (Cell.lo g.length)) = true := hw
  simp only [walkD, get_app_len]
  rw [List.take_left']
  · rw [if_pos (by simp only [decide_eq_true (Nat.le_refl _), hw', hl, Bool.and_self])]
  · rfl
end
end Mi

namespace Mi
open PySem
theorem pos_s {n : Nat} : (0 < n + 1) = True := eq_true (Nat.succ_pos n)
theorem neg1_ : (-((1 : Nat) : Int)) = (-1 : Int) := rfl
theorem one_add0 {n : Nat} : (1 + n = 0) = False := eq_false (by omega)
theorem add_one0 {n : Nat} : (n + 1 = 0) = False := eq_false (by omega)
theorem mp_id {p : Prop} (h : p) : p := h
/-! ## heaps: a ground and new cells behind it -/
section
variable {h l m r : HS} {c : Cell} {v : D} {k j n : Nat}
theorem gh0 : (h ++ l)[h.length]? = l[0]? := by rw [List.getElem?_append_right (Nat.le_refl _), Nat.sub_self]
theorem ghk : (h ++ l)[no_index (h.length + k)]? = l[k]? := by
  show (h ++ l)[h.length + k]? = _
  rw [List.getElem?_append_right (by omega), Nat.add_sub_cancel_left]
theorem sh0 : (h ++ l).set h.length c = h ++ l.set 0 c := by rw [List.set_append_right _ _ (Nat.le_refl _), Nat.sub_self]
theorem shk : (h ++ l).set (no_index (h.length + k)) c = h ++ l.set k c := by
  show (h ++ l).set (h.length + k) c = _
  rw [List.set_append_right _ _ (by omega), Nat.add_sub_cancel_left]
theorem gho (hm : n < h.length) : (h ++ l)[n]? = h[n]? := List.getElem?_append_left hm
theorem sho (hm : n < h.length) : (h ++ l).set n c = h.set n c ++ l := List.set_append_left _ _ hm
theorem WF.appl (hw : WF h) (hl : l.all (Cell.lo (h.length + l.length)) = true) : WF (h ++ l) := by
  unfold WF at *
  rw [List.all_append, List.length_append, hl, Bool.and_true]
  rw [List.all_eq_true] at hw ⊢
  exact fun x hx => Cell.lo_mono (Nat.le_add_right _ _) (hw x hx)
/-- new cells fall away, from the k-th on -/
theorem trim_hk (hw : WF (h ++ l.take k)) (hk : k ≤ l.length) (hv : v.lo (h.length + k) = true) (hr : isRef v = false) : trim (no_index (h.length + k)) v (h ++ l) = .ok v (h ++ l.take k) := by
  have e : h ++ l = (h ++ l.take k) ++ l.drop k := by rw [List.append_assoc, List.take_append_drop]
  have n : h.length + k = (h ++ l.take k).length := by rw [List.length_append, List.length_take, Nat.min_eq_left hk]
  rw [e, n]
  exact trim_app hw (by rw [← n]; exact hv) hr
theorem trim_h0 (hw : WF h) (hv : v.lo h.length = true) (hr : isRef v = false) : trim h.length v (h ++ l) = .ok v h := trim_app hw hv hr
/-- .. the value is a cell that stood before -/
theorem trim_old {a : Nat} (hw : WF (h ++ l.take k)) (hk : k ≤ l.length) (ha : a < h.length + k) : trim (no_index (h.length + k)) (.ref a) (h ++ l) = .ok (.ref a) (h ++ l.take k) := by
  have e : h ++ l = (h ++ l.take k) ++ l.drop k := by rw [List.append_assoc, List.take_append_drop]
  have n : h.length + k = (h ++ l.take k).length := by rw [List.length_append, List.length_take, Nat.min_eq_left hk]
  rw [e, n]
  unfold trim
  by_cases q : ((h ++ l.take k) ++ l.drop k).length ≤ (h ++ l.take k).length
  · rw [if_pos q]
    have : l.drop k = [] := by
      rw [List.length_append] at q
      exact List.length_eq_zero_iff.mp (by omega)
    rw [this, List.append_nil]
  · have hw' : ((h ++ l.take k).all (Cell.lo (h ++ l.take k).length)) = true := hw
    rw [if_neg q, List.take_left', if_pos hw']
    · show (if a < (h ++ l.take k).length then _ else _) = _
      rw [if_pos (by rw [← n]; exact ha)]
    · rfl
/-- .. a new list takes the first new place -/
theorem trim_newk (hw : WF (h ++ l.take k)) (hj : k ≤ j) (hjl : j < l.length) (hl : ((l.drop j).take 1).all (Cell.lo (h.length + k)) = true) : trim (no_index (h.length + k)) (.ref (no_index (h.length + j))) (h ++ l) = .ok (.ref (h.length + k)) (h ++ (l.take k ++ (l.drop j).take 1)) := by
  have hc : l[j]? = some l[j] := List.getElem?_eq_getElem hjl
  have ed : (l.drop j).take 1 = [l[j]] := by rw [List.drop_eq_getElem_cons hjl]; rfl
  rw [ed] at hl ⊢
  have hl : l[j].lo (h.length + k) = true := by simpa using hl
  have e : h ++ l = (h ++ l.take k) ++ l.drop k := by rw [List.append_assoc, List.take_append_drop]
  have n : h.length + k = (h ++ l.take k).length := by rw [List.length_append, List.length_take, Nat.min_eq_left (by omega)]
  have := trim_new (h := h ++ l.take k) (ext := l.drop k) (m := h.length + j) (c := l[j]) hw (by rw [← n]; omega) (by rw [← e, ghk, hc]) (by rw [← n]; exact hl)
  rw [← e, ← n, List.append_assoc] at this
  exact this
theorem trim_new0 (hw : WF h) (hjl : j < l.length) (hl : ((l.drop j).take 1).all (Cell.lo h.length) = true) : trim h.length (.ref (no_index (h.length + j))) (h ++ l) = .ok (.ref h.length) (h ++ (l.drop j).take 1) := by
  have := trim_newk (h := h) (l := l) (k := 0) (j := j) (by simpa using hw) (Nat.zero_le _) hjl (by simpa using hl)
  simpa using this
theorem trim_new1 : trim h.length (.ref h.length) (h ++ [c]) = .ok (.ref h.length) (h ++ [c]) := trim_one
theorem trim_nn (hn : (h ++ l).length = n) : trim n v (h ++ l) = .ok v (h ++ l) := trim_le (by omega)
end
theorem walkC_hk {h l : HS} {k j : Nat} {xs : List D} (hw : WF (h ++ l.take k)) (hk : k ≤ j) (hkl : k ≤ l.length) (hl : D.los (h.length + k) xs = true) : walkC (no_index (h.length + k)) (no_index (h.length + j)) (h ++ l) (some (.lst xs)) = .ok ⟨xs, none⟩ (h ++ l.take k) := by
  have e : h ++ l = (h ++ l.take k) ++ l.drop k := by rw [List.append_assoc, List.take_append_drop]
  have n : h.length + k = (h ++ l.take k).length := by rw [List.length_append, List.length_take, Nat.min_eq_left hkl]
  have hw' : ((h ++ l.take k).all (Cell.lo (h ++ l.take k).length)) = true := hw
  show (if (decide (h.length + k ≤ h.length + j) && ((h ++ l).take (h.length + k)).all (Cell.lo (h.length + k)) && D.los (h.length + k) xs) = true then _ else _) = _
  rw [decide_eq_true (by omega), hl, e, n, List.take_left', if_pos (by rw [hw']; rfl)]
  · rfl
theorem walkC_h0 {h l : HS} {xs : List D} (hw : WF h) (hl : D.los h.length xs = true) : walkC h.length h.length (h ++ l) (some (.lst xs)) = .ok ⟨xs, none⟩ h := by
  have := walkC_hk (h := h) (l := l) (k := 0) (j := 0) (xs := xs) (by simpa using hw) (Nat.le_refl _) (Nat.zero_le _) (by simpa using hl)
  simpa using this
/-! ### the draws' ground -/
structure DSt where
  ns : List Int
  i : Nat
  v : Nat
  s : Nat
def DH (S : DSt) (r : HS) : HS := .lst (S.ns.map .int) :: .lst [.ref 0, dN S.i, dN S.v, dN S.s] :: r
def BL (r : HS) : Nat := r.length + 2
def WFr (r : HS) : Prop := r.all (Cell.lo (BL r)) = true
section
variable {S S' : DSt} {h l m r : HS} {c : Cell} {v : D} {k j n : Nat}
theorem DH_len : (DH S r).length = BL r := (rfl)
theorem BL_app : BL (r ++ l) = BL r + l.length := by unfold BL; rw [List.length_append]; omega
theorem DH_app : DH S r ++ l = DH S (r ++ l) := (rfl)
theorem BL_pos : 1 < BL r := by unfold BL; omega
theorem gd0 : (DH S (r ++ l))[BL r]? = l[0]? := by rw [← DH_app, ← DH_len (S := S)]; exact gh0
theorem gdk : (DH S (r ++ l))[no_index (BL r + k)]? = l[k]? := by rw [← DH_app, ← DH_len (S := S)]; exact ghk
theorem sd0 : (DH S (r ++ l)).set (BL r) c = DH S (r ++ l.set 0 c) := by rw [← DH_app, ← DH_app, ← DH_len (S := S)]; exact sh0
theorem sdk : (DH S (r ++ l)).set (no_index (BL r + k)) c = DH S (r ++ l.set k c) := by rw [← DH_app, ← DH_app, ← DH_len (S := S)]; exact shk
theorem gdo (hm : n < BL r) : (DH S (r ++ l))[n]? = (DH S r)[n]? := by rw [← DH_app]; exact gho (by rw [DH_len]; exact hm)
theorem WF.dh (hw : WFr r) : WF (DH S r) := by
  unfold WF DH
  rw [List.all_cons, List.all_cons]
  have e1 : Cell.lo (DH S r).length (.lst (S.ns.map .int)) = true := los_ints
  have e2 : Cell.lo (DH S r).length (.lst [.ref 0, dN S.i, dN S.v, dN S.s]) = true := (rfl)
  have e3 : r.all (Cell.lo (DH S r).length) = true := hw
  unfold DH at e1 e2 e3
  rw [e1, e2, e3]; rfl
theorem WFr.app (hw : WFr r) (hl : l.all (Cell.lo (BL r + l.length)) = true) : WFr (r ++ l) := by
  unfold WFr at *
  rw [List.all_append, BL_app, hl, Bool.and_true]
  rw [List.all_eq_true] at hw ⊢
  exact fun x hx => Cell.lo_mono (Nat.le_add_right _ _) (hw x hx)
theorem trim_dk (hw : WFr (r ++ l.take k)) (hk : k ≤ l.length) (hv : v.lo (BL r + k) = true) (hr : isRef v = false) : trim (no_index (BL r + k)) v (DH S (r ++ l)) = .ok v (DH S (r ++ l.take k)) :=
  trim_hk (h := DH S r) (WF.dh hw) hk hv hr
theorem trim_d0 (hw : WFr r) (hv : v.lo (BL r) = true) (hr : isRef v = false) : trim (BL r) v (DH S (r ++ l)) = .ok v (DH S r) := trim_h0 (h := DH S r) (WF.dh hw) hv hr
theorem trim_dold {a : Nat} (hw : WFr (r ++ l.take k)) (hk : k ≤ l.length) (ha : a < BL r + k) : trim (no_index (BL r + k)) (.ref a) (DH S (r ++ l)) = .ok (.ref a) (DH S (r ++ l.take k)) := trim_old (h := DH S r) (WF.dh hw) hk ha
theorem trim_dnewk (hw : WFr (r ++ l.take k)) (hj : k ≤ j) (hjl : j < l.length) (hl : ((l.drop j).take 1).all (Cell.lo (BL r + k)) = true) : trim (no_index (BL r + k)) (.ref (no_index (BL r + j))) (DH S (r ++ l)) = .ok (.ref (BL r + k)) (DH S (r ++ (l.take k ++ (l.drop j).take 1))) :=
  trim_newk (h := DH S r) (WF.dh hw) hj hjl hl
theorem trim_dnew0 (hw : WFr r) (hjl : j < l.length) (hl : ((l.drop j).take 1).all (Cell.lo (BL r)) = true) : trim (BL r) (.ref (no_index (BL r + j))) (DH S (r ++ l)) = .ok (.ref (BL r)) (DH S (r ++ (l.drop j).take 1)) := trim_new0 (h := DH S r) (WF.dh hw) hjl hl
theorem trim_dnew1 : trim (BL r) (.ref (BL r)) (DH S (r ++ [c])) = .ok (.ref (BL r)) (DH S (r ++ [c])) := trim_one (h := DH S r)
theorem trim_dn (hn : BL r = n) : trim n v (DH S r) = .ok v (DH S r) := trim_le (by rw [DH_len, hn]; exact Nat.le_refl _)
end
theorem walkC_dk {S : DSt} {r l : HS} {k j : Nat} {xs : List D} (hw : WFr (r ++ l.take k)) (hk : k ≤ j) (hkl : k ≤ l.length) (hl : D.los (BL r + k) xs = true) : walkC (no_index (BL r + k)) (no_index (BL r + j)) (DH S (r ++ l)) (some (.lst xs)) = .ok ⟨xs, none⟩ (DH S (r ++ l.take k)) :=
  walkC_hk (h := DH S r) (WF.dh hw) hk hkl hl
theorem walkC_d0 {S : DSt} {r l : HS} {xs : List D} (hw : WFr r) (hl : D.los (BL r) xs = true) : walkC (BL r) (BL r) (DH S (r ++ l)) (some (.lst xs)) = .ok ⟨xs, none⟩ (DH S r) := walkC_h0 (h := DH S r) (WF.dh hw) hl
/-! ### what refers to no new cell -/
section
variable {n : Nat}
theorem lo_lst {xs : List D} : Cell.lo n (.lst xs) = D.los n xs := (rfl)
theorem lo_dct {kvs : List (D × D)} : Cell.lo n (.dct kvs) = kvs.all fun kv => kv.1.lo n && kv.2.lo n := (rfl)
theorem los_nil : D.los n [] = true := (rfl)
theorem los_cons {x : D} {xs : List D} : D.los n (x :: xs) = (D.lo n x && D.los n xs) := (rfl)
theorem los_app {xs ys : List D} : D.los n (xs ++ ys) = (D.los n xs && D.los n ys) := by
  induction xs with
  | nil => rfl
  | cons x r ih => rw [List.cons_append, los_cons, ih, los_cons, Bool.and_assoc]
theorem lo_int {i : Int} : D.lo n (.int i) = true := (rfl)
theorem lo_bl {i : Bool} : D.lo n (.bl i) = true := (rfl)
theorem lo_str {i : Str} : D.lo n (.str i) = true := (rfl)
theorem lo_non : D.lo n .non = true := (rfl)
theorem lo_tup {xs : List D} : D.lo n (.tup xs) = D.los n xs := (rfl)
theorem lo_kt {xs : List D} : D.lo n (.kt xs) = D.los n xs := (rfl)
theorem lo_ref {m : Nat} : D.lo n (.ref m) = decide (m < n) := (rfl)
theorem los_mapdN {l : List Nat} : D.los n (l.map dN) = true := los_nats
theorem los_mapP {l : List (List Nat)} : D.los n (l.map P) = true := los_map fun _ _ => lo_P
theorem los_mapI {l : List Int} : D.los n (l.map .int) = true := los_ints
theorem los_mapf {l : List Nat} {f : Nat → Nat} : D.los n (l.map fun i => dN (f i)) = true := los_map fun _ _ => rfl
theorem los_repN {k x : Nat} : D.los n (List.replicate k (dN x)) = true := los_all fun y hy => by rw [List.eq_of_mem_replicate hy]; rfl
theorem los_rep {k : Nat} {x : D} (hx : x.lo n = true) : D.los n (List.replicate k x) = true := los_all fun y hy => by rw [List.eq_of_mem_replicate hy]; exact hx
mutual
theorem lo_pI : ∀ {d : Nat} {x : D}, pI d x = true → x.lo n = true
  | _, .non, _ => rfl
  | _, .bl _, _ => rfl
  | _, .int _, _ => rfl
  | _, .str _, _ => rfl
  | _, .fz _, _ => rfl
  | d, .ref m, h => by rw [pI_ref] at h; cases h
  | 0, .tup xs, h => by simp [pI] at h
  | d + 1, .tup xs, h => by rw [lo_tup]; exact los_pI (d := d) (by simpa [pI] using h)
  | 0, .kt xs, h => by simp [pI] at h
  | d + 1, .kt xs, h => by rw [lo_kt]; exact los_pI (d := d) (by simpa [pI] using h)
theorem los_pI : ∀ {d : Nat} {xs : List D}, pI.pIs d xs = true → D.los n xs = true
  | _, [], _ => rfl
  | d, x :: xs, h => by
    simp only [pI.pIs, Bool.and_eq_true] at h
    rw [los_cons, lo_pI h.1, los_pI h.2]; rfl
end
theorem isRef_int {i : Int} : isRef (.int i) = false := (rfl)
theorem isRef_bl {i : Bool} : isRef (.bl i) = false := (rfl)
theorem isRef_str {i : Str} : isRef (.str i) = false := (rfl)
theorem isRef_tup {i : List D} : isRef (.tup i) = false := (rfl)
theorem isRef_P {i : List Nat} : isRef (P i) = false := (rfl)
theorem isRef_non : isRef .non = false := (rfl)
theorem LIM_v : LIM = 16777216 := (rfl)
end
end Mi
namespace Mi
open PySem
/-! slices of lists -/
def slC (c : Option Cell) (lo hi : Option Int) (h : HS) : R D := match c with
    | some (.lst xs) => .ok (.ref h.length) (h ++ [.lst (cutD xs lo hi)])
    | _ => .bad
theorem sl_ref {m : Nat} {lo hi : Option Int} {h : HS} : slF (.ref m) lo hi h = slC h[m]? lo hi h := (rfl)
theorem slC_ {xs : List D} {lo hi : Option Int} {h : HS} : slC (some (.lst xs)) lo hi h = .ok (.ref h.length) (h ++ [.lst (cutD xs lo hi)]) := (rfl)
theorem sl_tup {xs : List D} {lo hi : Option Int} {h : HS} : slF (.tup xs) lo hi h = .ok (.tup (cutD xs lo hi)) h := (rfl)
theorem cut_n0 {xs : List D} {a : Nat} : cutD xs (some (a : Int)) none = xs.drop a := by
  unfold cutD
  rw [HT.sIx_nat, HT.sIx_none]
  by_cases ha : a ≤ xs.length
  · rw [Nat.min_eq_left ha, List.take_of_length_le (by simp)]
  · rw [Nat.min_eq_right (by omega), List.drop_of_length_le (Nat.le_refl _), List.drop_of_length_le (by omega)]; simp
theorem cut_0n {xs : List D} {b : Nat} : cutD xs none (some (b : Int)) = xs.take b := by
  unfold cutD
  rw [HT.sIx_nat, HT.sIx_none, List.drop_zero, Nat.sub_zero]
  by_cases hb : b ≤ xs.length
  · rw [Nat.min_eq_left hb]
  · rw [Nat.min_eq_right (by omega), List.take_of_length_le (Nat.le_refl _), List.take_of_length_le (by omega)]
theorem cut_nn {xs : List D} {a b : Nat} : cutD xs (some (a : Int)) (some (b : Int)) = (xs.drop a).take (b - a) := by
  unfold cutD
  rw [HT.sIx_nat, HT.sIx_nat]
  by_cases ha : a ≤ xs.length
  · rw [Nat.min_eq_left ha]
    by_cases hb : b ≤ xs.length
    · rw [Nat.min_eq_left hb]
    · have e : min b xs.length = xs.length := Nat.min_eq_right (by omega)
      rw [e, List.take_of_length_le (by simp), List.take_of_length_le (by simp; omega)]
  · have e : min a xs.length = xs.length := Nat.min_eq_right (by omega)
    rw [e, List.drop_of_length_le (Nat.le_refl _), List.drop_of_length_le (show xs.length ≤ a by omega)]
    simp
end Mi
namespace Mi
open PySem
/-- the end of a call -/
def fin (n : Nat) : Fl → R D
  | .ret v h => trim n v h
  | .next _ h => trim n .non h
  | .exc c fs _ h => .exc c fs h
  | _ => .bad
theorem fin_ret {n : Nat} {v : D} {h : HS} : fin n (.ret v h) = trim n v h := (rfl)
theorem fin_next {n : Nat} {δ : En} {h : HS} : fin n (.next δ h) = trim n .non h := (rfl)
theorem fin_exc {n : Nat} {c : Str} {fs : List (Str × D)} {δ : En} {h : HS} : fin n (.exc c fs δ h) = .exc c fs h := (rfl)
theorem fin_ite {n : Nat} {p : Prop} [Decidable p] {x y : Fl} : fin n (if p then x else y) = if p then fin n x else fin n y := by split <;> rfl
theorem callD_run {T : Tb} {k : Nat} {f : Str} {d : Df} {args : List D} {h : HS} (ht : T f = some d) (hl : args.length = d.np) : callD T (k + 1) f args h = fin h.length (execB (callD T k) d.body (startE d.n args) h) := by
  rw [callD, ht]
  simp only [if_pos hl]
  cases execB (callD T k) d.body (startE d.n args) h <;> rfl
def CS.thn : CS → CSs
  | .ifs _ a _ => a
  | .for_ _ _ b => b
  | .while_ _ b => b
  | _ => .nil
def CS.els : CS → CSs
  | .ifs _ _ b => b
  | _ => .nil
def CSs.hd : CSs → CS
  | .cons s _ => s
  | .nil => .pass
def CSs.tl : CSs → CSs
  | .cons _ r => r
  | .nil => .nil
/-- the first j places are written -/
def Wl (n : Nat) (f : Nat → Nat) (j : Nat) : List Nat := (List.range n).map fun y => if y < j then f y else y
theorem Wl_len {n j : Nat} {f : Nat → Nat} : (Wl n f j).length = n := by unfold Wl; simp
/-! ## loops -/
/-- where a body goes on -/
def Nx (o : Fl) (Q : En → HS → Prop) : Prop := match o with
  | .next δ h => Q δ h
  | .cont δ h => Q δ h
  | _ => False
theorem Nx_next {δ : En} {h : HS} {Q : En → HS → Prop} : Nx (.next δ h) Q = Q δ h := (rfl)
theorem Nx_cont {δ : En} {h : HS} {Q : En → HS → Prop} : Nx (.cont δ h) Q = Q δ h := (rfl)
theorem Nx_ite {p : Prop} [Decidable p] {x y : Fl} {Q : En → HS → Prop} : Nx (if p then x else y) Q = if p then Nx x Q else Nx y Q := by split <;> rfl
/-- .. or ends -/
def Fx (o : Fl) (Q : En → HS → Prop) (B : En → HS → Prop) (Rt : D → HS → Prop) : Prop := match o with
  | .next δ h => Q δ h
  | .cont δ h => Q δ h
  | .brk δ h => B δ h
  | .ret v h => Rt v h
  | _ => False
section
variable {δ : En} {h : HS} {v : D} {Q B : En → HS → Prop} {Rt : D → HS → Prop}
theorem Fx_next : Fx (.next δ h) Q B Rt = Q δ h := (rfl)
theorem Fx_cont : Fx (.cont δ h) Q B Rt = Q δ h := (rfl)
theorem Fx_brk : Fx (.brk δ h) Q B Rt = B δ h := (rfl)
theorem Fx_ret : Fx (.ret v h) Q B Rt = Rt v h := (rfl)
theorem Fx_ite {p : Prop} [Decidable p] {x y : Fl} : Fx (if p then x else y) Q B Rt = if p then Fx x Q B Rt else Fx y Q B Rt := by split <;> rfl
end
theorem forD_gen {live : HS → Bool} {f : D → En → HS → Fl} {Rt : D → HS → Prop} {B : En → HS → Prop} : ∀ {xs : List D} {δ : En} {h : HS} (Q : Nat → En → HS → Prop) (k : Nat), Q k δ h →
    (∀ i x δ h, xs[i]? = some x → Q (k + i) δ h → live h = true ∧ Fx (f x δ h) (Q (k + i + 1)) B Rt) → (∀ δ h, Q (k + xs.length) δ h → live h = true) →
    (∃ δ' h', forD live f xs δ h = .next δ' h' ∧ Q (k + xs.length) δ' h') ∨ (∃ δ' h', forD live f xs δ h = .next δ' h' ∧ B δ' h') ∨ ∃ v h', forD live f xs δ h = .ret v h' ∧ Rt v h'
  | [], δ, h, Q, k, h0, hs, hl => .inl ⟨δ, h, by rw [forD, if_pos (hl δ h h0)], h0⟩
  | x :: r, δ, h, Q, k, h0, hs, hl => by
    obtain ⟨lv, fx⟩ := hs 0 x δ h rfl h0
    have e1 : k + 1 + r.length = k + (x :: r).length := by rw [List.length_cons]; omega
    have go : ∀ δ1 h1, Q (k + 1) δ1 h1 → _ := fun δ1 h1 q1 => forD_gen (live := live) (f := f) (Rt := Rt) (B := B) (xs := r) (δ := δ1) (h := h1) Q (k + 1) q1 (fun i y δ h hi hq => by
      have e1 : k + 1 + i = k + (i + 1) := by omega
      rw [e1] at hq ⊢
      exact hs (i + 1) y δ h (by simpa using hi) hq) (fun δ h hq => hl δ h (by rw [← e1]; exact hq))
    rw [e1] at go
    rw [forD, if_pos lv]
    cases e : f x δ h with
    | next δ1 h1 => rw [e] at fx; exact go δ1 h1 fx
    | cont δ1 h1 => rw [e] at fx; exact go δ1 h1 fx
    | brk δ1 h1 => rw [e] at fx; exact .inr (.inl ⟨δ1, h1, rfl, fx⟩)
    | ret v h1 => rw [e] at fx; exact .inr (.inr ⟨v, h1, rfl, fx⟩)
    | exc _ _ _ _ => rw [e] at fx; exact fx.elim
    | bad => rw [e] at fx; exact fx.elim
theorem for_all {live : HS → Bool} {f : D → En → HS → Fl} {xs : List D} {δ : En} {h : HS} {o : Fl} (e : forD live f xs δ h = o) (Q : Nat → En → HS → Prop) (B : En → HS → Prop) (Rt : D → HS → Prop) (h0 : Q 0 δ h)
    (hs : ∀ i x δ h, xs[i]? = some x → Q i δ h → live h = true ∧ Fx (f x δ h) (Q (i + 1)) B Rt) (hl : ∀ δ h, Q xs.length δ h → live h = true) :
    (∃ δ' h', o = .next δ' h' ∧ Q xs.length δ' h') ∨ (∃ δ' h', o = .next δ' h' ∧ B δ' h') ∨ ∃ v h', o = .ret v h' ∧ Rt v h' := by
  have := forD_gen (live := live) (f := f) (Rt := Rt) (B := B) (xs := xs) (δ := δ) (h := h) Q 0 h0 (fun i x δ h hi hq => by
    rw [Nat.zero_add] at hq ⊢; exact hs i x δ h hi hq) (fun δ h hq => hl δ h (by rw [Nat.zero_add] at hq; exact hq))
  rw [e, Nat.zero_add] at this
  exact this
theorem Nx.fx {o : Fl} {Q : En → HS → Prop} (h : Nx o Q) : Fx o Q (fun _ _ => False) (fun _ _ => False) := by
  cases o <;> first | exact h | exact h.elim
/-- a for that runs through -/
theorem for_ex {live : HS → Bool} {f : D → En → HS → Fl} {xs : List D} {δ : En} {h : HS} {o : Fl} (e : forD live f xs δ h = o) (Q : Nat → En → HS → Prop) (h0 : Q 0 δ h)
    (hs : ∀ i x δ h, xs[i]? = some x → Q i δ h → live h = true ∧ Nx (f x δ h) (Q (i + 1))) (hl : ∀ δ h, Q xs.length δ h → live h = true) :
    ∃ δ' h', o = .next δ' h' ∧ Q xs.length δ' h' := by
  rcases for_all e Q (fun _ _ => False) (fun _ _ => False) h0 (fun i x δ h hi hq => ⟨(hs i x δ h hi hq).1, (hs i x δ h hi hq).2.fx⟩) hl with h | ⟨_, _, _, h⟩ | ⟨_, _, _, h⟩
  · exact h
  · exact h.elim
  · exact h.elim
/-- a for that may return -/
theorem for_ret {live : HS → Bool} {f : D → En → HS → Fl} {xs : List D} {δ : En} {h : HS} {o : Fl} (e : forD live f xs δ h = o) (Q : Nat → En → HS → Prop) (Rt : D → HS → Prop) (h0 : Q 0 δ h)
    (hs : ∀ i x δ h, xs[i]? = some x → Q i δ h → live h = true ∧ Fx (f x δ h) (Q (i + 1)) (fun _ _ => False) Rt) (hl : ∀ δ h, Q xs.length δ h → live h = true) :
    (∃ δ' h', o = .next δ' h' ∧ Q xs.length δ' h') ∨ ∃ v h', o = .ret v h' ∧ Rt v h' := by
  rcases for_all e Q (fun _ _ => False) Rt h0 hs hl with h | ⟨_, _, _, h⟩ | h
  · exact .inl h
  · exact h.elim
  · exact .inr h
/-- a test -/
def Bx (o : R Bool) (Q : Bool → HS → Prop) : Prop := match o with
  | .ok t h => Q t h
  | _ => False
theorem Bx_ok {t : Bool} {h : HS} {Q : Bool → HS → Prop} : Bx (.ok t h) Q = Q t h := (rfl)
theorem Bx_ite {p : Prop} [Decidable p] {x y : R Bool} {Q : Bool → HS → Prop} : Bx (if p then x else y) Q = if p then Bx x Q else Bx y Q := by split <;> rfl
theorem while_all {c : En → HS → R Bool} {f : En → HS → Fl} (B E : En → HS → Prop) (Rt : D → HS → Prop) : ∀ (m : Nat) {N : Nat} {δ : En} {h : HS} {o : Fl} (e : whileD c f N δ h = o) (Q : Nat → En → HS → Prop) (hm : m < N) (h0 : Q m δ h)
    (hs : ∀ m δ h, Q m δ h → Bx (c δ h) fun t h1 => if t = true then Fx (f δ h1) (fun δ' h' => ∃ m', m' < m ∧ Q m' δ' h') E Rt else E δ h1),
    (∃ δ' h', o = .next δ' h' ∧ E δ' h') ∨ ∃ v h', o = .ret v h' ∧ Rt v h' := by
  intro m
  induction m using Nat.strongRecOn with
  | _ m ih =>
    intro N δ h o e Q hN h0 hs
    cases N with
    | zero => omega
    | succ N =>
      have b := hs m δ h h0
      rw [whileD] at e
      cases ec : c δ h with
      | ok t h1 =>
        rw [ec] at b e
        simp only [Bx, R.fl_ok] at b e
        cases t with
        | false => simp at b e; exact .inl ⟨δ, h1, e.symm, b⟩
        | true =>
          simp only [if_true] at b e
          cases ef : f δ h1 with
          | next δ1 h2 => rw [ef] at b e; obtain ⟨m', hm, q⟩ := b; exact ih m' hm e Q (by omega) q hs
          | cont δ1 h2 => rw [ef] at b e; obtain ⟨m', hm, q⟩ := b; exact ih m' hm e Q (by omega) q hs
          | brk δ1 h2 => rw [ef] at b e; exact .inl ⟨δ1, h2, e.symm, b⟩
          | ret v h2 => rw [ef] at b e; exact .inr ⟨v, h2, e.symm, b⟩
          | exc _ _ _ _ => rw [ef] at b; exact b.elim
          | bad => rw [ef] at b; exact b.elim
      | exc _ _ _ => rw [ec] at b; exact b.elim
      | bad => rw [ec] at b; exact b.elim
/-- a while: Q with its measure, E at the end -/
theorem while_ex {c : En → HS → R Bool} {f : En → HS → Fl} {δ : En} {h : HS} {o : Fl} (e : whileD c f FUEL δ h = o) (E : En → HS → Prop) (Q : Nat → En → HS → Prop) (m : Nat) (hm : m < 18446744073709551616) (h0 : Q m δ h)
    (hs : ∀ m δ h, Q m δ h → Bx (c δ h) fun t h1 => if t = true then Fx (f δ h1) (fun δ' h' => ∃ m', m' < m ∧ Q m' δ' h') E (fun _ _ => False) else E δ h1) : ∃ δ' h', o = .next δ' h' ∧ E δ' h' := by
  rcases while_all (fun _ _ => False) E (fun _ _ => False) m e Q (by unfold FUEL; omega) h0 hs with h | ⟨_, _, _, h⟩
  · exact h
  · exact h.elim
theorem comp_ex {live : HS → Bool} {f : D → HS → R (List D)} {xs : List D} {h : HS} {o : R (List D)} (e : compD live f xs h = o) (Q : Nat → List D → HS → Prop) (h0 : Q 0 [] h)
    (hs : ∀ i x ys h, xs[i]? = some x → Q i ys h → live h = true ∧ ∃ zs h', f x h = .ok zs h' ∧ Q (i + 1) (ys ++ zs) h') (hl : ∀ ys h, Q xs.length ys h → live h = true) :
    ∃ ys h', o = .ok ys h' ∧ Q xs.length ys h' := by
  obtain ⟨zs, h', e1, q⟩ := comp_run (live := live) (f := f) (xs := xs) (h := h) Q 0 [] h0 (fun i x ys h hi hq => by rw [Nat.zero_add] at hq ⊢; exact hs i x ys h hi hq) (fun ys h hq => hl ys h (by rw [Nat.zero_add] at hq; exact hq))
  rw [e, Nat.zero_add] at *
  exact ⟨_, h', e1, q⟩
end Mi

namespace Mi
open PySem
/-! ## sorted(set(..)) of ints that are not negative -/
def insN (x : Nat) : List Nat → List Nat
  | [] => [x]
  | y :: r => if x < y then x :: y :: r else if x = y then y :: r else y :: insN x r
def sddN (l : List Nat) : List Nat := l.foldr insN []
theorem insU_map {x : Nat} : ∀ {l : List Nat}, insU (x : Int) (l.map fun n : Nat => (n : Int)) = (insN x l).map fun n : Nat => (n : Int)
  | [] => rfl
  | y :: r => by
    rw [List.map_cons, insU, insN]
    by_cases c : x < y
    · rw [if_pos (by omega), if_pos c]; rfl
    · rw [if_neg (by omega), if_neg c]
      by_cases c2 : x = y
      · rw [if_pos (by omega), if_pos c2]; rfl
      · rw [if_neg (by omega), if_neg c2, insU_map]; rfl
theorem sdd_map {l : List Nat} : sdd (l.map fun n : Nat => (n : Int)) = (sddN l).map fun n : Nat => (n : Int) := by
  unfold sdd sddN
  induction l with
  | nil => rfl
  | cons x r ih => rw [List.map_cons, List.foldr_cons, ih, insU_map]; rfl
theorem mem_insN {x y : Nat} : ∀ {l : List Nat}, y ∈ insN x l ↔ y = x ∨ y ∈ l
  | [] => by simp [insN]
  | z :: r => by
    rw [insN]
    split
    · simp
    · split
      · rename_i h; subst h; simp
      · rw [List.mem_cons, mem_insN, List.mem_cons]
        constructor
        · rintro (h | h | h) <;> simp [h]
        · rintro (h | h | h) <;> simp [h]
theorem mem_sddN {y : Nat} {l : List Nat} : y ∈ sddN l ↔ y ∈ l := by
  unfold sddN
  induction l with
  | nil => simp
  | cons x r ih => rw [List.foldr_cons, mem_insN, ih, List.mem_cons]
theorem insN_asc {x : Nat} : ∀ {l : List Nat}, l.Pairwise (· < ·) → (insN x l).Pairwise (· < ·)
  | [], _ => by simp [insN]
  | y :: r, h => by
    have h1 := List.pairwise_cons.mp h
    rw [insN]
    split
    · rename_i c
      refine List.pairwise_cons.mpr ⟨fun z hz => ?_, h⟩
      rcases List.mem_cons.mp hz with rfl | hz
      · exact c
      · exact Nat.lt_trans c (h1.1 z hz)
    · split
      · exact h
      · refine List.pairwise_cons.mpr ⟨fun z hz => ?_, insN_asc h1.2⟩
        rcases mem_insN.mp hz with rfl | hz
        · omega
        · exact h1.1 z hz
theorem sddN_asc {l : List Nat} : (sddN l).Pairwise (· < ·) := by
  unfold sddN
  induction l with
  | nil => exact .nil
  | cons x r ih => exact insN_asc ih
theorem ascN_nd {l : List Nat} (h : l.Pairwise (· < ·)) : l.Nodup := h.imp fun {a b} h => Nat.ne_of_lt h
theorem ascN_ext : ∀ {l m : List Nat}, l.Pairwise (· < ·) → m.Pairwise (· < ·) → (∀ x, x ∈ l ↔ x ∈ m) → l = m
  | [], [], _, _, _ => rfl
  | [], y :: m, _, _, h => by have := (h y).mpr (by simp); simp at this
  | x :: l, [], _, _, h => by have := (h x).mp (by simp); simp at this
  | x :: l, y :: m, h1, h2, h => by
    have a := List.pairwise_cons.mp h1
    have b := List.pairwise_cons.mp h2
    have e : x = y := by
      rcases List.mem_cons.mp ((h x).mp (by simp)) with e | e
      · exact e
      · rcases List.mem_cons.mp ((h y).mpr (by simp)) with e' | e'
        · exact e'.symm
        · have := a.1 y e'; have := b.1 x e; omega
    subst e
    rw [ascN_ext a.2 b.2 fun z => ?_]
    constructor
    · intro hz
      rcases List.mem_cons.mp ((h z).mp (List.mem_cons_of_mem _ hz)) with rfl | hz'
      · have := a.1 _ hz; omega
      · exact hz'
    · intro hz
      rcases List.mem_cons.mp ((h z).mpr (List.mem_cons_of_mem _ hz)) with rfl | hz'
      · have := b.1 _ hz; omega
      · exact hz'
theorem sddN_len {l : List Nat} : (sddN l).length ≤ l.length := ph (ascN_nd sddN_asc) fun x hx => mem_sddN.mp hx
theorem sddN_self {l : List Nat} (h : l.Pairwise (· < ·)) : sddN l = l := ascN_ext sddN_asc h fun x => mem_sddN
theorem sddN_congr {l m : List Nat} (h : ∀ x, x ∈ l ↔ x ∈ m) : sddN l = sddN m := ascN_ext sddN_asc sddN_asc fun x => by rw [mem_sddN, mem_sddN, h]
theorem intsD_N : ∀ {l : List Nat}, intsD (l.map dN) = some (l.map fun n : Nat => (n : Int))
  | [] => rfl
  | x :: r => by rw [List.map_cons]; show (intsD (r.map dN)).map _ = _; rw [intsD_N]; rfl
section
variable {cl : Cl} {δ : En} {h : HS} {e : CE}
theorem e_sset : evalE cl (.sset e) δ h = ((evalE cl e δ h).bind ssetF).tr h.length := by simp only [evalE]
def ssI (ys : List D) (h : HS) : R D := match intsD ys with
    | some ns => if ns.length < 64 then mkL ((sdd ns).map .int) h else .bad
    | none => .bad
def ssC (c : Option Cell) (h : HS) : R D := match c with
    | some (.lst ys) => ssI ys h
    | _ => .bad
theorem ss_ref {m : Nat} : ssetF (.ref m) h = ssC h[m]? h := by
  unfold ssetF
  simp only [itemsD]
  cases h[m]? with
  | none => rfl
  | some c => cases c <;> rfl
theorem ss_tup {xs : List D} : ssetF (.tup xs) h = ssI xs h := (rfl)
theorem ssC_ {xs : List D} : ssC (some (.lst xs)) h = ssI xs h := (rfl)
theorem ssI_ {l : List Nat} (hl : l.length < 64) : ssI (l.map dN) h = .ok (.ref h.length) (h ++ [.lst ((sddN l).map dN)]) := by
  unfold ssI
  rw [intsD_N]
  simp only [List.length_map, if_pos hl, sdd_map, List.map_map]
  exact mkL_ok (by rw [List.length_map]; have := sddN_len (l := l); unfold LIM; omega)
end
end Mi

namespace Mi
open PySem
/-! ## plain data, truth values among it -/
def flS : D → Bool
  | .non | .bl _ | .int _ => true
  | .str x => PySem.PyData.strOk x
  | _ => false
/-- plain data: nested at most so deep, tuples not longer than so -/
def Bd (B : Nat) : Nat → D → Prop
  | 0, v => flS v = true
  | d + 1, v => flS v = true ∨ ∃ xs, v = .tup xs ∧ xs.length ≤ B ∧ ∀ x ∈ xs, Bd B d x
theorem Bd.flat {B : Nat} {v : D} (h : flS v = true) : ∀ {d : Nat}, Bd B d v
  | 0 => h
  | d + 1 => .inl h
theorem Bd.mono {B B' : Nat} (hB : B ≤ B') : ∀ {d d' : Nat} {v : D}, d ≤ d' → Bd B d v → Bd B' d' v
  | 0, d', v, _, h => Bd.flat h
  | d + 1, 0, v, hd, h => by omega
  | d + 1, d' + 1, v, hd, h => by
    rcases h with h | ⟨xs, rfl, hl, hx⟩
    · exact .inl h
    · exact .inr ⟨xs, rfl, by omega, fun x hm => Bd.mono hB (by omega) (hx x hm)⟩
theorem Bd.tup {B d : Nat} {xs : List D} (h : Bd B (d + 1) (.tup xs)) : xs.length ≤ B ∧ ∀ x ∈ xs, Bd B d x := by
  rcases h with h | ⟨ys, e, hl, hx⟩
  · cases h
  · cases e; exact ⟨hl, hx⟩
theorem Bd.tup_pos {B d : Nat} {xs : List D} (h : Bd B d (.tup xs)) : ∃ e, d = e + 1 := by
  cases d with
  | zero => cases h
  | succ d => exact ⟨d, rfl⟩
theorem Bd.of_tup {B d : Nat} {xs : List D} (hl : xs.length ≤ B) (h : ∀ x ∈ xs, Bd B d x) : Bd B (d + 1) (.tup xs) := .inr ⟨xs, rfl, hl, h⟩
theorem bd_P {B d : Nat} {p : List Nat} (h : p.length ≤ B) : Bd B (d + 1) (P p) := .inr ⟨_, rfl, by simpa using h, fun x hx => by
  obtain ⟨y, _, rfl⟩ := List.mem_map.mp hx
  exact Bd.flat rfl⟩
theorem los_of {n : Nat} : ∀ {xs : List D}, (∀ x ∈ xs, D.lo n x = true) → D.los n xs = true
  | [], _ => rfl
  | x :: r, h => by rw [los_cons, h x List.mem_cons_self, los_of fun y hy => h y (List.mem_cons_of_mem _ hy)]; rfl
theorem Bd.lo {B n : Nat} : ∀ {d : Nat} {v : D}, Bd B d v → v.lo n = true
  | 0, v, h => by cases v <;> first | rfl | cases h
  | d + 1, v, h => by
    rcases h with h | ⟨xs, rfl, _, hx⟩
    · cases v <;> first | rfl | cases h
    · rw [lo_tup]; exact los_of fun x hm => (hx x hm).lo
theorem Bd.nref {B d : Nat} {v : D} (h : Bd B d v) : isRef v = false := by
  cases v with
  | ref m =>
    have : D.lo 0 (.ref m) = true := h.lo
    rw [lo_ref] at this; simp at this
  | _ => rfl
theorem Bd.cases {B d : Nat} {v : D} (h : Bd B d v) : flS v = true ∨ ∃ xs e, v = .tup xs ∧ d = e + 1 ∧ xs.length ≤ B ∧ ∀ x ∈ xs, Bd B e x := by
  cases d with
  | zero => exact .inl h
  | succ d =>
    rcases h with h | ⟨xs, rfl, hl, hx⟩
    · exact .inl h
    · exact .inr ⟨xs, d, rfl, rfl, hl, hx⟩
/-! equality: True is 1 -/
mutual
def nrm : D → D
  | .bl b => .int (if b then 1 else 0)
  | .tup xs => .tup (nrms xs)
  | d => d
def nrms : List D → List D
  | [] => []
  | x :: r => nrm x :: nrms r
end
theorem nrms_map : ∀ {xs : List D}, nrms xs = xs.map nrm
  | [] => rfl
  | x :: r => by rw [nrms, nrms_map]; rfl
theorem nrm_tup {xs : List D} : nrm (.tup xs) = .tup (xs.map nrm) := by rw [nrm, nrms_map]
theorem nrm_int {i : Int} : nrm (.int i) = .int i := by rw [nrm] <;> (intro _ h; cases h)
theorem nrm_P {p : List Nat} : nrm (P p) = P p := by
  unfold P
  rw [nrm_tup, List.map_map]
  exact congrArg D.tup (List.map_congr_left fun x _ => nrm_int)
def PyB (a : D) (x : PyData) (d : Nat) : Prop := a.py0 = some x ∧ x.canLay0 = true ∧ x.depth ≤ d
theorem pys_bd {d : Nat} : ∀ {xs : List D}, (∀ x ∈ xs, ∃ y, PyB x y d) → ∃ ys, D.py0s xs = some ys ∧ PyData.canLayAll0 ys = true ∧ PyData.depthAll ys ≤ d
  | [], _ => ⟨[], rfl, rfl, Nat.zero_le _⟩
  | x :: r, h => by
    obtain ⟨y, e1, e2, e3⟩ := h x List.mem_cons_self
    obtain ⟨ys, f1, f2, f3⟩ := pys_bd fun z hz => h z (List.mem_cons_of_mem _ hz)
    refine ⟨y :: ys, by rw [D.py0s, e1, f1], by rw [PyData.canLayAll0, e2, f2]; rfl, ?_⟩
    rw [PyData.depthAll]; omega
theorem py_flat {v : D} (h : flS v = true) (d : Nat) : ∃ y, PyB v y d := by
  cases v <;> first | exact ⟨_, rfl, rfl, Nat.zero_le _⟩ | (exact ⟨_, rfl, by rw [PyData.canLay0]; exact h, Nat.zero_le _⟩) | cases h
theorem py_bd {B : Nat} : ∀ {d : Nat} {v : D}, Bd B d v → ∃ y, PyB v y d
  | 0, v, h => py_flat h 0
  | d + 1, v, h => by
    rcases h with h | ⟨xs, rfl, _, hx⟩
    · exact py_flat h _
    · obtain ⟨ys, f1, f2, f3⟩ := pys_bd (d := d) fun x hm => py_bd (hx x hm)
      refine ⟨.tuple ys, by rw [D.py0, f1]; rfl, by rw [PyData.canLay0]; exact f2, ?_⟩
      rw [PyData.depth]; omega
theorem eqv_ff {a b : D} {x y : PyData} (ha : flS a = true) (hb : flS b = true) (ea : a.py0 = some x) (eb : b.py0 = some y) : PyData.eqv x y = decide (nrm a = nrm b) := by
  cases a <;> first | (cases ha; done) | skip
  all_goals
    cases b <;> first | (cases hb; done) | skip
  all_goals
    cases ea; cases eb
    rw [Bool.eq_iff_iff]
    first
      | (simp [PyData.eqv, nrm]; done)
      | (rename_i p q; cases p <;> cases q <;> simp [PyData.eqv, nrm]; done)
      | (rename_i p q; cases p <;> simp [PyData.eqv, nrm]; done)
      | (rename_i p q; cases q <;> simp [PyData.eqv, nrm]; done)
      | skip
theorem eqvs_bd {P : D → Prop} (one : ∀ a b x y, P a → P b → a.py0 = some x → b.py0 = some y → PyData.eqv x y = decide (nrm a = nrm b)) (hp : ∀ a, P a → ∃ x, a.py0 = some x) :
    ∀ (xs ys : List D) (us vs : List PyData), (∀ x ∈ xs, P x) → (∀ y ∈ ys, P y) → D.py0s xs = some us → D.py0s ys = some vs → PyData.eqvAll us vs = decide (xs.map nrm = ys.map nrm) := by
  have ex : ∀ xs : List D, (∀ x ∈ xs, P x) → ∃ us, D.py0s xs = some us := fun xs => by
    induction xs with
    | nil => exact fun _ => ⟨[], rfl⟩
    | cons x r ih =>
      intro h
      obtain ⟨y, e1⟩ := hp x (h x List.mem_cons_self)
      obtain ⟨ys, e2⟩ := ih fun z hz => h z (List.mem_cons_of_mem _ hz)
      exact ⟨y :: ys, by rw [D.py0s, e1, e2]⟩
  intro xs
  induction xs with
  | nil =>
    intro ys us vs _ hy e1 e2
    cases e1
    cases ys with
    | nil => cases e2; rw [PyData.eqvAll]; simp
    | cons y s =>
      obtain ⟨y1, f1⟩ := hp y (hy y List.mem_cons_self)
      obtain ⟨s1, f2⟩ := ex s fun z hz => hy z (List.mem_cons_of_mem _ hz)
      rw [D.py0s, f1, f2] at e2; cases e2
      rw [PyData.eqvAll]; simp
      all_goals simp
  | cons x r ih =>
    intro ys us vs hx hy e1 e2
    obtain ⟨x1, g1⟩ := hp x (hx x List.mem_cons_self)
    obtain ⟨r1, g2⟩ := ex r fun z hz => hx z (List.mem_cons_of_mem _ hz)
    rw [D.py0s, g1, g2] at e1; cases e1
    cases ys with
    | nil => cases e2; rw [PyData.eqvAll]; simp; all_goals simp
    | cons y s =>
      obtain ⟨y1, f1⟩ := hp y (hy y List.mem_cons_self)
      obtain ⟨s1, f2⟩ := ex s fun z hz => hy z (List.mem_cons_of_mem _ hz)
      rw [D.py0s, f1, f2] at e2; cases e2
      rw [PyData.eqvAll, one x y _ _ (hx x List.mem_cons_self) (hy y List.mem_cons_self) g1 f1, ih s _ _ (fun z hz => hx z (List.mem_cons_of_mem _ hz)) (fun z hz => hy z (List.mem_cons_of_mem _ hz)) g2 f2]
      rw [Bool.eq_iff_iff]; simp
theorem eqv_bd {B : Nat} : ∀ (d : Nat) (a b : D) (x y : PyData), Bd B d a → Bd B d b → a.py0 = some x → b.py0 = some y → PyData.eqv x y = decide (nrm a = nrm b)
  | 0, a, b, x, y, ha, hb, ea, eb => eqv_ff ha hb ea eb
  | d + 1, a, b, x, y, ha, hb, ea, eb => by
    rcases ha with ha | ⟨xs, rfl, _, hxs⟩ <;> rcases hb with hb | ⟨ys, rfl, _, hys⟩
    · exact eqv_ff ha hb ea eb
    · obtain ⟨vs, f1, _⟩ := pys_bd (d := d) fun x hm => py_bd (hys x hm)
      rw [D.py0, f1] at eb; cases eb
      rw [nrm_tup]
      cases a <;> first | (cases ha; done) | (cases ea; simp [PyData.eqv, nrm]; done)
    · obtain ⟨vs, f1, _⟩ := pys_bd (d := d) fun x hm => py_bd (hxs x hm)
      rw [D.py0, f1] at ea; cases ea
      rw [nrm_tup]
      cases b <;> first | (cases hb; done) | (cases eb; simp [PyData.eqv, nrm]; done)
    · obtain ⟨us, f1, _⟩ := pys_bd (d := d) fun x hm => py_bd (hxs x hm)
      obtain ⟨vs, f2, _⟩ := pys_bd (d := d) fun x hm => py_bd (hys x hm)
      rw [D.py0, f1] at ea; cases ea
      rw [D.py0, f2] at eb; cases eb
      rw [PyData.eqv, eqvs_bd (P := Bd B d) (eqv_bd d) (fun a ha => by obtain ⟨y, e, _⟩ := py_bd ha; exact ⟨y, e⟩) xs ys us vs hxs hys f1 f2, nrm_tup, nrm_tup]
      simp
theorem bd_pyh {B d : Nat} {a : D} {h : HS} (ha : Bd B d a) : a.py h = a.py0 := by
  have := ha.nref
  cases a <;> first | rfl | cases this
theorem eqD_bd {B B' d d' : Nat} {a b : D} {h : HS} (ha : Bd B d a) (hb : Bd B' d' b) (h1 : d ≤ 60) (h2 : d' ≤ 60) : eqD h a b = some (decide (nrm a = nrm b)) := by
  have ha := ha.mono (Nat.le_max_left B B') h1
  have hb := hb.mono (Nat.le_max_right B B') h2
  obtain ⟨x, ex, cx, dx⟩ := py_bd ha
  obtain ⟨y, ey, cy, dy⟩ := py_bd hb
  unfold eqD
  rw [bd_pyh ha, bd_pyh hb, ex, ey]
  simp only [shaped_of cx (by omega), shaped_of cy (by omega), Bool.and_self, if_true]
  rw [eqv_bd 60 a b x y ha hb ex ey]
/-- compared with a text, None, a row of numbers -/
theorem nrm_str {z : Str} : nrm (.str z) = .str z := by rw [nrm] <;> (intro _ h; cases h)
theorem nrm_non : nrm .non = .non := by rw [nrm] <;> (intro _ h; cases h)
theorem nrm_eq_str {v : D} {z : Str} : (nrm v = .str z) = (v = .str z) := by
  refine propext ⟨fun e => ?_, fun e => by rw [e, nrm_str]⟩
  cases v <;> first | (rw [nrm_str] at e; exact e) | (simp [nrm] at e; done)
end Mi

namespace Mi
open PySem
/-! isinstance of plain data -/
def isBl : D → Bool
  | .bl _ => true
  | _ => false
def isNt : D → Bool
  | .bl _ => true
  | .int _ => true
  | _ => false
def isSt : D → Bool
  | .str _ => true
  | _ => false
def isTp : D → Bool
  | .tup _ => true
  | _ => false
section
variable {cl : Cl} {δ : En} {h : HS} {e : CE} {v : D} {B d : Nat}
theorem isi_tt {xs : List D} : isiF .tuple (.tup xs) h = some true := (rfl)
theorem isi_tf (hv : flS v = true) : isiF .tuple v h = some false := by cases v <;> first | rfl | cases hv
theorem isi_bt {xs : List D} : isiF .bool (.tup xs) h = some false := (rfl)
theorem isi_it {xs : List D} : isiF .int (.tup xs) h = some false := (rfl)
theorem isi_st {xs : List D} : isiF .str (.tup xs) h = some false := (rfl)
theorem isi_ss {x : Str} : isiF .str (.str x) h = some true := (rfl)
theorem isi_tB (hv : Bd B d v) : isiF .tuple v h = some (isTp v) := by
  rcases hv.cases with hf | ⟨xs, _, rfl, _⟩
  · cases v <;> first | rfl | cases hf
  · rfl
theorem isi_bB (hv : Bd B d v) : isiF .bool v h = some (isBl v) := by
  rcases hv.cases with hf | ⟨xs, _, rfl, _⟩
  · cases v <;> first | rfl | cases hf
  · rfl
theorem isi_iB (hv : Bd B d v) : isiF .int v h = some (isNt v) := by
  rcases hv.cases with hf | ⟨xs, _, rfl, _⟩
  · cases v <;> first | rfl | cases hf
  · rfl
theorem isi_sB (hv : Bd B d v) : isiF .str v h = some (isSt v) := by
  rcases hv.cases with hf | ⟨xs, _, rfl, _⟩
  · cases v <;> first | rfl | cases hf
  · rfl
/-! a text in a row of texts -/
theorem any_eqS' {w : Str} : ∀ {ks : List Str}, ((ks.map D.str).any fun z => eqF z (.str w)) = ks.contains w
  | [] => rfl
  | k :: r => by
    rw [List.map_cons, List.any_cons, any_eqS', List.contains_cons]
    congr 1
    show (k == w) = (w == k)
    rw [Bool.eq_iff_iff, beq_iff_eq, beq_iff_eq]; exact eq_comm
theorem all_strs : ∀ {ks : List Str}, (ks.map D.str).all flatD = true
  | [] => rfl
  | k :: r => by rw [List.map_cons, List.all_cons, all_strs]; rfl
theorem in_kt {w : Str} {ks : List Str} : cmpF .In (.str w) (.kt (ks.map D.str)) h = some (ks.contains w) := by
  simp only [cmpF, cmpF.inF, all_strs, any_eqS', flatD, Bool.and_self, if_true]
theorem nin_kt {w : Str} {ks : List Str} : cmpF .NotIn (.str w) (.kt (ks.map D.str)) h = some (!ks.contains w) := by
  simp only [cmpF, cmpF.inF, all_strs, any_eqS', flatD, Bool.and_self, if_true, Option.map_some]
theorem in_tup {w : Str} {ks : List Str} : cmpF .In (.str w) (.tup (ks.map D.str)) h = some (ks.contains w) := by
  simp only [cmpF, cmpF.inF, all_strs, any_eqS', flatD, Bool.and_self, if_true]
def inC (x : D) (c : Option Cell) : Option Bool := match c with
      | some (.lst xs) => if flatD x && xs.all flatD then some (xs.any fun z => eqF z x) else none
      | some (.dct kvs) => if keyOk kvs x then some (getK kvs x).isSome else none
      | _ => none
theorem in_ref {x : D} {m : Nat} : cmpF .In x (.ref m) h = inC x h[m]? := (rfl)
theorem nin_ref {x : D} {m : Nat} : cmpF .NotIn x (.ref m) h = (inC x h[m]?).map (!·) := (rfl)
theorem inC_s {w : Str} {ks : List Str} : inC (.str w) (some (.lst (ks.map D.str))) = some (ks.contains w) := by
  simp only [inC, all_strs, any_eqS', flatD, Bool.and_self, if_true]
/-! compared with plain data -/
theorem cmp_eqB {a b : D} {B' d' : Nat} (ha : Bd B d a) (hb : Bd B' d' b) (h1 : d ≤ 60) (h2 : d' ≤ 60) : cmpF .Eq a b h = some (decide (nrm a = nrm b)) := eqD_bd ha hb h1 h2
theorem cmp_neB {a b : D} {B' d' : Nat} (ha : Bd B d a) (hb : Bd B' d' b) (h1 : d ≤ 60) (h2 : d' ≤ 60) : cmpF .NotEq a b h = some (!decide (nrm a = nrm b)) := by
  show (eqD h a b).map (!·) = _
  rw [eqD_bd ha hb h1 h2]; rfl
theorem cmp_eqS {a : D} {z : Str} (hz : PySem.PyData.strOk z = true) (ha : Bd B d a) (h1 : d ≤ 60) : cmpF .Eq a (.str z) h = some (decide (a = .str z)) := by
  rw [cmp_eqB (B' := 0) (d' := 0) ha (Bd.flat (show flS (.str z) = true from hz)) h1 (by omega), nrm_str, decide_eq_decide.mpr (by rw [nrm_eq_str])]
theorem cmp_eqSS {a b : Str} (ha : PySem.PyData.strOk a = true) (hb : PySem.PyData.strOk b = true) : cmpF .Eq (.str a) (.str b) h = some (decide (a = b)) := by
  rw [cmp_eqS (B := 0) (d := 0) hb (Bd.flat (show flS (.str a) = true from ha)) (by omega)]
  congr 1; rw [Bool.eq_iff_iff]; simp
/-! rows walked -/
theorem comp_mapD {live : HS → Bool} {f : D → HS → R (List D)} {g : D → D} {xs : List D} (hl : live h = true) (hf : ∀ x ∈ xs, f x h = .ok [g x] h) : compD live f xs h = .ok (xs.map g) h := by
  have := comp_map (live := live) (f := f) (g := g) (u := fun x => x) (h := h) hl (l := xs) hf
  simpa using this
theorem enum_zip : ∀ {xs : List D} {n : Nat}, enumL n xs = (xs.zipIdx n).map fun p => .kt [dN p.2, p.1]
  | [], _ => rfl
  | x :: r, n => by rw [enumL, List.zipIdx_cons, List.map_cons, enum_zip]
/-! small dicts -/
theorem disp2 {a b : Str} {x y : D} (ne : a ≠ b) : dispF [.str a, x, .str b, y] h = .ok (.ref h.length) (h ++ [.dct [(.str a, x), (.str b, y)]]) := by
  have e : (decide (D.str a = D.str b)) = false := decide_eq_false (by simpa using ne)
  simp [dispF, dispK, pairsD, keyD, putK, e, ne]
theorem disp4 {a b c d' : Str} {x y z w : D} (n1 : a ≠ b) (n2 : a ≠ c) (n3 : a ≠ d') (n4 : b ≠ c) (n5 : b ≠ d') (n6 : c ≠ d') : dispF [.str a, x, .str b, y, .str c, z, .str d', w] h = .ok (.ref h.length) (h ++ [.dct [(.str a, x), (.str b, y), (.str c, z), (.str d', w)]]) := by
  simp [dispF, dispK, pairsD, keyD, putK, n1, n2, n3, n4, n5, n6]
theorem kOk2 {a b w : Str} {x y : D} : keyOk [(.str a, x), (.str b, y)] (.str w) = true := (rfl)
theorem kOk4 {a b c d' w : Str} {x y z u : D} : keyOk [(.str a, x), (.str b, y), (.str c, z), (.str d', u)] (.str w) = true := (rfl)
theorem e_kix {kvs : List (Str × D)} : evalE cl (.kix kvs e) δ h = ((evalE cl e δ h).bind (kixF kvs)).tr h.length := by simp only [evalE]
theorem kix_ {kvs : List (Str × D)} {w : Str} : kixF kvs (.str w) h = ofO (lkD kvs w) h := (rfl)
end
end Mi

namespace Mi
open PySem
theorem mul_tup1 {x : D} {k : Nat} {h : HS} (h2 : 2 ≤ k) (hk : k ≤ 100000) : binF .Mult (.tup [x]) (dN k) h = .ok (.tup (List.replicate k x)) h := by
  have e : (List.replicate k [x]).flatten = List.replicate k x := by
    clear h2 hk
    induction k with
    | zero => rfl
    | succ k ih => rw [List.replicate_succ, List.flatten_cons, ih, List.replicate_succ]; rfl
  show (if (decide ((2 : Int) ≤ (k : Int)) && decide ((k : Int) ≤ 100000) && decide ([x].length ≤ 100) && ![x].isEmpty) = true then (R.ok (D.tup (List.replicate ((k : Int)).toNat [x]).flatten) h : R D) else .bad) = _
  rw [if_pos (by simp; omega), Int.toNat_natCast, e]
theorem is_bl {a b : Bool} {h : HS} : cmpF .Is (.bl a) (.bl b) h = some (decide (a = b)) := (rfl)
theorem isnot_bl {a b : Bool} {h : HS} : cmpF .IsNot (.bl a) (.bl b) h = some (!decide (a = b)) := (rfl)
theorem eq_bl {a b : Bool} {h : HS} : cmpF .Eq (.bl a) (.bl b) h = some (decide (a = b)) := by cases a <;> cases b <;> rfl
end Mi

namespace Mi
open PySem
variable {n : Nat} {p q s c : List Nat}
theorem tm_assoc (hp : Pm n p) (hq : q.length = n) : tm (tm p q) s = tm p (tm q s) := by
  refine row_ext (n := n) (by rw [tm_len, tm_len, hp.len]) (by rw [tm_len, hp.len]) fun x hx => ?_
  rw [at_tm (by rw [tm_len, hp.len]; exact hx), at_tm (by rw [hp.len]; exact hx), at_tm (by rw [hp.len]; exact hx), at_tm (by rw [hq]; exact hp.at_lt hx)]
theorem tm_idr (hp : Pm n p) : tm p (List.range n) = p := by
  refine row_ext (n := n) (by rw [tm_len, hp.len]) hp.len fun x hx => ?_
  rw [at_tm (by rw [hp.len]; exact hx), at_range (hp.at_lt hx)]
theorem tm_idl (hp : p.length = n) : tm (List.range n) p = p := by
  refine row_ext (n := n) (by rw [tm_len, List.length_range]) hp fun x hx => ?_
  rw [at_tm (by rw [List.length_range]; exact hx), at_range hx]
theorem tm_inv (hp : Pm n p) : tm p (inv p) = List.range n := by
  refine row_ext (n := n) (by rw [tm_len, hp.len]) List.length_range fun x hx => ?_
  rw [at_tm (by rw [hp.len]; exact hx), hp.at_inv hx, at_range hx]
theorem inv_tm (hp : Pm n p) : tm (inv p) p = List.range n := by
  refine row_ext (n := n) (by rw [tm_len, hp.inv.len]) List.length_range fun x hx => ?_
  rw [at_tm (by rw [hp.inv.len]; exact hx), (hp.inv_lt hx).2, at_range hx]
theorem tm_cancel_r (hp : Pm n p) (hq : Pm n q) (hc : Pm n c) (e : tm p c = tm q c) : p = q := by
  have := congrArg (fun z => tm z (inv c)) e
  simpa only [tm_assoc hp hc.len, tm_assoc hq hc.len, tm_inv hc, tm_idr hp, tm_idr hq] using this
theorem tm_cancel_l (hp : Pm n p) (hq : Pm n q) (hc : Pm n c) (e : tm c p = tm c q) : p = q := by
  have := congrArg (fun z => tm (inv c) z) e
  simpa only [← tm_assoc hc.inv hc.len, inv_tm hc, tm_idl hp.len, tm_idl hq.len] using this
theorem inv_unique (hp : Pm n p) (hq : Pm n q) (e : tm p q = List.range n) : q = inv p :=
  tm_cancel_l hq hp.inv hp (e.trans (tm_inv hp).symm)
theorem inv_inv (hp : Pm n p) : inv (inv p) = p := (inv_unique hp.inv hp (inv_tm hp)).symm
theorem inv_mul (hp : Pm n p) (hq : Pm n q) : inv (tm p q) = tm (inv q) (inv p) := by
  refine (inv_unique (hp.tm hq) (hq.inv.tm hp.inv) ?_).symm
  rw [← tm_assoc (hp.tm hq) hq.inv.len, tm_assoc hp hq.len, tm_inv hq, tm_idr hp, tm_inv hp]
theorem inv_range : inv (List.range n) = List.range n := (inv_unique Pm.range Pm.range (tm_idr Pm.range)).symm
theorem cj_at (hp : Pm n p) (hc : Pm n c) {x : Nat} (hx : x < n) : at_ (cj p c) (at_ c x) = at_ c (at_ p x) := by
  unfold cj
  refine rowW_at (b := fun x => at_ c (at_ p x)) (fun y hy => ?_) (fun y z hy hz e => ?_) (by rw [hp.len]; exact hx)
  · rw [List.length_replicate, hp.len]; rw [hp.len] at hy; exact hc.at_lt hy
  · rw [hp.len] at hy hz; exact hc.inj hy hz e
theorem cj_eq (hp : Pm n p) (hc : Pm n c) : cj p c = tm (tm (inv c) p) c := by
  refine row_ext (n := n) (by rw [cj_len, hp.len]) (by rw [tm_len, tm_len, hc.inv.len]) fun y hy => ?_
  have e := hc.inv_lt hy
  rw [at_tm (by rw [tm_len, hc.inv.len]; exact hy), at_tm (by rw [hc.inv.len]; exact hy), ← cj_at hp hc e.1, e.2]
theorem Pm.cj (hp : Pm n p) (hc : Pm n c) : Pm n (cj p c) := by rw [cj_eq hp hc]; exact (hc.inv.tm hp).tm hc
end Mi

namespace Mi
open PySem
def c__law_take : CSs := (.cons (.ifs (.and_ (.cmp .Eq (.ix (.var 0) (.lit (.int 2))) (.lit (.int 0))) (.cmp .Lt (.ix (.var 0) (.lit (.int 1))) (.bi .len (.cons (.ix (.var 0) (.lit (.int 0))) .nil)))) (.cons (.asg (.sub (.var 0) (.lit (.int 2))) (.bi .abs (.cons (.bi .int (.cons (.ix (.ix (.var 0) (.lit (.int 0))) (.ix (.var 0) (.lit (.int 1)))) .nil)) .nil))) (.cons (.asg (.sub (.var 0) (.lit (.int 1))) (.bin .Add (.ix (.var 0) (.lit (.int 1))) (.lit (.int 1)))) (.cons (.ifs (.cmp .Lt (.ix (.var 0) (.lit (.int 2))) (.bin .Pow (.lit (.int 10)) (.lit (.int 18)))) (.cons (.asg (.nm 3) (.bi .int (.cons (.ix (.var 0) (.lit (.int 2))) .nil))) (.cons (.asg (.sub (.var 0) (.lit (.int 2))) (.lit (.int 0))) (.cons (.ret (.bin .Mod (.var 3) (.var 1))) .nil))) .nil) .nil))) .nil) (.cons (.ifs (.cmp .Gt (.ix (.var 0) (.lit (.int 2))) (.lit (.int 0))) (.cons (.asg (.nm 2) (.bin .Mod (.bi .int (.cons (.ix (.var 0) (.lit (.int 2))) .nil)) (.var 1))) (.cons (.asg (.sub (.var 0) (.lit (.int 2))) (.bin .FloorDiv (.bi .int (.cons (.ix (.var 0) (.lit (.int 2))) .nil)) (.var 1))) (.cons (.ret (.var 2)) .nil))) .nil) (.cons (.asg (.sub (.var 0) (.lit (.int 3))) (.bin .Mod (.bi .int (.cons (.bin .Add (.bin .Mult (.ix (.var 0) (.lit (.int 3))) (.lit (.int 69621))) (.lit (.int 7))) .nil)) (.lit (.int 2147483647)))) (.cons (.ret (.bin .Mod (.bi .int (.cons (.bin .FloorDiv (.ix (.var 0) (.lit (.int 3))) (.lit (.int 5))) .nil)) (.var 1))) .nil))))
class H__law_take (T : Tb) : Prop where
  e : T "_law_take" = some ⟨2, 4, c__law_take⟩
theorem o__law_take {T : Tb} [H__law_take T] {k : Nat} {x0 x1 : D} {h : HS} : callD T (k + 1) "_law_take" [x0, x1] h = fin h.length (execB (callD T k) (.cons (.ifs (.and_ (.cmp .Eq (.ix (.var 0) (.lit (.int 2))) (.lit (.int 0))) (.cmp .Lt (.ix (.var 0) (.lit (.int 1))) (.bi .len (.cons (.ix (.var 0) (.lit (.int 0))) .nil)))) (.cons (.asg (.sub (.var 0) (.lit (.int 2))) (.bi .abs (.cons (.bi .int (.cons (.ix (.ix (.var 0) (.lit (.int 0))) (.ix (.var 0) (.lit (.int 1)))) .nil)) .nil))) (.cons (.asg (.sub (.var 0) (.lit (.int 1))) (.bin .Add (.ix (.var 0) (.lit (.int 1))) (.lit (.int 1)))) (.cons (.ifs (.cmp .Lt (.ix (.var 0) (.lit (.int 2))) (.bin .Pow (.lit (.int 10)) (.lit (.int 18)))) (.cons (.asg (.nm 3) (.bi .int (.cons (.ix (.var 0) (.lit (.int 2))) .nil))) (.cons (.asg (.sub (.var 0) (.lit (.int 2))) (.lit (.int 0))) (.cons (.ret (.bin .Mod (.var 3) (.var 1))) .nil))) .nil) .nil))) .nil) (.cons (.ifs (.cmp .Gt (.ix (.var 0) (.lit (.int 2))) (.lit (.int 0))) (.cons (.asg (.nm 2) (.bin .Mod (.bi .int (.cons (.ix (.var 0) (.lit (.int 2))) .nil)) (.var 1))) (.cons (.asg (.sub (.var 0) (.lit (.int 2))) (.bin .FloorDiv (.bi .int (.cons (.ix (.var 0) (.lit (.int 2))) .nil)) (.var 1))) (.cons (.ret (.var 2)) .nil))) .nil) (.cons (.asg (.sub (.var 0) (.lit (.int 3))) (.bin .Mod (.bi .int (.cons (.bin .Add (.bin .Mult (.ix (.var 0) (.lit (.int 3))) (.lit (.int 69621))) (.lit (.int 7))) .nil)) (.lit (.int 2147483647)))) (.cons (.ret (.bin .Mod (.bi .int (.cons (.bin .FloorDiv (.ix (.var 0) (.lit (.int 3))) (.lit (.int 5))) .nil)) (.var 1))) .nil)))) [some x0, some x1, none, none] h) := callD_run (d := ⟨2, 4, c__law_take⟩) H__law_take.e rfl
def c__law_begin : CSs := (.cons (.asg (.nm 1) (.lit (.int 5))) (.cons (.for_ (.nm 2) (.seq (.var 0)) (.cons (.asg (.nm 1) (.bin .Mod (.bin .Add (.bin .Add (.bin .Mult (.var 1) (.lit (.int 48271))) (.bin .Mod (.bi .int (.cons (.var 2) .nil)) (.lit (.int 2147483629)))) (.lit (.int 11))) (.lit (.int 2147483647)))) .nil)) (.cons (.ret (.lst (.cons (.bi .list (.cons (.var 0) .nil)) (.cons (.lit (.int 0)) (.cons (.lit (.int 0)) (.cons (.var 1) .nil)))))) .nil)))
class H__law_begin (T : Tb) : Prop where
  e : T "_law_begin" = some ⟨1, 3, c__law_begin⟩
theorem o__law_begin {T : Tb} [H__law_begin T] {k : Nat} {x0 : D} {h : HS} : callD T (k + 1) "_law_begin" [x0] h = fin h.length (execB (callD T k) (.cons (.asg (.nm 1) (.lit (.int 5))) (.cons (.for_ (.nm 2) (.seq (.var 0)) (.cons (.asg (.nm 1) (.bin .Mod (.bin .Add (.bin .Add (.bin .Mult (.var 1) (.lit (.int 48271))) (.bin .Mod (.bi .int (.cons (.var 2) .nil)) (.lit (.int 2147483629)))) (.lit (.int 11))) (.lit (.int 2147483647)))) .nil)) (.cons (.ret (.lst (.cons (.bi .list (.cons (.var 0) .nil)) (.cons (.lit (.int 0)) (.cons (.lit (.int 0)) (.cons (.var 1) .nil)))))) .nil))) [some x0, none, none] h) := callD_run (d := ⟨1, 3, c__law_begin⟩) H__law_begin.e rfl
def c__law_pick : CSs := (.cons (.ret (.ix (.var 1) (.call "_law_take" (.cons (.var 0) (.cons (.bi .len (.cons (.var 1) .nil)) .nil))))) .nil)
class H__law_pick (T : Tb) : Prop where
  e : T "_law_pick" = some ⟨2, 2, c__law_pick⟩
theorem o__law_pick {T : Tb} [H__law_pick T] {k : Nat} {x0 x1 : D} {h : HS} : callD T (k + 1) "_law_pick" [x0, x1] h = fin h.length (execB (callD T k) (.cons (.ret (.ix (.var 1) (.call "_law_take" (.cons (.var 0) (.cons (.bi .len (.cons (.var 1) .nil)) .nil))))) .nil) [some x0, some x1] h) := callD_run (d := ⟨2, 2, c__law_pick⟩) H__law_pick.e rfl
def c__law_shuffled : CSs := (.cons (.asg (.nm 2) (.lrg (.cons (.var 1) .nil))) (.cons (.ret (.bi .tuple (.cons (.lc [3] (.nm 3) (.rng (.cons (.var 1) .nil)) .tru (.meth .pop (.var 2) (.cons (.call "_law_take" (.cons (.var 0) (.cons (.bi .len (.cons (.var 2) .nil)) .nil))) .nil))) .nil))) .nil))
class H__law_shuffled (T : Tb) : Prop where
  e : T "_law_shuffled" = some ⟨2, 4, c__law_shuffled⟩
theorem o__law_shuffled {T : Tb} [H__law_shuffled T] {k : Nat} {x0 x1 : D} {h : HS} : callD T (k + 1) "_law_shuffled" [x0, x1] h = fin h.length (execB (callD T k) (.cons (.asg (.nm 2) (.lrg (.cons (.var 1) .nil))) (.cons (.ret (.bi .tuple (.cons (.lc [3] (.nm 3) (.rng (.cons (.var 1) .nil)) .tru (.meth .pop (.var 2) (.cons (.call "_law_take" (.cons (.var 0) (.cons (.bi .len (.cons (.var 2) .nil)) .nil))) .nil))) .nil))) .nil)) [some x0, some x1, none, none] h) := callD_run (d := ⟨2, 4, c__law_shuffled⟩) H__law_shuffled.e rfl
def c__law_times : CSs := (.cons (.ret (.bi .tuple (.cons (.lc [2] (.nm 2) (.seq (.var 0)) .tru (.ix (.var 1) (.var 2))) .nil))) .nil)
class H__law_times (T : Tb) : Prop where
  e : T "_law_times" = some ⟨2, 3, c__law_times⟩
theorem o__law_times {T : Tb} [H__law_times T] {k : Nat} {x0 x1 : D} {h : HS} : callD T (k + 1) "_law_times" [x0, x1] h = fin h.length (execB (callD T k) (.cons (.ret (.bi .tuple (.cons (.lc [2] (.nm 2) (.seq (.var 0)) .tru (.ix (.var 1) (.var 2))) .nil))) .nil) [some x0, some x1, none] h) := callD_run (d := ⟨2, 3, c__law_times⟩) H__law_times.e rfl
def c__law_cycle : CSs := (.cons (.asg (.nm 2) (.lrg (.cons (.var 0) .nil))) (.cons (.for_ (.nm 3) (.rng (.cons (.bi .len (.cons (.var 1) .nil)) .nil)) (.cons (.asg (.sub (.var 2) (.ix (.var 1) (.var 3))) (.ix (.var 1) (.bin .Mod (.bin .Add (.var 3) (.lit (.int 1))) (.bi .len (.cons (.var 1) .nil))))) .nil)) (.cons (.ret (.bi .tuple (.cons (.var 2) .nil))) .nil)))
class H__law_cycle (T : Tb) : Prop where
  e : T "_law_cycle" = some ⟨2, 4, c__law_cycle⟩
theorem o__law_cycle {T : Tb} [H__law_cycle T] {k : Nat} {x0 x1 : D} {h : HS} : callD T (k + 1) "_law_cycle" [x0, x1] h = fin h.length (execB (callD T k) (.cons (.asg (.nm 2) (.lrg (.cons (.var 0) .nil))) (.cons (.for_ (.nm 3) (.rng (.cons (.bi .len (.cons (.var 1) .nil)) .nil)) (.cons (.asg (.sub (.var 2) (.ix (.var 1) (.var 3))) (.ix (.var 1) (.bin .Mod (.bin .Add (.var 3) (.lit (.int 1))) (.bi .len (.cons (.var 1) .nil))))) .nil)) (.cons (.ret (.bi .tuple (.cons (.var 2) .nil))) .nil))) [some x0, some x1, none, none] h) := callD_run (d := ⟨2, 4, c__law_cycle⟩) H__law_cycle.e rfl
def c__law_inverse : CSs := (.cons (.asg (.nm 1) (.bin .Mult (.lst (.cons (.lit (.int 0)) .nil)) (.bi .len (.cons (.var 0) .nil)))) (.cons (.for_ (.nm 2) (.rng (.cons (.bi .len (.cons (.var 0) .nil)) .nil)) (.cons (.asg (.sub (.var 1) (.ix (.var 0) (.var 2))) (.var 2)) .nil)) (.cons (.ret (.bi .tuple (.cons (.var 1) .nil))) .nil)))
class H__law_inverse (T : Tb) : Prop where
  e : T "_law_inverse" = some ⟨1, 3, c__law_inverse⟩
theorem o__law_inverse {T : Tb} [H__law_inverse T] {k : Nat} {x0 : D} {h : HS} : callD T (k + 1) "_law_inverse" [x0] h = fin h.length (execB (callD T k) (.cons (.asg (.nm 1) (.bin .Mult (.lst (.cons (.lit (.int 0)) .nil)) (.bi .len (.cons (.var 0) .nil)))) (.cons (.for_ (.nm 2) (.rng (.cons (.bi .len (.cons (.var 0) .nil)) .nil)) (.cons (.asg (.sub (.var 1) (.ix (.var 0) (.var 2))) (.var 2)) .nil)) (.cons (.ret (.bi .tuple (.cons (.var 1) .nil))) .nil))) [some x0, none, none] h) := callD_run (d := ⟨1, 3, c__law_inverse⟩) H__law_inverse.e rfl
def c__law_conj : CSs := (.cons (.asg (.nm 2) (.bin .Mult (.lst (.cons (.lit (.int 0)) .nil)) (.bi .len (.cons (.var 0) .nil)))) (.cons (.for_ (.nm 3) (.rng (.cons (.bi .len (.cons (.var 0) .nil)) .nil)) (.cons (.asg (.sub (.var 2) (.ix (.var 1) (.var 3))) (.ix (.var 1) (.ix (.var 0) (.var 3)))) .nil)) (.cons (.ret (.bi .tuple (.cons (.var 2) .nil))) .nil)))
class H__law_conj (T : Tb) : Prop where
  e : T "_law_conj" = some ⟨2, 4, c__law_conj⟩
theorem o__law_conj {T : Tb} [H__law_conj T] {k : Nat} {x0 x1 : D} {h : HS} : callD T (k + 1) "_law_conj" [x0, x1] h = fin h.length (execB (callD T k) (.cons (.asg (.nm 2) (.bin .Mult (.lst (.cons (.lit (.int 0)) .nil)) (.bi .len (.cons (.var 0) .nil)))) (.cons (.for_ (.nm 3) (.rng (.cons (.bi .len (.cons (.var 0) .nil)) .nil)) (.cons (.asg (.sub (.var 2) (.ix (.var 1) (.var 3))) (.ix (.var 1) (.ix (.var 0) (.var 3)))) .nil)) (.cons (.ret (.bi .tuple (.cons (.var 2) .nil))) .nil))) [some x0, some x1, none, none] h) := callD_run (d := ⟨2, 4, c__law_conj⟩) H__law_conj.e rfl
def c__law_comm : CSs := (.cons (.ret (.call "_law_times" (.cons (.call "_law_times" (.cons (.call "_law_inverse" (.cons (.var 0) .nil)) (.cons (.call "_law_inverse" (.cons (.var 1) .nil)) .nil))) (.cons (.call "_law_times" (.cons (.var 0) (.cons (.var 1) .nil))) .nil)))) .nil)
class H__law_comm (T : Tb) : Prop where
  e : T "_law_comm" = some ⟨2, 2, c__law_comm⟩
theorem o__law_comm {T : Tb} [H__law_comm T] {k : Nat} {x0 x1 : D} {h : HS} : callD T (k + 1) "_law_comm" [x0, x1] h = fin h.length (execB (callD T k) (.cons (.ret (.call "_law_times" (.cons (.call "_law_times" (.cons (.call "_law_inverse" (.cons (.var 0) .nil)) (.cons (.call "_law_inverse" (.cons (.var 1) .nil)) .nil))) (.cons (.call "_law_times" (.cons (.var 0) (.cons (.var 1) .nil))) .nil)))) .nil) [some x0, some x1] h) := callD_run (d := ⟨2, 2, c__law_comm⟩) H__law_comm.e rfl
def c__law_disjoint : CSs := (.cons (.asg (.nm 2) (.lst .nil)) (.cons (.asg (.nm 3) (.lit (.int 0))) (.cons (.while_ (.cmp .Lt (.var 3) (.var 1)) (.cons (.asg (.nm 4) (.bin .Add (.lit (.int 1)) (.call "_law_take" (.cons (.var 0) (.cons (.bi .min (.cons (.lit (.int 5)) (.cons (.bin .Sub (.var 1) (.var 3)) .nil))) .nil))))) (.cons (.ex (.meth .append (.var 2) (.cons (.call "_law_cycle" (.cons (.var 1) (.cons (.lrg (.cons (.var 3) (.cons (.bin .Add (.var 3) (.var 4)) .nil))) .nil))) .nil))) (.cons (.asg (.nm 3) (.bin .Add (.var 3) (.var 4))) .nil)))) (.cons (.ret (.var 2)) .nil))))
class H__law_disjoint (T : Tb) : Prop where
  e : T "_law_disjoint" = some ⟨2, 5, c__law_disjoint⟩
theorem o__law_disjoint {T : Tb} [H__law_disjoint T] {k : Nat} {x0 x1 : D} {h : HS} : callD T (k + 1) "_law_disjoint" [x0, x1] h = fin h.length (execB (callD T k) (.cons (.asg (.nm 2) (.lst .nil)) (.cons (.asg (.nm 3) (.lit (.int 0))) (.cons (.while_ (.cmp .Lt (.var 3) (.var 1)) (.cons (.asg (.nm 4) (.bin .Add (.lit (.int 1)) (.call "_law_take" (.cons (.var 0) (.cons (.bi .min (.cons (.lit (.int 5)) (.cons (.bin .Sub (.var 1) (.var 3)) .nil))) .nil))))) (.cons (.ex (.meth .append (.var 2) (.cons (.call "_law_cycle" (.cons (.var 1) (.cons (.lrg (.cons (.var 3) (.cons (.bin .Add (.var 3) (.var 4)) .nil))) .nil))) .nil))) (.cons (.asg (.nm 3) (.bin .Add (.var 3) (.var 4))) .nil)))) (.cons (.ret (.var 2)) .nil)))) [some x0, some x1, none, none, none] h) := callD_run (d := ⟨2, 5, c__law_disjoint⟩) H__law_disjoint.e rfl
def c__law_imprimitive : CSs := (.cons (.asg (.nm 2) (.call "_law_pick" (.cons (.var 0) (.cons (.lst (.cons (.lit (.int 2)) (.cons (.lit (.int 2)) (.cons (.lit (.int 3)) (.cons (.lit (.int 4)) .nil))))) .nil)))) (.cons (.asg (.nm 3) (.bi .max (.cons (.lit (.int 1)) (.cons (.bin .FloorDiv (.var 1) (.var 2)) .nil)))) (.cons (.ifs (.cmp .Gt (.bin .Mult (.var 2) (.var 3)) (.var 1)) (.cons (.asg (.nm 2) (.var 1)) .nil) .nil) (.cons (.asg (.nm 4) (.call "_law_shuffled" (.cons (.var 0) (.cons (.var 3) .nil)))) (.cons (.asg (.nm 5) (.lrg (.cons (.var 1) .nil))) (.cons (.for_ (.nm 6) (.rng (.cons (.var 3) .nil)) (.cons (.for_ (.nm 9) (.rng (.cons (.var 2) .nil)) (.cons (.asg (.sub (.var 5) (.bin .Add (.bin .Mult (.var 6) (.var 2)) (.var 9))) (.bin .Add (.bin .Mult (.ix (.var 4) (.var 6)) (.var 2)) (.var 9))) .nil)) .nil)) (.cons (.asg (.nm 7) (.call "_law_shuffled" (.cons (.var 0) (.cons (.var 2) .nil)))) (.cons (.asg (.nm 8) (.lrg (.cons (.var 1) .nil))) (.cons (.for_ (.nm 9) (.rng (.cons (.var 2) .nil)) (.cons (.asg (.sub (.var 8) (.var 9)) (.ix (.var 7) (.var 9))) .nil)) (.cons (.asg (.nm 10) (.lrg (.cons (.var 1) .nil))) (.cons (.for_ (.nm 6) (.rng (.cons (.var 3) .nil)) (.cons (.for_ (.nm 9) (.rng (.cons (.var 2) .nil)) (.cons (.asg (.sub (.var 10) (.bin .Add (.bin .Mult (.var 6) (.var 2)) (.var 9))) (.bin .Add (.bin .Mult (.bin .Mod (.bin .Add (.var 6) (.lit (.int 1))) (.var 3)) (.var 2)) (.var 9))) .nil)) .nil)) (.cons (.ret (.lst (.cons (.bi .tuple (.cons (.var 5) .nil)) (.cons (.bi .tuple (.cons (.var 8) .nil)) (.cons (.bi .tuple (.cons (.var 10) .nil)) .nil))))) .nil))))))))))))
class H__law_imprimitive (T : Tb) : Prop where
  e : T "_law_imprimitive" = some ⟨2, 11, c__law_imprimitive⟩
theorem o__law_imprimitive {T : Tb} [H__law_imprimitive T] {k : Nat} {x0 x1 : D} {h : HS} : callD T (k + 1) "_law_imprimitive" [x0, x1] h = fin h.length (execB (callD T k) (.cons (.asg (.nm 2) (.call "_law_pick" (.cons (.var 0) (.cons (.lst (.cons (.lit (.int 2)) (.cons (.lit (.int 2)) (.cons (.lit (.int 3)) (.cons (.lit (.int 4)) .nil))))) .nil)))) (.cons (.asg (.nm 3) (.bi .max (.cons (.lit (.int 1)) (.cons (.bin .FloorDiv (.var 1) (.var 2)) .nil)))) (.cons (.ifs (.cmp .Gt (.bin .Mult (.var 2) (.var 3)) (.var 1)) (.cons (.asg (.nm 2) (.var 1)) .nil) .nil) (.cons (.asg (.nm 4) (.call "_law_shuffled" (.cons (.var 0) (.cons (.var 3) .nil)))) (.cons (.asg (.nm 5) (.lrg (.cons (.var 1) .nil))) (.cons (.for_ (.nm 6) (.rng (.cons (.var 3) .nil)) (.cons (.for_ (.nm 9) (.rng (.cons (.var 2) .nil)) (.cons (.asg (.sub (.var 5) (.bin .Add (.bin .Mult (.var 6) (.var 2)) (.var 9))) (.bin .Add (.bin .Mult (.ix (.var 4) (.var 6)) (.var 2)) (.var 9))) .nil)) .nil)) (.cons (.asg (.nm 7) (.call "_law_shuffled" (.cons (.var 0) (.cons (.var 2) .nil)))) (.cons (.asg (.nm 8) (.lrg (.cons (.var 1) .nil))) (.cons (.for_ (.nm 9) (.rng (.cons (.var 2) .nil)) (.cons (.asg (.sub (.var 8) (.var 9)) (.ix (.var 7) (.var 9))) .nil)) (.cons (.asg (.nm 10) (.lrg (.cons (.var 1) .nil))) (.cons (.for_ (.nm 6) (.rng (.cons (.var 3) .nil)) (.cons (.for_ (.nm 9) (.rng (.cons (.var 2) .nil)) (.cons (.asg (.sub (.var 10) (.bin .Add (.bin .Mult (.var 6) (.var 2)) (.var 9))) (.bin .Add (.bin .Mult (.bin .Mod (.bin .Add (.var 6) (.lit (.int 1))) (.var 3)) (.var 2)) (.var 9))) .nil)) .nil)) (.cons (.ret (.lst (.cons (.bi .tuple (.cons (.var 5) .nil)) (.cons (.bi .tuple (.cons (.var 8) .nil)) (.cons (.bi .tuple (.cons (.var 10) .nil)) .nil))))) .nil)))))))))))) [some x0, some x1, none, none, none, none, none, none, none, none, none] h) := callD_run (d := ⟨2, 11, c__law_imprimitive⟩) H__law_imprimitive.e rfl
def c__law_affine : CSs := (.cons (.asg (.nm 2) (.lc [3] (.nm 3) (.seq (.lst (.cons (.lit (.int 2)) (.cons (.lit (.int 3)) (.cons (.lit (.int 5)) (.cons (.lit (.int 7)) (.cons (.lit (.int 11)) (.cons (.lit (.int 13)) .nil)))))))) (.cmp .LtE (.var 3) (.var 1)) (.var 3))) (.cons (.ifs (.cmp .Eq (.bi .len (.cons (.var 2) .nil)) (.lit (.int 0))) (.cons (.ret (.lst .nil)) .nil) .nil) (.cons (.asg (.nm 3) (.ix (.var 2) (.bin .Sub (.bin .Sub (.bi .len (.cons (.var 2) .nil)) (.lit (.int 1))) (.call "_law_take" (.cons (.var 0) (.cons (.bi .min (.cons (.lit (.int 3)) (.cons (.bi .len (.cons (.var 2) .nil)) .nil))) .nil)))))) (.cons (.asg (.nm 4) (.bin .Add (.lit (.int 1)) (.call "_law_take" (.cons (.var 0) (.cons (.bin .Sub (.var 3) (.lit (.int 1))) .nil))))) (.cons (.asg (.nm 5) (.lrg (.cons (.var 3) (.cons (.var 1) .nil)))) (.cons (.ret (.lst (.cons (.bi .tuple (.cons (.bin .Add (.lc [6] (.nm 6) (.rng (.cons (.var 3) .nil)) .tru (.bin .Mod (.bin .Add (.var 6) (.lit (.int 1))) (.var 3))) (.var 5)) .nil)) (.cons (.bi .tuple (.cons (.bin .Add (.lc [6] (.nm 6) (.rng (.cons (.var 3) .nil)) .tru (.bin .Mod (.bin .Mult (.var 4) (.var 6)) (.var 3))) (.var 5)) .nil)) .nil)))) .nil))))))
class H__law_affine (T : Tb) : Prop where
  e : T "_law_affine" = some ⟨2, 7, c__law_affine⟩
theorem o__law_affine {T : Tb} [H__law_affine T] {k : Nat} {x0 x1 : D} {h : HS} : callD T (k + 1) "_law_affine" [x0, x1] h = fin h.length (execB (callD T k) (.cons (.asg (.nm 2) (.lc [3] (.nm 3) (.seq (.lst (.cons (.lit (.int 2)) (.cons (.lit (.int 3)) (.cons (.lit (.int 5)) (.cons (.lit (.int 7)) (.cons (.lit (.int 11)) (.cons (.lit (.int 13)) .nil)))))))) (.cmp .LtE (.var 3) (.var 1)) (.var 3))) (.cons (.ifs (.cmp .Eq (.bi .len (.cons (.var 2) .nil)) (.lit (.int 0))) (.cons (.ret (.lst .nil)) .nil) .nil) (.cons (.asg (.nm 3) (.ix (.var 2) (.bin .Sub (.bin .Sub (.bi .len (.cons (.var 2) .nil)) (.lit (.int 1))) (.call "_law_take" (.cons (.var 0) (.cons (.bi .min (.cons (.lit (.int 3)) (.cons (.bi .len (.cons (.var 2) .nil)) .nil))) .nil)))))) (.cons (.asg (.nm 4) (.bin .Add (.lit (.int 1)) (.call "_law_take" (.cons (.var 0) (.cons (.bin .Sub (.var 3) (.lit (.int 1))) .nil))))) (.cons (.asg (.nm 5) (.lrg (.cons (.var 3) (.cons (.var 1) .nil)))) (.cons (.ret (.lst (.cons (.bi .tuple (.cons (.bin .Add (.lc [6] (.nm 6) (.rng (.cons (.var 3) .nil)) .tru (.bin .Mod (.bin .Add (.var 6) (.lit (.int 1))) (.var 3))) (.var 5)) .nil)) (.cons (.bi .tuple (.cons (.bin .Add (.lc [6] (.nm 6) (.rng (.cons (.var 3) .nil)) .tru (.bin .Mod (.bin .Mult (.var 4) (.var 6)) (.var 3))) (.var 5)) .nil)) .nil)))) .nil)))))) [some x0, some x1, none, none, none, none, none] h) := callD_run (d := ⟨2, 7, c__law_affine⟩) H__law_affine.e rfl
def c__law_projective : CSs := (.cons (.asg (.nm 2) (.lc [3] (.nm 3) (.seq (.lst (.cons (.lit (.int 3)) (.cons (.lit (.int 5)) (.cons (.lit (.int 7)) (.cons (.lit (.int 11)) (.cons (.lit (.int 13)) .nil))))))) (.cmp .Lt (.var 3) (.var 1)) (.var 3))) (.cons (.ifs (.cmp .Eq (.bi .len (.cons (.var 2) .nil)) (.lit (.int 0))) (.cons (.ret (.lst (.cons (.trg (.cons (.var 1) .nil)) .nil))) .nil) .nil) (.cons (.asg (.nm 3) (.ix (.var 2) (.bin .Sub (.bin .Sub (.bi .len (.cons (.var 2) .nil)) (.lit (.int 1))) (.call "_law_take" (.cons (.var 0) (.cons (.bi .min (.cons (.lit (.int 2)) (.cons (.bi .len (.cons (.var 2) .nil)) .nil))) .nil)))))) (.cons (.asg (.nm 4) (.lrg (.cons (.bin .Add (.var 3) (.lit (.int 1))) (.cons (.var 1) .nil)))) (.cons (.asg (.nm 5) (.bin .Add (.lst (.cons (.var 3) .nil)) (.bin .Mult (.lst (.cons (.lit (.int 0)) .nil)) (.var 3)))) (.cons (.for_ (.nm 6) (.rng (.cons (.lit (.int 1)) (.cons (.var 3) .nil))) (.cons (.for_ (.nm 7) (.rng (.cons (.lit (.int 1)) (.cons (.var 3) .nil))) (.cons (.ifs (.cmp .Eq (.bin .Mod (.bin .Mult (.var 6) (.var 7)) (.var 3)) (.bin .Sub (.var 3) (.lit (.int 1)))) (.cons (.asg (.sub (.var 5) (.var 6)) (.var 7)) .nil) .nil) .nil)) .nil)) (.cons (.ret (.lst (.cons (.bi .tuple (.cons (.bin .Add (.bin .Add (.lc [6] (.nm 6) (.rng (.cons (.var 3) .nil)) .tru (.bin .Mod (.bin .Add (.var 6) (.lit (.int 1))) (.var 3))) (.lst (.cons (.var 3) .nil))) (.var 4)) .nil)) (.cons (.bi .tuple (.cons (.bin .Add (.var 5) (.var 4)) .nil)) .nil)))) .nil)))))))
class H__law_projective (T : Tb) : Prop where
  e : T "_law_projective" = some ⟨2, 8, c__law_projective⟩
theorem o__law_projective {T : Tb} [H__law_projective T] {k : Nat} {x0 x1 : D} {h : HS} : callD T (k + 1) "_law_projective" [x0, x1] h = fin h.length (execB (callD T k) (.cons (.asg (.nm 2) (.lc [3] (.nm 3) (.seq (.lst (.cons (.lit (.int 3)) (.cons (.lit (.int 5)) (.cons (.lit (.int 7)) (.cons (.lit (.int 11)) (.cons (.lit (.int 13)) .nil))))))) (.cmp .Lt (.var 3) (.var 1)) (.var 3))) (.cons (.ifs (.cmp .Eq (.bi .len (.cons (.var 2) .nil)) (.lit (.int 0))) (.cons (.ret (.lst (.cons (.trg (.cons (.var 1) .nil)) .nil))) .nil) .nil) (.cons (.asg (.nm 3) (.ix (.var 2) (.bin .Sub (.bin .Sub (.bi .len (.cons (.var 2) .nil)) (.lit (.int 1))) (.call "_law_take" (.cons (.var 0) (.cons (.bi .min (.cons (.lit (.int 2)) (.cons (.bi .len (.cons (.var 2) .nil)) .nil))) .nil)))))) (.cons (.asg (.nm 4) (.lrg (.cons (.bin .Add (.var 3) (.lit (.int 1))) (.cons (.var 1) .nil)))) (.cons (.asg (.nm 5) (.bin .Add (.lst (.cons (.var 3) .nil)) (.bin .Mult (.lst (.cons (.lit (.int 0)) .nil)) (.var 3)))) (.cons (.for_ (.nm 6) (.rng (.cons (.lit (.int 1)) (.cons (.var 3) .nil))) (.cons (.for_ (.nm 7) (.rng (.cons (.lit (.int 1)) (.cons (.var 3) .nil))) (.cons (.ifs (.cmp .Eq (.bin .Mod (.bin .Mult (.var 6) (.var 7)) (.var 3)) (.bin .Sub (.var 3) (.lit (.int 1)))) (.cons (.asg (.sub (.var 5) (.var 6)) (.var 7)) .nil) .nil) .nil)) .nil)) (.cons (.ret (.lst (.cons (.bi .tuple (.cons (.bin .Add (.bin .Add (.lc [6] (.nm 6) (.rng (.cons (.var 3) .nil)) .tru (.bin .Mod (.bin .Add (.var 6) (.lit (.int 1))) (.var 3))) (.lst (.cons (.var 3) .nil))) (.var 4)) .nil)) (.cons (.bi .tuple (.cons (.bin .Add (.var 5) (.var 4)) .nil)) .nil)))) .nil))))))) [some x0, some x1, none, none, none, none, none, none] h) := callD_run (d := ⟨2, 8, c__law_projective⟩) H__law_projective.e rfl
def c__law_gens_of : CSs := (.cons (.asg (.nm 2) (.call "_law_take" (.cons (.var 0) (.cons (.lit (.int 10)) .nil)))) (.cons (.ifs (.cmp .Eq (.var 2) (.lit (.int 0))) (.cons (.ret (.lc [8] (.nm 8) (.rng (.cons (.bin .Add (.lit (.int 1)) (.call "_law_take" (.cons (.var 0) (.cons (.lit (.int 3)) .nil)))) .nil)) .tru (.call "_law_shuffled" (.cons (.var 0) (.cons (.var 1) .nil))))) .nil) .nil) (.cons (.ifs (.cmp .Eq (.var 2) (.lit (.int 1))) (.cons (.ret (.lst (.cons (.call "_law_shuffled" (.cons (.var 0) (.cons (.var 1) .nil))) .nil))) .nil) .nil) (.cons (.ifs (.cmp .Eq (.var 2) (.lit (.int 2))) (.cons (.asg (.nm 4) (.bin .Add (.lit (.int 1)) (.call "_law_take" (.cons (.var 0) (.cons (.var 1) .nil))))) (.cons (.asg (.nm 5) (.bi .tuple (.cons (.bin .Add (.lc [9] (.nm 9) (.rng (.cons (.var 4) .nil)) .tru (.bin .Mod (.bin .Sub (.var 4) (.var 9)) (.var 4))) (.lrg (.cons (.var 4) (.cons (.var 1) .nil)))) .nil))) (.cons (.ret (.lst (.cons (.call "_law_cycle" (.cons (.var 1) (.cons (.lrg (.cons (.var 4) .nil)) .nil))) (.cons (.var 5) .nil)))) .nil))) .nil) (.cons (.ifs (.cmp .Eq (.var 2) (.lit (.int 3))) (.cons (.ret (.call "_law_disjoint" (.cons (.var 0) (.cons (.var 1) .nil)))) .nil) .nil) (.cons (.ifs (.cmp .Eq (.var 2) (.lit (.int 4))) (.cons (.ret (.call "_law_imprimitive" (.cons (.var 0) (.cons (.var 1) .nil)))) .nil) .nil) (.cons (.ifs (.cmp .Eq (.var 2) (.lit (.int 5))) (.cons (.ret (.call "_law_affine" (.cons (.var 0) (.cons (.var 1) .nil)))) .nil) .nil) (.cons (.ifs (.cmp .Eq (.var 2) (.lit (.int 6))) (.cons (.asg (.nm 4) (.bin .Add (.lit (.int 1)) (.call "_law_take" (.cons (.var 0) (.cons (.var 1) .nil))))) (.cons (.asg (.nm 6) (.ife (.cmp .Eq (.call "_law_take" (.cons (.var 0) (.cons (.lit (.int 2)) .nil))) (.lit (.int 0))) (.var 4) (.bin .Add (.bin .Sub (.var 4) (.lit (.int 1))) (.bin .Mod (.var 4) (.lit (.int 2)))))) (.cons (.ret (.lst (.cons (.call "_law_cycle" (.cons (.var 1) (.cons (.lrg (.cons (.bi .min (.cons (.var 4) (.cons (.lit (.int 3)) .nil))) .nil)) .nil))) (.cons (.call "_law_cycle" (.cons (.var 1) (.cons (.lrg (.cons (.bi .max (.cons (.lit (.int 1)) (.cons (.var 6) .nil))) .nil)) .nil))) .nil)))) .nil))) .nil) (.cons (.ifs (.cmp .Eq (.var 2) (.lit (.int 7))) (.cons (.asg (.nm 7) (.call "_law_shuffled" (.cons (.var 0) (.cons (.var 1) .nil)))) (.cons (.asg (.nm 4) (.bi .min (.cons (.var 1) (.cons (.bin .Add (.lit (.int 2)) (.call "_law_take" (.cons (.var 0) (.cons (.lit (.int 2)) .nil)))) .nil)))) (.cons (.ret (.lc [8] (.nm 8) (.rng3 (.cons (.lit (.int 0)) (.cons (.call "_law_take" (.cons (.var 0) (.cons (.var 1) .nil))) (.cons (.lit (.int 2)) .nil)))) .tru (.call "_law_cycle" (.cons (.var 1) (.cons (.slice (.var 7) (.so (.var 8)) (.so (.bin .Add (.var 8) (.var 4)))) .nil))))) .nil))) .nil) (.cons (.ifs (.cmp .Eq (.var 2) (.lit (.int 8))) (.cons (.ret (.call "_law_projective" (.cons (.var 0) (.cons (.var 1) .nil)))) .nil) .nil) (.cons (.asg (.nm 3) (.lc [8] (.nm 8) (.rng (.cons (.lit (.int 2)) .nil)) .tru (.call "_law_shuffled" (.cons (.var 0) (.cons (.var 1) .nil))))) (.cons (.ret (.lst (.cons (.call "_law_comm" (.cons (.ix (.var 3) (.lit (.int 0))) (.cons (.ix (.var 3) (.lit (.int 1))) .nil))) (.cons (.call "_law_times" (.cons (.ix (.var 3) (.lit (.int 0))) (.cons (.ix (.var 3) (.lit (.int 0))) .nil))) .nil)))) .nil))))))))))))
class H__law_gens_of (T : Tb) : Prop where
  e : T "_law_gens_of" = some ⟨2, 10, c__law_gens_of⟩
theorem o__law_gens_of {T : Tb} [H__law_gens_of T] {k : Nat} {x0 x1 : D} {h : HS} : callD T (k + 1) "_law_gens_of" [x0, x1] h = fin h.length (execB (callD T k) (.cons (.asg (.nm 2) (.call "_law_take" (.cons (.var 0) (.cons (.lit (.int 10)) .nil)))) (.cons (.ifs (.cmp .Eq (.var 2) (.lit (.int 0))) (.cons (.ret (.lc [8] (.nm 8) (.rng (.cons (.bin .Add (.lit (.int 1)) (.call "_law_take" (.cons (.var 0) (.cons (.lit (.int 3)) .nil)))) .nil)) .tru (.call "_law_shuffled" (.cons (.var 0) (.cons (.var 1) .nil))))) .nil) .nil) (.cons (.ifs (.cmp .Eq (.var 2) (.lit (.int 1))) (.cons (.ret (.lst (.cons (.call "_law_shuffled" (.cons (.var 0) (.cons (.var 1) .nil))) .nil))) .nil) .nil) (.cons (.ifs (.cmp .Eq (.var 2) (.lit (.int 2))) (.cons (.asg (.nm 4) (.bin .Add (.lit (.int 1)) (.call "_law_take" (.cons (.var 0) (.cons (.var 1) .nil))))) (.cons (.asg (.nm 5) (.bi .tuple (.cons (.bin .Add (.lc [9] (.nm 9) (.rng (.cons (.var 4) .nil)) .tru (.bin .Mod (.bin .Sub (.var 4) (.var 9)) (.var 4))) (.lrg (.cons (.var 4) (.cons (.var 1) .nil)))) .nil))) (.cons (.ret (.lst (.cons (.call "_law_cycle" (.cons (.var 1) (.cons (.lrg (.cons (.var 4) .nil)) .nil))) (.cons (.var 5) .nil)))) .nil))) .nil) (.cons (.ifs (.cmp .Eq (.var 2) (.lit (.int 3))) (.cons (.ret (.call "_law_disjoint" (.cons (.var 0) (.cons (.var 1) .nil)))) .nil) .nil) (.cons (.ifs (.cmp .Eq (.var 2) (.lit (.int 4))) (.cons (.ret (.call "_law_imprimitive" (.cons (.var 0) (.cons (.var 1) .nil)))) .nil) .nil) (.cons (.ifs (.cmp .Eq (.var 2) (.lit (.int 5))) (.cons (.ret (.call "_law_affine" (.cons (.var 0) (.cons (.var 1) .nil)))) .nil) .nil) (.cons (.ifs (.cmp .Eq (.var 2) (.lit (.int 6))) (.cons (.asg (.nm 4) (.bin .Add (.lit (.int 1)) (.call "_law_take" (.cons (.var 0) (.cons (.var 1) .nil))))) (.cons (.asg (.nm 6) (.ife (.cmp .Eq (.call "_law_take" (.cons (.var 0) (.cons (.lit (.int 2)) .nil))) (.lit (.int 0))) (.var 4) (.bin .Add (.bin .Sub (.var 4) (.lit (.int 1))) (.bin .Mod (.var 4) (.lit (.int 2)))))) (.cons (.ret (.lst (.cons (.call "_law_cycle" (.cons (.var 1) (.cons (.lrg (.cons (.bi .min (.cons (.var 4) (.cons (.lit (.int 3)) .nil))) .nil)) .nil))) (.cons (.call "_law_cycle" (.cons (.var 1) (.cons (.lrg (.cons (.bi .max (.cons (.lit (.int 1)) (.cons (.var 6) .nil))) .nil)) .nil))) .nil)))) .nil))) .nil) (.cons (.ifs (.cmp .Eq (.var 2) (.lit (.int 7))) (.cons (.asg (.nm 7) (.call "_law_shuffled" (.cons (.var 0) (.cons (.var 1) .nil)))) (.cons (.asg (.nm 4) (.bi .min (.cons (.var 1) (.cons (.bin .Add (.lit (.int 2)) (.call "_law_take" (.cons (.var 0) (.cons (.lit (.int 2)) .nil)))) .nil)))) (.cons (.ret (.lc [8] (.nm 8) (.rng3 (.cons (.lit (.int 0)) (.cons (.call "_law_take" (.cons (.var 0) (.cons (.var 1) .nil))) (.cons (.lit (.int 2)) .nil)))) .tru (.call "_law_cycle" (.cons (.var 1) (.cons (.slice (.var 7) (.so (.var 8)) (.so (.bin .Add (.var 8) (.var 4)))) .nil))))) .nil))) .nil) (.cons (.ifs (.cmp .Eq (.var 2) (.lit (.int 8))) (.cons (.ret (.call "_law_projective" (.cons (.var 0) (.cons (.var 1) .nil)))) .nil) .nil) (.cons (.asg (.nm 3) (.lc [8] (.nm 8) (.rng (.cons (.lit (.int 2)) .nil)) .tru (.call "_law_shuffled" (.cons (.var 0) (.cons (.var 1) .nil))))) (.cons (.ret (.lst (.cons (.call "_law_comm" (.cons (.ix (.var 3) (.lit (.int 0))) (.cons (.ix (.var 3) (.lit (.int 1))) .nil))) (.cons (.call "_law_times" (.cons (.ix (.var 3) (.lit (.int 0))) (.cons (.ix (.var 3) (.lit (.int 0))) .nil))) .nil)))) .nil)))))))))))) [some x0, some x1, none, none, none, none, none, none, none, none] h) := callD_run (d := ⟨2, 10, c__law_gens_of⟩) H__law_gens_of.e rfl
def c__law_group : CSs := (.cons (.asg (.nm 2) (.bin .Add (.lit (.int 1)) (.call "_law_take" (.cons (.var 0) (.cons (.var 1) .nil))))) (.cons (.asg (.nm 3) (.call "_law_gens_of" (.cons (.var 0) (.cons (.var 2) .nil)))) (.cons (.ifs (.cmp .Eq (.call "_law_take" (.cons (.var 0) (.cons (.lit (.int 2)) .nil))) (.lit (.int 0))) (.cons (.asg (.nm 4) (.call "_law_shuffled" (.cons (.var 0) (.cons (.var 2) .nil)))) (.cons (.asg (.nm 3) (.lc [5] (.nm 5) (.seq (.var 3)) .tru (.call "_law_conj" (.cons (.var 5) (.cons (.var 4) .nil))))) .nil)) .nil) (.cons (.ifs (.and_ (.cmp .Gt (.bi .len (.cons (.var 3) .nil)) (.lit (.int 0))) (.cmp .Eq (.call "_law_take" (.cons (.var 0) (.cons (.lit (.int 4)) .nil))) (.lit (.int 0)))) (.cons (.asg (.nm 3) (.bin .Add (.var 3) (.slice (.lst (.cons (.call "_law_times" (.cons (.ix (.var 3) (.lit (.int 0))) (.cons (.ix (.var 3) (.neg (.lit (.int 1)))) .nil))) (.cons (.ix (.var 3) (.lit (.int 0))) (.cons (.trg (.cons (.var 2) .nil)) .nil)))) .no (.so (.bin .Add (.lit (.int 1)) (.call "_law_take" (.cons (.var 0) (.cons (.lit (.int 3)) .nil)))))))) .nil) .nil) (.cons (.ifs (.cmp .Eq (.call "_law_take" (.cons (.var 0) (.cons (.lit (.int 9)) .nil))) (.lit (.int 0))) (.cons (.asg (.nm 3) (.slice (.var 3) (.so (.lit (.int 1))) .no)) .nil) .nil) (.cons (.ret (.tup (.cons (.var 2) (.cons (.bi .tuple (.cons (.var 3) .nil)) .nil)))) .nil))))))
class H__law_group (T : Tb) : Prop where
  e : T "_law_group" = some ⟨2, 6, c__law_group⟩
theorem o__law_group {T : Tb} [H__law_group T] {k : Nat} {x0 x1 : D} {h : HS} : callD T (k + 1) "_law_group" [x0, x1] h = fin h.length (execB (callD T k) (.cons (.asg (.nm 2) (.bin .Add (.lit (.int 1)) (.call "_law_take" (.cons (.var 0) (.cons (.var 1) .nil))))) (.cons (.asg (.nm 3) (.call "_law_gens_of" (.cons (.var 0) (.cons (.var 2) .nil)))) (.cons (.ifs (.cmp .Eq (.call "_law_take" (.cons (.var 0) (.cons (.lit (.int 2)) .nil))) (.lit (.int 0))) (.cons (.asg (.nm 4) (.call "_law_shuffled" (.cons (.var 0) (.cons (.var 2) .nil)))) (.cons (.asg (.nm 3) (.lc [5] (.nm 5) (.seq (.var 3)) .tru (.call "_law_conj" (.cons (.var 5) (.cons (.var 4) .nil))))) .nil)) .nil) (.cons (.ifs (.and_ (.cmp .Gt (.bi .len (.cons (.var 3) .nil)) (.lit (.int 0))) (.cmp .Eq (.call "_law_take" (.cons (.var 0) (.cons (.lit (.int 4)) .nil))) (.lit (.int 0)))) (.cons (.asg (.nm 3) (.bin .Add (.var 3) (.slice (.lst (.cons (.call "_law_times" (.cons (.ix (.var 3) (.lit (.int 0))) (.cons (.ix (.var 3) (.neg (.lit (.int 1)))) .nil))) (.cons (.ix (.var 3) (.lit (.int 0))) (.cons (.trg (.cons (.var 2) .nil)) .nil)))) .no (.so (.bin .Add (.lit (.int 1)) (.call "_law_take" (.cons (.var 0) (.cons (.lit (.int 3)) .nil)))))))) .nil) .nil) (.cons (.ifs (.cmp .Eq (.call "_law_take" (.cons (.var 0) (.cons (.lit (.int 9)) .nil))) (.lit (.int 0))) (.cons (.asg (.nm 3) (.slice (.var 3) (.so (.lit (.int 1))) .no)) .nil) .nil) (.cons (.ret (.tup (.cons (.var 2) (.cons (.bi .tuple (.cons (.var 3) .nil)) .nil)))) .nil)))))) [some x0, some x1, none, none, none, none] h) := callD_run (d := ⟨2, 6, c__law_group⟩) H__law_group.e rfl
def c__law_spoil : CSs := (.cons (.ifs (.and_ (.val (.isi .tuple (.var 1))) (.and_ (.cmp .Gt (.bi .len (.cons (.var 1) .nil)) (.lit (.int 0))) (.cmp .Gt (.call "_law_take" (.cons (.var 0) (.cons (.lit (.int 9)) .nil))) (.lit (.int 0))))) (.cons (.asg (.nm 2) (.ife (.cmp .Gt (.call "_law_take" (.cons (.var 0) (.cons (.lit (.int 3)) .nil))) (.lit (.int 0))) (.call "_law_take" (.cons (.var 0) (.cons (.bi .len (.cons (.var 1) .nil)) .nil))) (.bin .Sub (.bi .len (.cons (.var 1) .nil)) (.lit (.int 1))))) (.cons (.asg (.nm 3) (.call "_law_take" (.cons (.var 0) (.cons (.lit (.int 12)) .nil)))) (.cons (.ifs (.cmp .Eq (.var 3) (.lit (.int 0))) (.cons (.ret (.bin .Add (.slice (.var 1) .no (.so (.var 2))) (.slice (.var 1) (.so (.bin .Add (.var 2) (.lit (.int 1)))) .no))) .nil) .nil) (.cons (.ifs (.cmp .Eq (.var 3) (.lit (.int 1))) (.cons (.ret (.bin .Add (.bin .Add (.slice (.var 1) .no (.so (.var 2))) (.tup (.cons (.ix (.var 1) (.var 2)) .nil))) (.slice (.var 1) (.so (.var 2)) .no))) .nil) .nil) (.cons (.ifs (.cmp .Eq (.var 3) (.lit (.int 2))) (.cons (.asg (.nm 4) (.call "_law_take" (.cons (.var 0) (.cons (.bi .len (.cons (.var 1) .nil)) .nil)))) (.cons (.asg (.nm 5) (.bi .list (.cons (.var 1) .nil))) (.cons (.asgT [(.sub (.var 5) (.var 4)), (.sub (.var 5) (.var 2))] (.tup (.cons (.ix (.var 5) (.var 2)) (.cons (.ix (.var 5) (.var 4)) .nil)))) (.cons (.ret (.bi .tuple (.cons (.var 5) .nil))) .nil)))) .nil) (.cons (.ret (.bin .Add (.bin .Add (.slice (.var 1) .no (.so (.var 2))) (.tup (.cons (.call "_law_spoil" (.cons (.var 0) (.cons (.ix (.var 1) (.var 2)) .nil))) .nil))) (.slice (.var 1) (.so (.bin .Add (.var 2) (.lit (.int 1)))) .no))) .nil)))))) .nil) (.cons (.ifs (.or_ (.val (.isi .bool (.var 1))) (.not_ (.val (.isi .int (.var 1))))) (.cons (.ret (.call "_law_pick" (.cons (.var 0) (.cons (.lst (.cons (.lit .non) (.cons (.lit (.int 0)) (.cons (.tup .nil) (.cons (.lit (.str "gen")) (.cons (.lit (.str "")) (.cons (.lit (.bl true)) (.cons (.lit (.str "in")) (.cons (.tup (.cons (.lit (.str "one")) .nil)) .nil))))))))) .nil)))) .nil) .nil) (.cons (.ret (.call "_law_pick" (.cons (.var 0) (.cons (.lst (.cons (.bin .Add (.var 1) (.lit (.int 1))) (.cons (.bin .Sub (.var 1) (.lit (.int 1))) (.cons (.lit (.int 0)) (.cons (.bin .Sub (.lit (.int 0)) (.lit (.int 1))) (.cons (.lit (.int 1)) (.cons (.bin .Add (.var 1) (.lit (.int 2))) (.cons (.bin .Sub (.var 1) (.lit (.int 2))) (.cons (.lit .non) (.cons (.tup .nil) (.cons (.bin .Mult (.var 1) (.lit (.int 7))) (.cons (.lit (.bl true)) (.cons (.lit (.str "one")) .nil))))))))))))) .nil)))) .nil)))
class H__law_spoil (T : Tb) : Prop where
  e : T "_law_spoil" = some ⟨2, 6, c__law_spoil⟩
theorem o__law_spoil {T : Tb} [H__law_spoil T] {k : Nat} {x0 x1 : D} {h : HS} : callD T (k + 1) "_law_spoil" [x0, x1] h = fin h.length (execB (callD T k) (.cons (.ifs (.and_ (.val (.isi .tuple (.var 1))) (.and_ (.cmp .Gt (.bi .len (.cons (.var 1) .nil)) (.lit (.int 0))) (.cmp .Gt (.call "_law_take" (.cons (.var 0) (.cons (.lit (.int 9)) .nil))) (.lit (.int 0))))) (.cons (.asg (.nm 2) (.ife (.cmp .Gt (.call "_law_take" (.cons (.var 0) (.cons (.lit (.int 3)) .nil))) (.lit (.int 0))) (.call "_law_take" (.cons (.var 0) (.cons (.bi .len (.cons (.var 1) .nil)) .nil))) (.bin .Sub (.bi .len (.cons (.var 1) .nil)) (.lit (.int 1))))) (.cons (.asg (.nm 3) (.call "_law_take" (.cons (.var 0) (.cons (.lit (.int 12)) .nil)))) (.cons (.ifs (.cmp .Eq (.var 3) (.lit (.int 0))) (.cons (.ret (.bin .Add (.slice (.var 1) .no (.so (.var 2))) (.slice (.var 1) (.so (.bin .Add (.var 2) (.lit (.int 1)))) .no))) .nil) .nil) (.cons (.ifs (.cmp .Eq (.var 3) (.lit (.int 1))) (.cons (.ret (.bin .Add (.bin .Add (.slice (.var 1) .no (.so (.var 2))) (.tup (.cons (.ix (.var 1) (.var 2)) .nil))) (.slice (.var 1) (.so (.var 2)) .no))) .nil) .nil) (.cons (.ifs (.cmp .Eq (.var 3) (.lit (.int 2))) (.cons (.asg (.nm 4) (.call "_law_take" (.cons (.var 0) (.cons (.bi .len (.cons (.var 1) .nil)) .nil)))) (.cons (.asg (.nm 5) (.bi .list (.cons (.var 1) .nil))) (.cons (.asgT [(.sub (.var 5) (.var 4)), (.sub (.var 5) (.var 2))] (.tup (.cons (.ix (.var 5) (.var 2)) (.cons (.ix (.var 5) (.var 4)) .nil)))) (.cons (.ret (.bi .tuple (.cons (.var 5) .nil))) .nil)))) .nil) (.cons (.ret (.bin .Add (.bin .Add (.slice (.var 1) .no (.so (.var 2))) (.tup (.cons (.call "_law_spoil" (.cons (.var 0) (.cons (.ix (.var 1) (.var 2)) .nil))) .nil))) (.slice (.var 1) (.so (.bin .Add (.var 2) (.lit (.int 1)))) .no))) .nil)))))) .nil) (.cons (.ifs (.or_ (.val (.isi .bool (.var 1))) (.not_ (.val (.isi .int (.var 1))))) (.cons (.ret (.call "_law_pick" (.cons (.var 0) (.cons (.lst (.cons (.lit .non) (.cons (.lit (.int 0)) (.cons (.tup .nil) (.cons (.lit (.str "gen")) (.cons (.lit (.str "")) (.cons (.lit (.bl true)) (.cons (.lit (.str "in")) (.cons (.tup (.cons (.lit (.str "one")) .nil)) .nil))))))))) .nil)))) .nil) .nil) (.cons (.ret (.call "_law_pick" (.cons (.var 0) (.cons (.lst (.cons (.bin .Add (.var 1) (.lit (.int 1))) (.cons (.bin .Sub (.var 1) (.lit (.int 1))) (.cons (.lit (.int 0)) (.cons (.bin .Sub (.lit (.int 0)) (.lit (.int 1))) (.cons (.lit (.int 1)) (.cons (.bin .Add (.var 1) (.lit (.int 2))) (.cons (.bin .Sub (.var 1) (.lit (.int 2))) (.cons (.lit .non) (.cons (.tup .nil) (.cons (.bin .Mult (.var 1) (.lit (.int 7))) (.cons (.lit (.bl true)) (.cons (.lit (.str "one")) .nil))))))))))))) .nil)))) .nil))) [some x0, some x1, none, none, none, none] h) := callD_run (d := ⟨2, 6, c__law_spoil⟩) H__law_spoil.e rfl
def c__law_some : CSs := (.cons (.asg (.nm 2) (.trg (.cons (.ix (.var 1) (.lit (.int 0))) .nil))) (.cons (.for_ (.nm 3) (.rng (.cons (.call "_law_take" (.cons (.var 0) (.cons (.lit (.int 12)) .nil))) .nil)) (.cons (.ifs (.cmp .Gt (.bi .len (.cons (.ix (.var 1) (.lit (.int 1))) .nil)) (.lit (.int 0))) (.cons (.asg (.nm 4) (.call "_law_pick" (.cons (.var 0) (.cons (.ix (.var 1) (.lit (.int 1))) .nil)))) (.cons (.asg (.nm 2) (.call "_law_times" (.cons (.var 2) (.cons (.ife (.cmp .Gt (.call "_law_take" (.cons (.var 0) (.cons (.lit (.int 3)) .nil))) (.lit (.int 0))) (.var 4) (.call "_law_inverse" (.cons (.var 4) .nil))) .nil)))) .nil)) .nil) .nil)) (.cons (.ret (.var 2)) .nil)))
class H__law_some (T : Tb) : Prop where
  e : T "_law_some" = some ⟨2, 5, c__law_some⟩
theorem o__law_some {T : Tb} [H__law_some T] {k : Nat} {x0 x1 : D} {h : HS} : callD T (k + 1) "_law_some" [x0, x1] h = fin h.length (execB (callD T k) (.cons (.asg (.nm 2) (.trg (.cons (.ix (.var 1) (.lit (.int 0))) .nil))) (.cons (.for_ (.nm 3) (.rng (.cons (.call "_law_take" (.cons (.var 0) (.cons (.lit (.int 12)) .nil))) .nil)) (.cons (.ifs (.cmp .Gt (.bi .len (.cons (.ix (.var 1) (.lit (.int 1))) .nil)) (.lit (.int 0))) (.cons (.asg (.nm 4) (.call "_law_pick" (.cons (.var 0) (.cons (.ix (.var 1) (.lit (.int 1))) .nil)))) (.cons (.asg (.nm 2) (.call "_law_times" (.cons (.var 2) (.cons (.ife (.cmp .Gt (.call "_law_take" (.cons (.var 0) (.cons (.lit (.int 3)) .nil))) (.lit (.int 0))) (.var 4) (.call "_law_inverse" (.cons (.var 4) .nil))) .nil)))) .nil)) .nil) .nil)) (.cons (.ret (.var 2)) .nil))) [some x0, some x1, none, none, none] h) := callD_run (d := ⟨2, 5, c__law_some⟩) H__law_some.e rfl
def c__law_near : CSs := (.cons (.asg (.nm 2) (.call "_law_some" (.cons (.var 0) (.cons (.var 1) .nil)))) (.cons (.asg (.nm 3) (.call "_law_take" (.cons (.var 0) (.cons (.lit (.int 4)) .nil)))) (.cons (.ifs (.cmp .Eq (.var 3) (.lit (.int 0))) (.cons (.ret (.var 2)) .nil) .nil) (.cons (.ifs (.cmp .Eq (.var 3) (.lit (.int 1))) (.cons (.ret (.call "_law_shuffled" (.cons (.var 0) (.cons (.ix (.var 1) (.lit (.int 0))) .nil)))) .nil) .nil) (.cons (.asg (.nm 4) (.bi .list (.cons (.var 2) .nil))) (.cons (.asg (.nm 5) (.call "_law_take" (.cons (.var 0) (.cons (.ix (.var 1) (.lit (.int 0))) .nil)))) (.cons (.asg (.nm 6) (.call "_law_take" (.cons (.var 0) (.cons (.ix (.var 1) (.lit (.int 0))) .nil)))) (.cons (.asg (.nm 7) (.call "_law_take" (.cons (.var 0) (.cons (.ix (.var 1) (.lit (.int 0))) .nil)))) (.cons (.ifs (.or_ (.cmp .Eq (.var 3) (.lit (.int 2))) (.cmp .Lt (.bi .len (.cons (.sset (.lst (.cons (.var 5) (.cons (.var 6) (.cons (.var 7) .nil))))) .nil)) (.lit (.int 3)))) (.cons (.asgT [(.sub (.var 4) (.var 5)), (.sub (.var 4) (.var 6))] (.tup (.cons (.ix (.var 4) (.var 6)) (.cons (.ix (.var 4) (.var 5)) .nil)))) .nil) (.cons (.asgT [(.sub (.var 4) (.var 5)), (.sub (.var 4) (.var 6)), (.sub (.var 4) (.var 7))] (.tup (.cons (.ix (.var 4) (.var 6)) (.cons (.ix (.var 4) (.var 7)) (.cons (.ix (.var 4) (.var 5)) .nil))))) .nil)) (.cons (.ret (.bi .tuple (.cons (.var 4) .nil))) .nil))))))))))
class H__law_near (T : Tb) : Prop where
  e : T "_law_near" = some ⟨2, 8, c__law_near⟩
theorem o__law_near {T : Tb} [H__law_near T] {k : Nat} {x0 x1 : D} {h : HS} : callD T (k + 1) "_law_near" [x0, x1] h = fin h.length (execB (callD T k) (.cons (.asg (.nm 2) (.call "_law_some" (.cons (.var 0) (.cons (.var 1) .nil)))) (.cons (.asg (.nm 3) (.call "_law_take" (.cons (.var 0) (.cons (.lit (.int 4)) .nil)))) (.cons (.ifs (.cmp .Eq (.var 3) (.lit (.int 0))) (.cons (.ret (.var 2)) .nil) .nil) (.cons (.ifs (.cmp .Eq (.var 3) (.lit (.int 1))) (.cons (.ret (.call "_law_shuffled" (.cons (.var 0) (.cons (.ix (.var 1) (.lit (.int 0))) .nil)))) .nil) .nil) (.cons (.asg (.nm 4) (.bi .list (.cons (.var 2) .nil))) (.cons (.asg (.nm 5) (.call "_law_take" (.cons (.var 0) (.cons (.ix (.var 1) (.lit (.int 0))) .nil)))) (.cons (.asg (.nm 6) (.call "_law_take" (.cons (.var 0) (.cons (.ix (.var 1) (.lit (.int 0))) .nil)))) (.cons (.asg (.nm 7) (.call "_law_take" (.cons (.var 0) (.cons (.ix (.var 1) (.lit (.int 0))) .nil)))) (.cons (.ifs (.or_ (.cmp .Eq (.var 3) (.lit (.int 2))) (.cmp .Lt (.bi .len (.cons (.sset (.lst (.cons (.var 5) (.cons (.var 6) (.cons (.var 7) .nil))))) .nil)) (.lit (.int 3)))) (.cons (.asgT [(.sub (.var 4) (.var 5)), (.sub (.var 4) (.var 6))] (.tup (.cons (.ix (.var 4) (.var 6)) (.cons (.ix (.var 4) (.var 5)) .nil)))) .nil) (.cons (.asgT [(.sub (.var 4) (.var 5)), (.sub (.var 4) (.var 6)), (.sub (.var 4) (.var 7))] (.tup (.cons (.ix (.var 4) (.var 6)) (.cons (.ix (.var 4) (.var 7)) (.cons (.ix (.var 4) (.var 5)) .nil))))) .nil)) (.cons (.ret (.bi .tuple (.cons (.var 4) .nil))) .nil)))))))))) [some x0, some x1, none, none, none, none, none, none] h) := callD_run (d := ⟨2, 8, c__law_near⟩) H__law_near.e rfl
def c__law_lines_form : CSs := (.cons (.ifs (.or_ (.not_ (.val (.isi .tuple (.var 0)))) (.not_ (.chain .LtE .LtE (.lit (.int 1)) (.bi .len (.cons (.var 0) .nil)) (.lit (.int 3000))))) (.cons (.ret (.lit (.bl false))) .nil) .nil) (.cons (.for_ (.nm 4) (.rng (.cons (.bi .len (.cons (.var 0) .nil)) .nil)) (.cons (.asg (.nm 5) (.ix (.var 0) (.var 4))) (.cons (.ifs (.or_ (.not_ (.val (.isi .tuple (.var 5)))) (.or_ (.cmp .Eq (.bi .len (.cons (.var 5) .nil)) (.lit (.int 0))) (.or_ (.not_ (.val (.isi .str (.ix (.var 5) (.lit (.int 0)))))) (.cmp .NotIn (.ix (.var 5) (.lit (.int 0))) (.var 3))))) (.cons (.ret (.lit (.bl false))) .nil) .nil) (.cons (.asg (.nm 6) (.meth .get (.dctL (.cons (.lit (.str "one")) (.cons (.lit (.int 1)) (.cons (.lit (.str "gen")) (.cons (.lit (.int 2)) (.cons (.lit (.str "seed")) (.cons (.lit (.int 2)) (.cons (.lit (.str "inverse")) (.cons (.lit (.int 2)) .nil))))))))) (.cons (.ix (.var 5) (.lit (.int 0))) (.cons (.lit (.int 3)) .nil)))) (.cons (.asg (.nm 7) (.meth .get (.dctL (.cons (.lit (.str "gen")) (.cons (.var 1) (.cons (.lit (.str "seed")) (.cons (.var 2) .nil))))) (.cons (.ix (.var 5) (.lit (.int 0))) (.cons (.var 4) .nil)))) (.cons (.ifs (.or_ (.cmp .NotEq (.bi .len (.cons (.var 5) .nil)) (.var 6)) (.val (.bi .any (.cons (.lc [8] (.nm 8) (.seq (.slice (.var 5) (.so (.lit (.int 1))) .no)) .tru (.orv (.isi .bool (.var 8)) (.notv (.isi .int (.var 8))))) .nil)))) (.cons (.ret (.lit (.bl false))) .nil) .nil) (.cons (.ifs (.val (.bi .any (.cons (.lc [8] (.nm 8) (.seq (.slice (.var 5) (.so (.lit (.int 1))) .no)) .tru (.orv (.cmp .Lt (.var 8) (.lit (.int 0))) (.cmp .GtE (.var 8) (.var 7)))) .nil))) (.cons (.ret (.lit (.bl false))) .nil) .nil) .nil))))))) (.cons (.ret (.lit (.bl true))) .nil)))
class H__law_lines_form (T : Tb) : Prop where
  e : T "_law_lines_form" = some ⟨4, 9, c__law_lines_form⟩
theorem o__law_lines_form {T : Tb} [H__law_lines_form T] {k : Nat} {x0 x1 x2 x3 : D} {h : HS} : callD T (k + 1) "_law_lines_form" [x0, x1, x2, x3] h = fin h.length (execB (callD T k) (.cons (.ifs (.or_ (.not_ (.val (.isi .tuple (.var 0)))) (.not_ (.chain .LtE .LtE (.lit (.int 1)) (.bi .len (.cons (.var 0) .nil)) (.lit (.int 3000))))) (.cons (.ret (.lit (.bl false))) .nil) .nil) (.cons (.for_ (.nm 4) (.rng (.cons (.bi .len (.cons (.var 0) .nil)) .nil)) (.cons (.asg (.nm 5) (.ix (.var 0) (.var 4))) (.cons (.ifs (.or_ (.not_ (.val (.isi .tuple (.var 5)))) (.or_ (.cmp .Eq (.bi .len (.cons (.var 5) .nil)) (.lit (.int 0))) (.or_ (.not_ (.val (.isi .str (.ix (.var 5) (.lit (.int 0)))))) (.cmp .NotIn (.ix (.var 5) (.lit (.int 0))) (.var 3))))) (.cons (.ret (.lit (.bl false))) .nil) .nil) (.cons (.asg (.nm 6) (.meth .get (.dctL (.cons (.lit (.str "one")) (.cons (.lit (.int 1)) (.cons (.lit (.str "gen")) (.cons (.lit (.int 2)) (.cons (.lit (.str "seed")) (.cons (.lit (.int 2)) (.cons (.lit (.str "inverse")) (.cons (.lit (.int 2)) .nil))))))))) (.cons (.ix (.var 5) (.lit (.int 0))) (.cons (.lit (.int 3)) .nil)))) (.cons (.asg (.nm 7) (.meth .get (.dctL (.cons (.lit (.str "gen")) (.cons (.var 1) (.cons (.lit (.str "seed")) (.cons (.var 2) .nil))))) (.cons (.ix (.var 5) (.lit (.int 0))) (.cons (.var 4) .nil)))) (.cons (.ifs (.or_ (.cmp .NotEq (.bi .len (.cons (.var 5) .nil)) (.var 6)) (.val (.bi .any (.cons (.lc [8] (.nm 8) (.seq (.slice (.var 5) (.so (.lit (.int 1))) .no)) .tru (.orv (.isi .bool (.var 8)) (.notv (.isi .int (.var 8))))) .nil)))) (.cons (.ret (.lit (.bl false))) .nil) .nil) (.cons (.ifs (.val (.bi .any (.cons (.lc [8] (.nm 8) (.seq (.slice (.var 5) (.so (.lit (.int 1))) .no)) .tru (.orv (.cmp .Lt (.var 8) (.lit (.int 0))) (.cmp .GtE (.var 8) (.var 7)))) .nil))) (.cons (.ret (.lit (.bl false))) .nil) .nil) .nil))))))) (.cons (.ret (.lit (.bl true))) .nil))) [some x0, some x1, some x2, some x3, none, none, none, none, none] h) := callD_run (d := ⟨4, 9, c__law_lines_form⟩) H__law_lines_form.e rfl
def c__law_values : CSs := (.cons (.asg (.nm 4) (.lst .nil)) (.cons (.for_ (.nm 5) (.seq (.var 3)) (.cons (.ifs (.cmp .Eq (.ix (.var 5) (.lit (.int 0))) (.lit (.str "one"))) (.cons (.ex (.meth .append (.var 4) (.cons (.trg (.cons (.var 0) .nil)) .nil))) .nil) (.cons (.ifs (.cmp .Eq (.ix (.var 5) (.lit (.int 0))) (.lit (.str "gen"))) (.cons (.ex (.meth .append (.var 4) (.cons (.ix (.var 1) (.ix (.var 5) (.lit (.int 1)))) .nil))) .nil) (.cons (.ifs (.cmp .Eq (.ix (.var 5) (.lit (.int 0))) (.lit (.str "seed"))) (.cons (.ex (.meth .append (.var 4) (.cons (.ix (.var 2) (.ix (.var 5) (.lit (.int 1)))) .nil))) .nil) (.cons (.ifs (.cmp .Eq (.ix (.var 5) (.lit (.int 0))) (.lit (.str "inverse"))) (.cons (.ex (.meth .append (.var 4) (.cons (.call "_law_inverse" (.cons (.ix (.var 4) (.ix (.var 5) (.lit (.int 1)))) .nil)) .nil))) .nil) (.cons (.ifs (.cmp .Eq (.ix (.var 5) (.lit (.int 0))) (.lit (.str "times"))) (.cons (.ex (.meth .append (.var 4) (.cons (.call "_law_times" (.cons (.ix (.var 4) (.ix (.var 5) (.lit (.int 1)))) (.cons (.ix (.var 4) (.ix (.var 5) (.lit (.int 2)))) .nil))) .nil))) .nil) (.cons (.ifs (.cmp .Eq (.ix (.var 5) (.lit (.int 0))) (.lit (.str "conj"))) (.cons (.ex (.meth .append (.var 4) (.cons (.call "_law_conj" (.cons (.ix (.var 4) (.ix (.var 5) (.lit (.int 1)))) (.cons (.ix (.var 4) (.ix (.var 5) (.lit (.int 2)))) .nil))) .nil))) .nil) (.cons (.ex (.meth .append (.var 4) (.cons (.call "_law_comm" (.cons (.ix (.var 4) (.ix (.var 5) (.lit (.int 1)))) (.cons (.ix (.var 4) (.ix (.var 5) (.lit (.int 2)))) .nil))) .nil))) .nil)) .nil)) .nil)) .nil)) .nil)) .nil)) .nil)) (.cons (.ret (.var 4)) .nil)))
class H__law_values (T : Tb) : Prop where
  e : T "_law_values" = some ⟨4, 6, c__law_values⟩
theorem o__law_values {T : Tb} [H__law_values T] {k : Nat} {x0 x1 x2 x3 : D} {h : HS} : callD T (k + 1) "_law_values" [x0, x1, x2, x3] h = fin h.length (execB (callD T k) (.cons (.asg (.nm 4) (.lst .nil)) (.cons (.for_ (.nm 5) (.seq (.var 3)) (.cons (.ifs (.cmp .Eq (.ix (.var 5) (.lit (.int 0))) (.lit (.str "one"))) (.cons (.ex (.meth .append (.var 4) (.cons (.trg (.cons (.var 0) .nil)) .nil))) .nil) (.cons (.ifs (.cmp .Eq (.ix (.var 5) (.lit (.int 0))) (.lit (.str "gen"))) (.cons (.ex (.meth .append (.var 4) (.cons (.ix (.var 1) (.ix (.var 5) (.lit (.int 1)))) .nil))) .nil) (.cons (.ifs (.cmp .Eq (.ix (.var 5) (.lit (.int 0))) (.lit (.str "seed"))) (.cons (.ex (.meth .append (.var 4) (.cons (.ix (.var 2) (.ix (.var 5) (.lit (.int 1)))) .nil))) .nil) (.cons (.ifs (.cmp .Eq (.ix (.var 5) (.lit (.int 0))) (.lit (.str "inverse"))) (.cons (.ex (.meth .append (.var 4) (.cons (.call "_law_inverse" (.cons (.ix (.var 4) (.ix (.var 5) (.lit (.int 1)))) .nil)) .nil))) .nil) (.cons (.ifs (.cmp .Eq (.ix (.var 5) (.lit (.int 0))) (.lit (.str "times"))) (.cons (.ex (.meth .append (.var 4) (.cons (.call "_law_times" (.cons (.ix (.var 4) (.ix (.var 5) (.lit (.int 1)))) (.cons (.ix (.var 4) (.ix (.var 5) (.lit (.int 2)))) .nil))) .nil))) .nil) (.cons (.ifs (.cmp .Eq (.ix (.var 5) (.lit (.int 0))) (.lit (.str "conj"))) (.cons (.ex (.meth .append (.var 4) (.cons (.call "_law_conj" (.cons (.ix (.var 4) (.ix (.var 5) (.lit (.int 1)))) (.cons (.ix (.var 4) (.ix (.var 5) (.lit (.int 2)))) .nil))) .nil))) .nil) (.cons (.ex (.meth .append (.var 4) (.cons (.call "_law_comm" (.cons (.ix (.var 4) (.ix (.var 5) (.lit (.int 1)))) (.cons (.ix (.var 4) (.ix (.var 5) (.lit (.int 2)))) .nil))) .nil))) .nil)) .nil)) .nil)) .nil)) .nil)) .nil)) .nil)) (.cons (.ret (.var 4)) .nil))) [some x0, some x1, some x2, some x3, none, none] h) := callD_run (d := ⟨4, 6, c__law_values⟩) H__law_values.e rfl
def c__law_plain : CSs := (.cons (.ret (.lst (.cons (.lit (.str "one")) (.cons (.lit (.str "gen")) (.cons (.lit (.str "times")) (.cons (.lit (.str "inverse")) .nil)))))) .nil)
class H__law_plain (T : Tb) : Prop where
  e : T "_law_plain" = some ⟨0, 0, c__law_plain⟩
theorem o__law_plain {T : Tb} [H__law_plain T] {k : Nat} {h : HS} : callD T (k + 1) "_law_plain" [] h = fin h.length (execB (callD T k) (.cons (.ret (.lst (.cons (.lit (.str "one")) (.cons (.lit (.str "gen")) (.cons (.lit (.str "times")) (.cons (.lit (.str "inverse")) .nil)))))) .nil) [] h) := callD_run (d := ⟨0, 0, c__law_plain⟩) H__law_plain.e rfl
def c__law_is_perm : CSs := (.cons (.ifs (.or_ (.not_ (.val (.isi .tuple (.var 0)))) (.or_ (.cmp .NotEq (.bi .len (.cons (.var 0) .nil)) (.var 1)) (.val (.bi .any (.cons (.lc [2] (.nm 2) (.seq (.var 0)) .tru (.orv (.isi .bool (.var 2)) (.notv (.isi .int (.var 2))))) .nil))))) (.cons (.ret (.lit (.bl false))) .nil) .nil) (.cons (.ret (.cmp .Eq (.bi .sorted (.cons (.var 0) .nil)) (.lrg (.cons (.var 1) .nil)))) .nil))
class H__law_is_perm (T : Tb) : Prop where
  e : T "_law_is_perm" = some ⟨2, 3, c__law_is_perm⟩
theorem o__law_is_perm {T : Tb} [H__law_is_perm T] {k : Nat} {x0 x1 : D} {h : HS} : callD T (k + 1) "_law_is_perm" [x0, x1] h = fin h.length (execB (callD T k) (.cons (.ifs (.or_ (.not_ (.val (.isi .tuple (.var 0)))) (.or_ (.cmp .NotEq (.bi .len (.cons (.var 0) .nil)) (.var 1)) (.val (.bi .any (.cons (.lc [2] (.nm 2) (.seq (.var 0)) .tru (.orv (.isi .bool (.var 2)) (.notv (.isi .int (.var 2))))) .nil))))) (.cons (.ret (.lit (.bl false))) .nil) .nil) (.cons (.ret (.cmp .Eq (.bi .sorted (.cons (.var 0) .nil)) (.lrg (.cons (.var 1) .nil)))) .nil)) [some x0, some x1, none] h) := callD_run (d := ⟨2, 3, c__law_is_perm⟩) H__law_is_perm.e rfl
def c_times : CSs := (.cons (.ret (.bi .tuple (.cons (.lc [2] (.nm 2) (.seq (.var 0)) .tru (.ix (.var 1) (.var 2))) .nil))) .nil)
class H_times (T : Tb) : Prop where
  e : T "times" = some ⟨2, 3, c_times⟩
theorem o_times {T : Tb} [H_times T] {k : Nat} {x0 x1 : D} {h : HS} : callD T (k + 1) "times" [x0, x1] h = fin h.length (execB (callD T k) (.cons (.ret (.bi .tuple (.cons (.lc [2] (.nm 2) (.seq (.var 0)) .tru (.ix (.var 1) (.var 2))) .nil))) .nil) [some x0, some x1, none] h) := callD_run (d := ⟨2, 3, c_times⟩) H_times.e rfl
def c_inverse : CSs := (.cons (.asg (.nm 1) (.bin .Mult (.lst (.cons (.lit (.int 0)) .nil)) (.bi .len (.cons (.var 0) .nil)))) (.cons (.for_ (.tp [2, 3]) (.enum (.var 0)) (.cons (.asg (.sub (.var 1) (.var 3)) (.var 2)) .nil)) (.cons (.ret (.bi .tuple (.cons (.var 1) .nil))) .nil)))
class H_inverse (T : Tb) : Prop where
  e : T "inverse" = some ⟨1, 4, c_inverse⟩
theorem o_inverse {T : Tb} [H_inverse T] {k : Nat} {x0 : D} {h : HS} : callD T (k + 1) "inverse" [x0] h = fin h.length (execB (callD T k) (.cons (.asg (.nm 1) (.bin .Mult (.lst (.cons (.lit (.int 0)) .nil)) (.bi .len (.cons (.var 0) .nil)))) (.cons (.for_ (.tp [2, 3]) (.enum (.var 0)) (.cons (.asg (.sub (.var 1) (.var 3)) (.var 2)) .nil)) (.cons (.ret (.bi .tuple (.cons (.var 1) .nil))) .nil))) [some x0, none, none, none] h) := callD_run (d := ⟨1, 4, c_inverse⟩) H_inverse.e rfl
def c_conjugate : CSs := (.cons (.asg (.nm 2) (.bin .Mult (.lst (.cons (.lit (.int 0)) .nil)) (.bi .len (.cons (.var 0) .nil)))) (.cons (.for_ (.tp [3, 4]) (.enum (.var 0)) (.cons (.asg (.sub (.var 2) (.ix (.var 1) (.var 3))) (.ix (.var 1) (.var 4))) .nil)) (.cons (.ret (.bi .tuple (.cons (.var 2) .nil))) .nil)))
class H_conjugate (T : Tb) : Prop where
  e : T "conjugate" = some ⟨2, 5, c_conjugate⟩
theorem o_conjugate {T : Tb} [H_conjugate T] {k : Nat} {x0 x1 : D} {h : HS} : callD T (k + 1) "conjugate" [x0, x1] h = fin h.length (execB (callD T k) (.cons (.asg (.nm 2) (.bin .Mult (.lst (.cons (.lit (.int 0)) .nil)) (.bi .len (.cons (.var 0) .nil)))) (.cons (.for_ (.tp [3, 4]) (.enum (.var 0)) (.cons (.asg (.sub (.var 2) (.ix (.var 1) (.var 3))) (.ix (.var 1) (.var 4))) .nil)) (.cons (.ret (.bi .tuple (.cons (.var 2) .nil))) .nil))) [some x0, some x1, none, none, none] h) := callD_run (d := ⟨2, 5, c_conjugate⟩) H_conjugate.e rfl
def c_commutator : CSs := (.cons (.ret (.call "times" (.cons (.call "inverse" (.cons (.call "times" (.cons (.var 1) (.cons (.var 0) .nil))) .nil)) (.cons (.call "times" (.cons (.var 0) (.cons (.var 1) .nil))) .nil)))) .nil)
class H_commutator (T : Tb) : Prop where
  e : T "commutator" = some ⟨2, 2, c_commutator⟩
theorem o_commutator {T : Tb} [H_commutator T] {k : Nat} {x0 x1 : D} {h : HS} : callD T (k + 1) "commutator" [x0, x1] h = fin h.length (execB (callD T k) (.cons (.ret (.call "times" (.cons (.call "inverse" (.cons (.call "times" (.cons (.var 1) (.cons (.var 0) .nil))) .nil)) (.cons (.call "times" (.cons (.var 0) (.cons (.var 1) .nil))) .nil)))) .nil) [some x0, some x1] h) := callD_run (d := ⟨2, 2, c_commutator⟩) H_commutator.e rfl
def c_identity : CSs := (.cons (.ret (.trg (.cons (.var 0) .nil))) .nil)
class H_identity (T : Tb) : Prop where
  e : T "identity" = some ⟨1, 1, c_identity⟩
theorem o_identity {T : Tb} [H_identity T] {k : Nat} {x0 : D} {h : HS} : callD T (k + 1) "identity" [x0] h = fin h.length (execB (callD T k) (.cons (.ret (.trg (.cons (.var 0) .nil))) .nil) [some x0] h) := callD_run (d := ⟨1, 1, c_identity⟩) H_identity.e rfl
def c_is_integer : CSs := (.cons (.ret (.andv (.isi .int (.var 0)) (.notv (.isi .bool (.var 0))))) .nil)
class H_is_integer (T : Tb) : Prop where
  e : T "is_integer" = some ⟨1, 1, c_is_integer⟩
theorem o_is_integer {T : Tb} [H_is_integer T] {k : Nat} {x0 : D} {h : HS} : callD T (k + 1) "is_integer" [x0] h = fin h.length (execB (callD T k) (.cons (.ret (.andv (.isi .int (.var 0)) (.notv (.isi .bool (.var 0))))) .nil) [some x0] h) := callD_run (d := ⟨1, 1, c_is_integer⟩) H_is_integer.e rfl
def c_is_perm : CSs := (.cons (.ifs (.or_ (.not_ (.val (.isi .tuple (.var 0)))) (.not_ (.chain .LtE .LtE (.lit (.int 1)) (.bi .len (.cons (.var 0) .nil)) (.lit (.int (16)))))) (.cons (.ret (.lit (.bl false))) .nil) .nil) (.cons (.ifs (.val (.bi .any (.cons (.lc [1] (.nm 1) (.seq (.var 0)) .tru (.notv (.call "is_integer" (.cons (.var 1) .nil)))) .nil))) (.cons (.ret (.lit (.bl false))) .nil) .nil) (.cons (.ret (.cmp .Eq (.bi .sorted (.cons (.var 0) .nil)) (.lrg (.cons (.bi .len (.cons (.var 0) .nil)) .nil)))) .nil)))
class H_is_perm (T : Tb) : Prop where
  e : T "is_perm" = some ⟨1, 2, c_is_perm⟩
theorem o_is_perm {T : Tb} [H_is_perm T] {k : Nat} {x0 : D} {h : HS} : callD T (k + 1) "is_perm" [x0] h = fin h.length (execB (callD T k) (.cons (.ifs (.or_ (.not_ (.val (.isi .tuple (.var 0)))) (.not_ (.chain .LtE .LtE (.lit (.int 1)) (.bi .len (.cons (.var 0) .nil)) (.lit (.int (16)))))) (.cons (.ret (.lit (.bl false))) .nil) .nil) (.cons (.ifs (.val (.bi .any (.cons (.lc [1] (.nm 1) (.seq (.var 0)) .tru (.notv (.call "is_integer" (.cons (.var 1) .nil)))) .nil))) (.cons (.ret (.lit (.bl false))) .nil) .nil) (.cons (.ret (.cmp .Eq (.bi .sorted (.cons (.var 0) .nil)) (.lrg (.cons (.bi .len (.cons (.var 0) .nil)) .nil)))) .nil))) [some x0, none] h) := callD_run (d := ⟨1, 2, c_is_perm⟩) H_is_perm.e rfl
def c_is_line : CSs := (.cons (.ifs (.or_ (.not_ (.val (.isi .tuple (.var 0)))) (.or_ (.cmp .Eq (.bi .len (.cons (.var 0) .nil)) (.lit (.int 0))) (.not_ (.val (.isi .str (.ix (.var 0) (.lit (.int 0)))))))) (.cons (.ret (.lit (.bl false))) .nil) .nil) (.cons (.ifs (.or_ (.cmp .NotIn (.ix (.var 0) (.lit (.int 0))) (.var 4)) (.cmp .NotEq (.bi .len (.cons (.var 0) .nil)) (.bin .Add (.lit (.int 1)) (.kix [("one", (.int (0))), ("gen", (.int (1))), ("seed", (.int (1))), ("inverse", (.int (1))), ("times", (.int (2))), ("conj", (.int (2))), ("comm", (.int (2)))] (.ix (.var 0) (.lit (.int 0))))))) (.cons (.ret (.lit (.bl false))) .nil) .nil) (.cons (.asg (.nm 5) (.meth .get (.dctL (.cons (.lit (.str "gen")) (.cons (.var 2) (.cons (.lit (.str "seed")) (.cons (.var 3) .nil))))) (.cons (.ix (.var 0) (.lit (.int 0))) (.cons (.var 1) .nil)))) (.cons (.ret (.bi .all (.cons (.lc [6] (.nm 6) (.seq (.slice (.var 0) (.so (.lit (.int 1))) .no)) .tru (.andv (.call "is_integer" (.cons (.var 6) .nil)) (.chain .LtE .Lt (.lit (.int 0)) (.var 6) (.var 5)))) .nil))) .nil))))
class H_is_line (T : Tb) : Prop where
  e : T "is_line" = some ⟨5, 7, c_is_line⟩
theorem o_is_line {T : Tb} [H_is_line T] {k : Nat} {x0 x1 x2 x3 x4 : D} {h : HS} : callD T (k + 1) "is_line" [x0, x1, x2, x3, x4] h = fin h.length (execB (callD T k) (.cons (.ifs (.or_ (.not_ (.val (.isi .tuple (.var 0)))) (.or_ (.cmp .Eq (.bi .len (.cons (.var 0) .nil)) (.lit (.int 0))) (.not_ (.val (.isi .str (.ix (.var 0) (.lit (.int 0)))))))) (.cons (.ret (.lit (.bl false))) .nil) .nil) (.cons (.ifs (.or_ (.cmp .NotIn (.ix (.var 0) (.lit (.int 0))) (.var 4)) (.cmp .NotEq (.bi .len (.cons (.var 0) .nil)) (.bin .Add (.lit (.int 1)) (.kix [("one", (.int (0))), ("gen", (.int (1))), ("seed", (.int (1))), ("inverse", (.int (1))), ("times", (.int (2))), ("conj", (.int (2))), ("comm", (.int (2)))] (.ix (.var 0) (.lit (.int 0))))))) (.cons (.ret (.lit (.bl false))) .nil) .nil) (.cons (.asg (.nm 5) (.meth .get (.dctL (.cons (.lit (.str "gen")) (.cons (.var 2) (.cons (.lit (.str "seed")) (.cons (.var 3) .nil))))) (.cons (.ix (.var 0) (.lit (.int 0))) (.cons (.var 1) .nil)))) (.cons (.ret (.bi .all (.cons (.lc [6] (.nm 6) (.seq (.slice (.var 0) (.so (.lit (.int 1))) .no)) .tru (.andv (.call "is_integer" (.cons (.var 6) .nil)) (.chain .LtE .Lt (.lit (.int 0)) (.var 6) (.var 5)))) .nil))) .nil)))) [some x0, some x1, some x2, some x3, some x4, none, none] h) := callD_run (d := ⟨5, 7, c_is_line⟩) H_is_line.e rfl
def c_is_lines : CSs := (.cons (.ifs (.or_ (.not_ (.val (.isi .tuple (.var 0)))) (.not_ (.chain .LtE .LtE (.lit (.int 1)) (.bi .len (.cons (.var 0) .nil)) (.lit (.int (3000)))))) (.cons (.ret (.lit (.bl false))) .nil) .nil) (.cons (.ret (.bi .all (.cons (.lc [4, 5] (.tp [4, 5]) (.enum (.var 0)) .tru (.call "is_line" (.cons (.var 5) (.cons (.var 4) (.cons (.var 1) (.cons (.var 2) (.cons (.var 3) .nil))))))) .nil))) .nil))
class H_is_lines (T : Tb) : Prop where
  e : T "is_lines" = some ⟨4, 6, c_is_lines⟩
theorem o_is_lines {T : Tb} [H_is_lines T] {k : Nat} {x0 x1 x2 x3 : D} {h : HS} : callD T (k + 1) "is_lines" [x0, x1, x2, x3] h = fin h.length (execB (callD T k) (.cons (.ifs (.or_ (.not_ (.val (.isi .tuple (.var 0)))) (.not_ (.chain .LtE .LtE (.lit (.int 1)) (.bi .len (.cons (.var 0) .nil)) (.lit (.int (3000)))))) (.cons (.ret (.lit (.bl false))) .nil) .nil) (.cons (.ret (.bi .all (.cons (.lc [4, 5] (.tp [4, 5]) (.enum (.var 0)) .tru (.call "is_line" (.cons (.var 5) (.cons (.var 4) (.cons (.var 1) (.cons (.var 2) (.cons (.var 3) .nil))))))) .nil))) .nil)) [some x0, some x1, some x2, some x3, none, none] h) := callD_run (d := ⟨4, 6, c_is_lines⟩) H_is_lines.e rfl
def c_values_of : CSs := (.cons (.asg (.nm 3) (.lst .nil)) (.cons (.for_ (.nm 4) (.seq (.var 2)) (.cons (.asg (.nm 5) (.ix (.var 4) (.lit (.int 0)))) (.cons (.ifs (.cmp .Eq (.var 5) (.lit (.str "one"))) (.cons (.ex (.meth .append (.var 3) (.cons (.call "identity" (.cons (.ix (.var 0) (.lit (.int 0))) .nil)) .nil))) .nil) (.cons (.ifs (.cmp .Eq (.var 5) (.lit (.str "gen"))) (.cons (.ex (.meth .append (.var 3) (.cons (.ix (.ix (.var 0) (.lit (.int 1))) (.ix (.var 4) (.lit (.int 1)))) .nil))) .nil) (.cons (.ifs (.cmp .Eq (.var 5) (.lit (.str "seed"))) (.cons (.ex (.meth .append (.var 3) (.cons (.ix (.var 1) (.ix (.var 4) (.lit (.int 1)))) .nil))) .nil) (.cons (.ifs (.cmp .Eq (.var 5) (.lit (.str "inverse"))) (.cons (.ex (.meth .append (.var 3) (.cons (.call "inverse" (.cons (.ix (.var 3) (.ix (.var 4) (.lit (.int 1)))) .nil)) .nil))) .nil) (.cons (.par [6, 7] (.cons (.ix (.var 3) (.ix (.var 4) (.lit (.int 1)))) (.cons (.ix (.var 3) (.ix (.var 4) (.lit (.int 2)))) .nil))) (.cons (.ifs (.cmp .Eq (.var 5) (.lit (.str "conj"))) (.cons (.asg (.nm 6) (.call "times" (.cons (.call "inverse" (.cons (.var 7) .nil)) (.cons (.var 6) .nil)))) .nil) (.cons (.ifs (.cmp .Eq (.var 5) (.lit (.str "comm"))) (.cons (.asg (.nm 6) (.call "times" (.cons (.call "inverse" (.cons (.call "times" (.cons (.var 7) (.cons (.var 6) .nil))) .nil)) (.cons (.var 6) .nil)))) .nil) .nil) .nil)) (.cons (.ex (.meth .append (.var 3) (.cons (.call "times" (.cons (.var 6) (.cons (.var 7) .nil))) .nil))) .nil)))) .nil)) .nil)) .nil)) .nil))) (.cons (.ret (.var 3)) .nil)))
class H_values_of (T : Tb) : Prop where
  e : T "values_of" = some ⟨3, 8, c_values_of⟩
theorem o_values_of {T : Tb} [H_values_of T] {k : Nat} {x0 x1 x2 : D} {h : HS} : callD T (k + 1) "values_of" [x0, x1, x2] h = fin h.length (execB (callD T k) (.cons (.asg (.nm 3) (.lst .nil)) (.cons (.for_ (.nm 4) (.seq (.var 2)) (.cons (.asg (.nm 5) (.ix (.var 4) (.lit (.int 0)))) (.cons (.ifs (.cmp .Eq (.var 5) (.lit (.str "one"))) (.cons (.ex (.meth .append (.var 3) (.cons (.call "identity" (.cons (.ix (.var 0) (.lit (.int 0))) .nil)) .nil))) .nil) (.cons (.ifs (.cmp .Eq (.var 5) (.lit (.str "gen"))) (.cons (.ex (.meth .append (.var 3) (.cons (.ix (.ix (.var 0) (.lit (.int 1))) (.ix (.var 4) (.lit (.int 1)))) .nil))) .nil) (.cons (.ifs (.cmp .Eq (.var 5) (.lit (.str "seed"))) (.cons (.ex (.meth .append (.var 3) (.cons (.ix (.var 1) (.ix (.var 4) (.lit (.int 1)))) .nil))) .nil) (.cons (.ifs (.cmp .Eq (.var 5) (.lit (.str "inverse"))) (.cons (.ex (.meth .append (.var 3) (.cons (.call "inverse" (.cons (.ix (.var 3) (.ix (.var 4) (.lit (.int 1)))) .nil)) .nil))) .nil) (.cons (.par [6, 7] (.cons (.ix (.var 3) (.ix (.var 4) (.lit (.int 1)))) (.cons (.ix (.var 3) (.ix (.var 4) (.lit (.int 2)))) .nil))) (.cons (.ifs (.cmp .Eq (.var 5) (.lit (.str "conj"))) (.cons (.asg (.nm 6) (.call "times" (.cons (.call "inverse" (.cons (.var 7) .nil)) (.cons (.var 6) .nil)))) .nil) (.cons (.ifs (.cmp .Eq (.var 5) (.lit (.str "comm"))) (.cons (.asg (.nm 6) (.call "times" (.cons (.call "inverse" (.cons (.call "times" (.cons (.var 7) (.cons (.var 6) .nil))) .nil)) (.cons (.var 6) .nil)))) .nil) .nil) .nil)) (.cons (.ex (.meth .append (.var 3) (.cons (.call "times" (.cons (.var 6) (.cons (.var 7) .nil))) .nil))) .nil)))) .nil)) .nil)) .nil)) .nil))) (.cons (.ret (.var 3)) .nil))) [some x0, some x1, some x2, none, none, none, none, none] h) := callD_run (d := ⟨3, 8, c_values_of⟩) H_values_of.e rfl
def c__law_marks : CSs := (.cons (.asg (.nm 1) (.lst .nil)) (.cons (.for_ (.nm 2) (.seq (.var 0)) (.cons (.ifs (.cmp .Eq (.ix (.var 2) (.lit (.int 0))) (.lit (.str "gen"))) (.cons (.ex (.meth .append (.var 1) (.cons (.lit (.bl false)) .nil))) .nil) (.cons (.ifs (.cmp .In (.ix (.var 2) (.lit (.int 0))) (.lst (.cons (.lit (.str "one")) (.cons (.lit (.str "seed")) (.cons (.lit (.str "comm")) .nil))))) (.cons (.ex (.meth .append (.var 1) (.cons (.lit (.bl true)) .nil))) .nil) (.cons (.ifs (.cmp .Eq (.ix (.var 2) (.lit (.int 0))) (.lit (.str "times"))) (.cons (.ex (.meth .append (.var 1) (.cons (.andv (.ix (.var 1) (.ix (.var 2) (.lit (.int 1)))) (.ix (.var 1) (.ix (.var 2) (.lit (.int 2))))) .nil))) .nil) (.cons (.ex (.meth .append (.var 1) (.cons (.ix (.var 1) (.ix (.var 2) (.lit (.int 1)))) .nil))) .nil)) .nil)) .nil)) .nil)) (.cons (.ret (.var 1)) .nil)))
class H__law_marks (T : Tb) : Prop where
  e : T "_law_marks" = some ⟨1, 3, c__law_marks⟩
theorem o__law_marks {T : Tb} [H__law_marks T] {k : Nat} {x0 : D} {h : HS} : callD T (k + 1) "_law_marks" [x0] h = fin h.length (execB (callD T k) (.cons (.asg (.nm 1) (.lst .nil)) (.cons (.for_ (.nm 2) (.seq (.var 0)) (.cons (.ifs (.cmp .Eq (.ix (.var 2) (.lit (.int 0))) (.lit (.str "gen"))) (.cons (.ex (.meth .append (.var 1) (.cons (.lit (.bl false)) .nil))) .nil) (.cons (.ifs (.cmp .In (.ix (.var 2) (.lit (.int 0))) (.lst (.cons (.lit (.str "one")) (.cons (.lit (.str "seed")) (.cons (.lit (.str "comm")) .nil))))) (.cons (.ex (.meth .append (.var 1) (.cons (.lit (.bl true)) .nil))) .nil) (.cons (.ifs (.cmp .Eq (.ix (.var 2) (.lit (.int 0))) (.lit (.str "times"))) (.cons (.ex (.meth .append (.var 1) (.cons (.andv (.ix (.var 1) (.ix (.var 2) (.lit (.int 1)))) (.ix (.var 1) (.ix (.var 2) (.lit (.int 2))))) .nil))) .nil) (.cons (.ex (.meth .append (.var 1) (.cons (.ix (.var 1) (.ix (.var 2) (.lit (.int 1)))) .nil))) .nil)) .nil)) .nil)) .nil)) (.cons (.ret (.var 1)) .nil))) [some x0, none, none] h) := callD_run (d := ⟨1, 3, c__law_marks⟩) H__law_marks.e rfl
def c__law_marked : CSs := (.cons (.ifs (.or_ (.not_ (.val (.call "_law_lines_form" (.cons (.var 4) (.cons (.bi .len (.cons (.ix (.var 0) (.lit (.int 1))) .nil)) (.cons (.bi .len (.cons (.var 1) .nil)) (.cons (.var 2) .nil))))))) (.not_ (.val (.ix (.call "_law_marks" (.cons (.var 4) .nil)) (.neg (.lit (.int 1))))))) (.cons (.ret (.lit (.bl false))) .nil) .nil) (.cons (.ret (.cmp .Eq (.ix (.call "_law_values" (.cons (.ix (.var 0) (.lit (.int 0))) (.cons (.ix (.var 0) (.lit (.int 1))) (.cons (.var 1) (.cons (.var 4) .nil))))) (.neg (.lit (.int 1)))) (.var 3))) .nil))
class H__law_marked (T : Tb) : Prop where
  e : T "_law_marked" = some ⟨5, 5, c__law_marked⟩
theorem o__law_marked {T : Tb} [H__law_marked T] {k : Nat} {x0 x1 x2 x3 x4 : D} {h : HS} : callD T (k + 1) "_law_marked" [x0, x1, x2, x3, x4] h = fin h.length (execB (callD T k) (.cons (.ifs (.or_ (.not_ (.val (.call "_law_lines_form" (.cons (.var 4) (.cons (.bi .len (.cons (.ix (.var 0) (.lit (.int 1))) .nil)) (.cons (.bi .len (.cons (.var 1) .nil)) (.cons (.var 2) .nil))))))) (.not_ (.val (.ix (.call "_law_marks" (.cons (.var 4) .nil)) (.neg (.lit (.int 1))))))) (.cons (.ret (.lit (.bl false))) .nil) .nil) (.cons (.ret (.cmp .Eq (.ix (.call "_law_values" (.cons (.ix (.var 0) (.lit (.int 0))) (.cons (.ix (.var 0) (.lit (.int 1))) (.cons (.var 1) (.cons (.var 4) .nil))))) (.neg (.lit (.int 1)))) (.var 3))) .nil)) [some x0, some x1, some x2, some x3, some x4] h) := callD_run (d := ⟨5, 5, c__law_marked⟩) H__law_marked.e rfl
def c_marks_of : CSs := (.cons (.asg (.nm 1) (.lst .nil)) (.cons (.for_ (.nm 2) (.seq (.var 0)) (.cons (.asg (.nm 3) (.ix (.var 2) (.lit (.int 0)))) (.cons (.ifs (.cmp .In (.var 3) (.tup (.cons (.lit (.str "one")) (.cons (.lit (.str "seed")) (.cons (.lit (.str "comm")) .nil))))) (.cons (.ex (.meth .append (.var 1) (.cons (.lit (.bl true)) .nil))) .nil) (.cons (.ifs (.cmp .Eq (.var 3) (.lit (.str "gen"))) (.cons (.ex (.meth .append (.var 1) (.cons (.lit (.bl false)) .nil))) .nil) (.cons (.ifs (.cmp .Eq (.var 3) (.lit (.str "times"))) (.cons (.ex (.meth .append (.var 1) (.cons (.andv (.ix (.var 1) (.ix (.var 2) (.lit (.int 1)))) (.ix (.var 1) (.ix (.var 2) (.lit (.int 2))))) .nil))) .nil) (.cons (.ex (.meth .append (.var 1) (.cons (.ix (.var 1) (.ix (.var 2) (.lit (.int 1)))) .nil))) .nil)) .nil)) .nil)) .nil))) (.cons (.ret (.var 1)) .nil)))
class H_marks_of (T : Tb) : Prop where
  e : T "marks_of" = some ⟨1, 4, c_marks_of⟩
theorem o_marks_of {T : Tb} [H_marks_of T] {k : Nat} {x0 : D} {h : HS} : callD T (k + 1) "marks_of" [x0] h = fin h.length (execB (callD T k) (.cons (.asg (.nm 1) (.lst .nil)) (.cons (.for_ (.nm 2) (.seq (.var 0)) (.cons (.asg (.nm 3) (.ix (.var 2) (.lit (.int 0)))) (.cons (.ifs (.cmp .In (.var 3) (.tup (.cons (.lit (.str "one")) (.cons (.lit (.str "seed")) (.cons (.lit (.str "comm")) .nil))))) (.cons (.ex (.meth .append (.var 1) (.cons (.lit (.bl true)) .nil))) .nil) (.cons (.ifs (.cmp .Eq (.var 3) (.lit (.str "gen"))) (.cons (.ex (.meth .append (.var 1) (.cons (.lit (.bl false)) .nil))) .nil) (.cons (.ifs (.cmp .Eq (.var 3) (.lit (.str "times"))) (.cons (.ex (.meth .append (.var 1) (.cons (.andv (.ix (.var 1) (.ix (.var 2) (.lit (.int 1)))) (.ix (.var 1) (.ix (.var 2) (.lit (.int 2))))) .nil))) .nil) (.cons (.ex (.meth .append (.var 1) (.cons (.ix (.var 1) (.ix (.var 2) (.lit (.int 1)))) .nil))) .nil)) .nil)) .nil)) .nil))) (.cons (.ret (.var 1)) .nil))) [some x0, none, none, none] h) := callD_run (d := ⟨1, 4, c_marks_of⟩) H_marks_of.e rfl
def c_takes_marked : CSs := (.cons (.ifs (.not_ (.val (.call "is_lines" (.cons (.var 4) (.cons (.bi .len (.cons (.ix (.var 0) (.lit (.int 1))) .nil)) (.cons (.bi .len (.cons (.var 1) .nil)) (.cons (.var 2) .nil))))))) (.cons (.ret (.lit (.bl false))) .nil) .nil) (.cons (.ret (.andv (.ix (.call "marks_of" (.cons (.var 4) .nil)) (.neg (.lit (.int 1)))) (.cmp .Eq (.ix (.call "values_of" (.cons (.var 0) (.cons (.var 1) (.cons (.var 4) .nil)))) (.neg (.lit (.int 1)))) (.var 3)))) .nil))
class H_takes_marked (T : Tb) : Prop where
  e : T "takes_marked" = some ⟨5, 5, c_takes_marked⟩
theorem o_takes_marked {T : Tb} [H_takes_marked T] {k : Nat} {x0 x1 x2 x3 x4 : D} {h : HS} : callD T (k + 1) "takes_marked" [x0, x1, x2, x3, x4] h = fin h.length (execB (callD T k) (.cons (.ifs (.not_ (.val (.call "is_lines" (.cons (.var 4) (.cons (.bi .len (.cons (.ix (.var 0) (.lit (.int 1))) .nil)) (.cons (.bi .len (.cons (.var 1) .nil)) (.cons (.var 2) .nil))))))) (.cons (.ret (.lit (.bl false))) .nil) .nil) (.cons (.ret (.andv (.ix (.call "marks_of" (.cons (.var 4) .nil)) (.neg (.lit (.int 1)))) (.cmp .Eq (.ix (.call "values_of" (.cons (.var 0) (.cons (.var 1) (.cons (.var 4) .nil)))) (.neg (.lit (.int 1)))) (.var 3)))) .nil)) [some x0, some x1, some x2, some x3, some x4] h) := callD_run (d := ⟨5, 5, c_takes_marked⟩) H_takes_marked.e rfl
def c_takes_normal_product : CSs := (.cons (.ret (.call "takes_marked" (.cons (.var 0) (.cons (.tup (.cons (.var 1) .nil)) (.cons (.lit (.kt [(.str "one"), (.str "gen"), (.str "seed"), (.str "times"), (.str "inverse"), (.str "conj")])) (.cons (.var 2) (.cons (.var 3) .nil))))))) .nil)
class H_takes_normal_product (T : Tb) : Prop where
  e : T "takes_normal_product" = some ⟨4, 4, c_takes_normal_product⟩
theorem o_takes_normal_product {T : Tb} [H_takes_normal_product T] {k : Nat} {x0 x1 x2 x3 : D} {h : HS} : callD T (k + 1) "takes_normal_product" [x0, x1, x2, x3] h = fin h.length (execB (callD T k) (.cons (.ret (.call "takes_marked" (.cons (.var 0) (.cons (.tup (.cons (.var 1) .nil)) (.cons (.lit (.kt [(.str "one"), (.str "gen"), (.str "seed"), (.str "times"), (.str "inverse"), (.str "conj")])) (.cons (.var 2) (.cons (.var 3) .nil))))))) .nil) [some x0, some x1, some x2, some x3] h) := callD_run (d := ⟨4, 4, c_takes_normal_product⟩) H_takes_normal_product.e rfl
def c_takes_commutators : CSs := (.cons (.ret (.call "takes_marked" (.cons (.var 0) (.cons (.tup .nil) (.cons (.lit (.kt [(.str "one"), (.str "gen"), (.str "times"), (.str "inverse"), (.str "conj"), (.str "comm")])) (.cons (.var 1) (.cons (.var 2) .nil))))))) .nil)
class H_takes_commutators (T : Tb) : Prop where
  e : T "takes_commutators" = some ⟨3, 3, c_takes_commutators⟩
theorem o_takes_commutators {T : Tb} [H_takes_commutators T] {k : Nat} {x0 x1 x2 : D} {h : HS} : callD T (k + 1) "takes_commutators" [x0, x1, x2] h = fin h.length (execB (callD T k) (.cons (.ret (.call "takes_marked" (.cons (.var 0) (.cons (.tup .nil) (.cons (.lit (.kt [(.str "one"), (.str "gen"), (.str "times"), (.str "inverse"), (.str "conj"), (.str "comm")])) (.cons (.var 1) (.cons (.var 2) .nil))))))) .nil) [some x0, some x1, some x2] h) := callD_run (d := ⟨3, 3, c_takes_commutators⟩) H_takes_commutators.e rfl
end Mi

namespace Mi
open PySem
def c_letter_value : CSs := (.cons (.asg (.nm 2) (.ix (.ix (.var 0) (.lit (.int 1))) (.bin .Sub (.bi .abs (.cons (.var 1) .nil)) (.lit (.int 1))))) (.cons (.ret (.ife (.cmp .Gt (.var 1) (.lit (.int 0))) (.var 2) (.call "inverse" (.cons (.var 2) .nil)))) .nil))
class H_letter_value (T : Tb) : Prop where
  e : T "letter_value" = some ⟨2, 3, c_letter_value⟩
theorem o_letter_value {T : Tb} [H_letter_value T] {k : Nat} {x0 x1 : D} {h : HS} : callD T (k + 1) "letter_value" [x0, x1] h = fin h.length (execB (callD T k) (.cons (.asg (.nm 2) (.ix (.ix (.var 0) (.lit (.int 1))) (.bin .Sub (.bi .abs (.cons (.var 1) .nil)) (.lit (.int 1))))) (.cons (.ret (.ife (.cmp .Gt (.var 1) (.lit (.int 0))) (.var 2) (.call "inverse" (.cons (.var 2) .nil)))) .nil)) [some x0, some x1, none] h) := callD_run (d := ⟨2, 3, c_letter_value⟩) H_letter_value.e rfl
def c_value_of_word : CSs := (.cons (.asg (.nm 2) (.call "identity" (.cons (.ix (.var 0) (.lit (.int 0))) .nil))) (.cons (.for_ (.nm 3) (.seq (.var 1)) (.cons (.ifs (.or_ (.cmp .Eq (.var 3) (.lit (.int 0))) (.cmp .Gt (.bi .abs (.cons (.var 3) .nil)) (.bi .len (.cons (.ix (.var 0) (.lit (.int 1))) .nil)))) (.cons (.raise_ "WordError" [("code", .ar 0)] (.lit (.str "letter"))) .nil) .nil) (.cons (.asg (.nm 2) (.call "times" (.cons (.var 2) (.cons (.call "letter_value" (.cons (.var 0) (.cons (.var 3) .nil))) .nil)))) .nil))) (.cons (.ret (.var 2)) .nil)))
class H_value_of_word (T : Tb) : Prop where
  e : T "value_of_word" = some ⟨2, 4, c_value_of_word⟩
theorem o_value_of_word {T : Tb} [H_value_of_word T] {k : Nat} {x0 x1 : D} {h : HS} : callD T (k + 1) "value_of_word" [x0, x1] h = fin h.length (execB (callD T k) (.cons (.asg (.nm 2) (.call "identity" (.cons (.ix (.var 0) (.lit (.int 0))) .nil))) (.cons (.for_ (.nm 3) (.seq (.var 1)) (.cons (.ifs (.or_ (.cmp .Eq (.var 3) (.lit (.int 0))) (.cmp .Gt (.bi .abs (.cons (.var 3) .nil)) (.bi .len (.cons (.ix (.var 0) (.lit (.int 1))) .nil)))) (.cons (.raise_ "WordError" [("code", .ar 0)] (.lit (.str "letter"))) .nil) .nil) (.cons (.asg (.nm 2) (.call "times" (.cons (.var 2) (.cons (.call "letter_value" (.cons (.var 0) (.cons (.var 3) .nil))) .nil)))) .nil))) (.cons (.ret (.var 2)) .nil))) [some x0, some x1, none, none] h) := callD_run (d := ⟨2, 4, c_value_of_word⟩) H_value_of_word.e rfl
def c_reduced : CSs := (.cons (.asg (.nm 1) (.lst .nil)) (.cons (.for_ (.nm 2) (.seq (.var 0)) (.cons (.ifs (.and_ (.val (.var 1)) (.cmp .Eq (.ix (.var 1) (.neg (.lit (.int 1)))) (.neg (.var 2)))) (.cons (.ex (.meth .pop (.var 1) .nil)) .nil) (.cons (.ex (.meth .append (.var 1) (.cons (.var 2) .nil))) .nil)) .nil)) (.cons (.ret (.bi .tuple (.cons (.var 1) .nil))) .nil)))
class H_reduced (T : Tb) : Prop where
  e : T "reduced" = some ⟨1, 3, c_reduced⟩
theorem o_reduced {T : Tb} [H_reduced T] {k : Nat} {x0 : D} {h : HS} : callD T (k + 1) "reduced" [x0] h = fin h.length (execB (callD T k) (.cons (.asg (.nm 1) (.lst .nil)) (.cons (.for_ (.nm 2) (.seq (.var 0)) (.cons (.ifs (.and_ (.val (.var 1)) (.cmp .Eq (.ix (.var 1) (.neg (.lit (.int 1)))) (.neg (.var 2)))) (.cons (.ex (.meth .pop (.var 1) .nil)) .nil) (.cons (.ex (.meth .append (.var 1) (.cons (.var 2) .nil))) .nil)) .nil)) (.cons (.ret (.bi .tuple (.cons (.var 1) .nil))) .nil))) [some x0, none, none] h) := callD_run (d := ⟨1, 3, c_reduced⟩) H_reduced.e rfl
def c_inverse_word : CSs := (.cons (.ret (.bi .tuple (.cons (.lc [1] (.nm 1) (.rev (.var 0)) .tru (.neg (.var 1))) .nil))) .nil)
class H_inverse_word (T : Tb) : Prop where
  e : T "inverse_word" = some ⟨1, 2, c_inverse_word⟩
theorem o_inverse_word {T : Tb} [H_inverse_word T] {k : Nat} {x0 : D} {h : HS} : callD T (k + 1) "inverse_word" [x0] h = fin h.length (execB (callD T k) (.cons (.ret (.bi .tuple (.cons (.lc [1] (.nm 1) (.rev (.var 0)) .tru (.neg (.var 1))) .nil))) .nil) [some x0, none] h) := callD_run (d := ⟨1, 2, c_inverse_word⟩) H_inverse_word.e rfl
def c_letters_of : CSs := (.cons (.asg (.nm 1) (.bi .len (.cons (.ix (.var 0) (.lit (.int 1))) .nil))) (.cons (.ret (.bin .Add (.lrg (.cons (.neg (.var 1)) (.cons (.lit (.int 0)) .nil))) (.lrg (.cons (.lit (.int 1)) (.cons (.bin .Add (.var 1) (.lit (.int 1))) .nil))))) .nil))
class H_letters_of (T : Tb) : Prop where
  e : T "letters_of" = some ⟨1, 2, c_letters_of⟩
theorem o_letters_of {T : Tb} [H_letters_of T] {k : Nat} {x0 : D} {h : HS} : callD T (k + 1) "letters_of" [x0] h = fin h.length (execB (callD T k) (.cons (.asg (.nm 1) (.bi .len (.cons (.ix (.var 0) (.lit (.int 1))) .nil))) (.cons (.ret (.bin .Add (.lrg (.cons (.neg (.var 1)) (.cons (.lit (.int 0)) .nil))) (.lrg (.cons (.lit (.int 1)) (.cons (.bin .Add (.var 1) (.lit (.int 1))) .nil))))) .nil)) [some x0, none] h) := callD_run (d := ⟨1, 2, c_letters_of⟩) H_letters_of.e rfl
def c_ways_from : CSs := (.cons (.asg (.nm 2) (.dctL (.cons (.var 1) (.cons (.tup .nil) .nil)))) (.cons (.asg (.nm 3) (.lst (.cons (.var 1) .nil))) (.cons (.asg (.nm 4) (.lc [7] (.nm 7) (.seq (.call "letters_of" (.cons (.var 0) .nil))) .tru (.tup (.cons (.var 7) (.cons (.call "letter_value" (.cons (.var 0) (.cons (.var 7) .nil))) .nil))))) (.cons (.asg (.nm 5) (.lit (.int 0))) (.cons (.while_ (.cmp .Lt (.var 5) (.bi .len (.cons (.var 3) .nil))) (.cons (.asg (.nm 6) (.ix (.var 3) (.var 5))) (.cons (.for_ (.tp [7, 8]) (.seq (.var 4)) (.cons (.ifs (.cmp .NotIn (.ix (.var 8) (.var 6)) (.var 2)) (.cons (.asg (.sub (.var 2) (.ix (.var 8) (.var 6))) (.bin .Add (.ix (.var 2) (.var 6)) (.tup (.cons (.var 7) .nil)))) (.cons (.ex (.meth .append (.var 3) (.cons (.ix (.var 8) (.var 6)) .nil))) .nil)) .nil) .nil)) (.cons (.aug 5 .Add (.lit (.int 1))) .nil)))) (.cons (.ret (.var 2)) .nil))))))
class H_ways_from (T : Tb) : Prop where
  e : T "ways_from" = some ⟨2, 9, c_ways_from⟩
theorem o_ways_from {T : Tb} [H_ways_from T] {k : Nat} {x0 x1 : D} {h : HS} : callD T (k + 1) "ways_from" [x0, x1] h = fin h.length (execB (callD T k) (.cons (.asg (.nm 2) (.dctL (.cons (.var 1) (.cons (.tup .nil) .nil)))) (.cons (.asg (.nm 3) (.lst (.cons (.var 1) .nil))) (.cons (.asg (.nm 4) (.lc [7] (.nm 7) (.seq (.call "letters_of" (.cons (.var 0) .nil))) .tru (.tup (.cons (.var 7) (.cons (.call "letter_value" (.cons (.var 0) (.cons (.var 7) .nil))) .nil))))) (.cons (.asg (.nm 5) (.lit (.int 0))) (.cons (.while_ (.cmp .Lt (.var 5) (.bi .len (.cons (.var 3) .nil))) (.cons (.asg (.nm 6) (.ix (.var 3) (.var 5))) (.cons (.for_ (.tp [7, 8]) (.seq (.var 4)) (.cons (.ifs (.cmp .NotIn (.ix (.var 8) (.var 6)) (.var 2)) (.cons (.asg (.sub (.var 2) (.ix (.var 8) (.var 6))) (.bin .Add (.ix (.var 2) (.var 6)) (.tup (.cons (.var 7) .nil)))) (.cons (.ex (.meth .append (.var 3) (.cons (.ix (.var 8) (.var 6)) .nil))) .nil)) .nil) .nil)) (.cons (.aug 5 .Add (.lit (.int 1))) .nil)))) (.cons (.ret (.var 2)) .nil)))))) [some x0, some x1, none, none, none, none, none, none, none] h) := callD_run (d := ⟨2, 9, c_ways_from⟩) H_ways_from.e rfl
def c_orbit : CSs := (.cons (.ret (.bi .tuple (.cons (.bi .sorted (.cons (.call "ways_from" (.cons (.var 0) (.cons (.var 1) .nil))) .nil)) .nil))) .nil)
class H_orbit (T : Tb) : Prop where
  e : T "orbit" = some ⟨2, 2, c_orbit⟩
theorem o_orbit {T : Tb} [H_orbit T] {k : Nat} {x0 x1 : D} {h : HS} : callD T (k + 1) "orbit" [x0, x1] h = fin h.length (execB (callD T k) (.cons (.ret (.bi .tuple (.cons (.bi .sorted (.cons (.call "ways_from" (.cons (.var 0) (.cons (.var 1) .nil))) .nil)) .nil))) .nil) [some x0, some x1] h) := callD_run (d := ⟨2, 2, c_orbit⟩) H_orbit.e rfl
def c_orbits : CSs := (.cons (.asg (.nm 1) (.lst .nil)) (.cons (.asg (.nm 2) .dct0) (.cons (.for_ (.nm 3) (.rng (.cons (.ix (.var 0) (.lit (.int 0))) .nil)) (.cons (.ifs (.cmp .NotIn (.var 3) (.var 2)) (.cons (.asg (.nm 4) (.call "orbit" (.cons (.var 0) (.cons (.var 3) .nil)))) (.cons (.ex (.meth .append (.var 1) (.cons (.var 4) .nil))) (.cons (.for_ (.nm 5) (.seq (.var 4)) (.cons (.asg (.sub (.var 2) (.var 5)) (.lit (.bl true))) .nil)) .nil))) .nil) .nil)) (.cons (.ret (.bi .tuple (.cons (.var 1) .nil))) .nil))))
class H_orbits (T : Tb) : Prop where
  e : T "orbits" = some ⟨1, 6, c_orbits⟩
theorem o_orbits {T : Tb} [H_orbits T] {k : Nat} {x0 : D} {h : HS} : callD T (k + 1) "orbits" [x0] h = fin h.length (execB (callD T k) (.cons (.asg (.nm 1) (.lst .nil)) (.cons (.asg (.nm 2) .dct0) (.cons (.for_ (.nm 3) (.rng (.cons (.ix (.var 0) (.lit (.int 0))) .nil)) (.cons (.ifs (.cmp .NotIn (.var 3) (.var 2)) (.cons (.asg (.nm 4) (.call "orbit" (.cons (.var 0) (.cons (.var 3) .nil)))) (.cons (.ex (.meth .append (.var 1) (.cons (.var 4) .nil))) (.cons (.for_ (.nm 5) (.seq (.var 4)) (.cons (.asg (.sub (.var 2) (.var 5)) (.lit (.bl true))) .nil)) .nil))) .nil) .nil)) (.cons (.ret (.bi .tuple (.cons (.var 1) .nil))) .nil)))) [some x0, none, none, none, none, none] h) := callD_run (d := ⟨1, 6, c_orbits⟩) H_orbits.e rfl
def c_is_transitive : CSs := (.cons (.ret (.cmp .Eq (.bi .len (.cons (.call "orbit" (.cons (.var 0) (.cons (.lit (.int 0)) .nil))) .nil)) (.ix (.var 0) (.lit (.int 0))))) .nil)
class H_is_transitive (T : Tb) : Prop where
  e : T "is_transitive" = some ⟨1, 1, c_is_transitive⟩
theorem o_is_transitive {T : Tb} [H_is_transitive T] {k : Nat} {x0 : D} {h : HS} : callD T (k + 1) "is_transitive" [x0] h = fin h.length (execB (callD T k) (.cons (.ret (.cmp .Eq (.bi .len (.cons (.call "orbit" (.cons (.var 0) (.cons (.lit (.int 0)) .nil))) .nil)) (.ix (.var 0) (.lit (.int 0))))) .nil) [some x0] h) := callD_run (d := ⟨1, 1, c_is_transitive⟩) H_is_transitive.e rfl
def c_is_kept : CSs := (.cons (.ret (.bi .all (.cons (.lc2 [2, 3] [3] (.nm 2) (.seq (.ix (.var 0) (.lit (.int 1)))) .tru (.nm 3) (.seq (.var 1)) .tru (.cmp .In (.ix (.var 2) (.var 3)) (.var 1))) .nil))) .nil)
class H_is_kept (T : Tb) : Prop where
  e : T "is_kept" = some ⟨2, 4, c_is_kept⟩
theorem o_is_kept {T : Tb} [H_is_kept T] {k : Nat} {x0 x1 : D} {h : HS} : callD T (k + 1) "is_kept" [x0, x1] h = fin h.length (execB (callD T k) (.cons (.ret (.bi .all (.cons (.lc2 [2, 3] [3] (.nm 2) (.seq (.ix (.var 0) (.lit (.int 1)))) .tru (.nm 3) (.seq (.var 1)) .tru (.cmp .In (.ix (.var 2) (.var 3)) (.var 1))) .nil))) .nil) [some x0, some x1, none, none] h) := callD_run (d := ⟨2, 4, c_is_kept⟩) H_is_kept.e rfl
def c__law_orbit : CSs := (.cons (.asg (.nm 2) (.lst (.cons (.var 1) .nil))) (.cons (.asg (.nm 3) (.lit (.int 0))) (.cons (.while_ (.cmp .Lt (.var 3) (.bi .len (.cons (.var 2) .nil))) (.cons (.ex (.meth .extend (.var 2) (.cons (.lc [4] (.nm 4) (.seq (.sset (.lc [5] (.nm 5) (.seq (.var 0)) .tru (.ix (.var 5) (.ix (.var 2) (.var 3)))))) (.cmp .NotIn (.var 4) (.var 2)) (.var 4)) .nil))) (.cons (.asg (.nm 3) (.bin .Add (.var 3) (.lit (.int 1)))) .nil))) (.cons (.ret (.bi .tuple (.cons (.bi .sorted (.cons (.var 2) .nil)) .nil))) .nil))))
class H__law_orbit (T : Tb) : Prop where
  e : T "_law_orbit" = some ⟨2, 6, c__law_orbit⟩
theorem o__law_orbit {T : Tb} [H__law_orbit T] {k : Nat} {x0 x1 : D} {h : HS} : callD T (k + 1) "_law_orbit" [x0, x1] h = fin h.length (execB (callD T k) (.cons (.asg (.nm 2) (.lst (.cons (.var 1) .nil))) (.cons (.asg (.nm 3) (.lit (.int 0))) (.cons (.while_ (.cmp .Lt (.var 3) (.bi .len (.cons (.var 2) .nil))) (.cons (.ex (.meth .extend (.var 2) (.cons (.lc [4] (.nm 4) (.seq (.sset (.lc [5] (.nm 5) (.seq (.var 0)) .tru (.ix (.var 5) (.ix (.var 2) (.var 3)))))) (.cmp .NotIn (.var 4) (.var 2)) (.var 4)) .nil))) (.cons (.asg (.nm 3) (.bin .Add (.var 3) (.lit (.int 1)))) .nil))) (.cons (.ret (.bi .tuple (.cons (.bi .sorted (.cons (.var 2) .nil)) .nil))) .nil)))) [some x0, some x1, none, none, none, none] h) := callD_run (d := ⟨2, 6, c__law_orbit⟩) H__law_orbit.e rfl
def c__law_kept : CSs := (.cons (.ret (.bi .all (.cons (.lc [2] (.nm 2) (.seq (.var 0)) .tru (.bi .all (.cons (.lc [3] (.nm 3) (.seq (.var 1)) .tru (.cmp .In (.ix (.var 2) (.var 3)) (.var 1))) .nil))) .nil))) .nil)
class H__law_kept (T : Tb) : Prop where
  e : T "_law_kept" = some ⟨2, 4, c__law_kept⟩
theorem o__law_kept {T : Tb} [H__law_kept T] {k : Nat} {x0 x1 : D} {h : HS} : callD T (k + 1) "_law_kept" [x0, x1] h = fin h.length (execB (callD T k) (.cons (.ret (.bi .all (.cons (.lc [2] (.nm 2) (.seq (.var 0)) .tru (.bi .all (.cons (.lc [3] (.nm 3) (.seq (.var 1)) .tru (.cmp .In (.ix (.var 2) (.var 3)) (.var 1))) .nil))) .nil))) .nil) [some x0, some x1, none, none] h) := callD_run (d := ⟨2, 4, c__law_kept⟩) H__law_kept.e rfl
end Mi

/-! MAC -/
open Mi PySem
local macro_rules | `(tactic| walk_at "ms") => `(tactic| refine mp_id ?_ <;> first
  | assumption
  | exact kOk2 | exact kOk4
  | (simp only [allLt_nil, allLt_cons, Nat.reduceLT, decide_true, wipe_len, rowW_len, Wl_len, List.length_cons, List.length_nil, List.length_map, List.length_range, List.length_set, List.length_append, List.length_replicate, List.length_eraseIdx, List.length_drop, List.length_take, lo_lst, lo_dct, los_nil, los_cons, los_app, lo_int, lo_bl, lo_str, lo_non, lo_tup, lo_kt, lo_ref, lo_P, los_mapdN, los_mapP, los_mapI, los_mapf, los_repN, isRef_int, isRef_bl, isRef_str, isRef_tup, isRef_P, isRef_non, Bool.and_true, Bool.true_and, Bool.and_self, List.all_cons, List.all_nil, decide_eq_true_eq, Nat.zero_add, Nat.reduceAdd, Nat.add_zero, List.take_succ_cons, List.take_zero, List.take_nil, List.drop_succ_cons, List.drop_zero, List.append_nil] <;> first | done | assumption | (have lim := LIM_v; omega))
  | (have lim := LIM_v; omega)
  | (simp only [List.take_succ_cons, List.take_zero, List.take_nil, List.drop_succ_cons, List.drop_zero]; assumption)
  | (refine WF.appl (by assumption) ?_; simp only [List.take_succ_cons, List.take_zero, List.take_nil, List.drop_succ_cons, List.drop_zero, List.all_cons, List.all_nil, lo_lst, lo_dct, los_nil, los_cons, los_app, lo_int, lo_bl, lo_str, lo_non, lo_tup, lo_kt, lo_ref, lo_P, los_mapdN, los_mapP, los_mapI, los_mapf, los_repN, Bool.and_true, Bool.true_and, Bool.and_self, List.length_cons, List.length_nil, Nat.zero_add, Nat.reduceAdd, decide_eq_true_eq] <;> first | done | assumption | omega)
  | (refine WFr.app (by assumption) ?_; simp only [List.take_succ_cons, List.take_zero, List.take_nil, List.drop_succ_cons, List.drop_zero, List.all_cons, List.all_nil, lo_lst, lo_dct, los_nil, los_cons, los_app, lo_int, lo_bl, lo_str, lo_non, lo_tup, lo_kt, lo_ref, lo_P, los_mapdN, los_mapP, los_mapI, los_mapf, los_repN, Bool.and_true, Bool.true_and, Bool.and_self, List.length_cons, List.length_nil, Nat.zero_add, Nat.reduceAdd, decide_eq_true_eq] <;> first | done | assumption | omega))
local macro_rules | `(tactic| simp_arith [$xs,*]) => `(tactic| simp (disch := walk_at "ms") only [
  e_var, getV0, getVs, e_litI, e_litB, e_litS, e_litN, e_litK, e_bin, kBin_, kOp_, e_neg, kNeg_, e_cmp, kCmp_, kCmp2_, e_chain, kCh_, kCh2_, kCh3_, e_and, kAnd_t, kAnd_f, e_or, kOr_t, kOr_f, e_not, kNot_, e_ife, kIfe_t, kIfe_f, e_tup, e_lst, e_dct0, e_ix, kIx_, kIx2_, e_slice, kSl_, kSl2_, kSl3_, e_rev, kRev_t, kRev_P, e_call, e_callv, kCv_, e_bi, e_meth, kMe_, kMe2_, e_isi, kIsi_, e_lrg, e_trg, e_lc, kLc_, e_lc2, e_dctL, e_kix, kix_, e_sset, ss_ref, ss_tup, ssC_, ssI_, l_nil, l_cons, kL_, kL2_, o_no, o_so, kO_, y_seq, kSeq_, y_rng, y_rng3, y_enum, kEn_, kEn2_, y_rev, kIr_, kIr2_,
  b_tru, b_val, kVal_, b_cmp, kBc_, kBc2_, kTb_some, kTbR_ok, b_chain, kBh_, kBh2_, kBh4_t, kBh4_f, kBh3_, b_and, kBa_t, kBa_f, b_or, kBo_t, kBo_f, b_not, kBn_,
  z_nil, z_cons, then_ok, then_ret, then_brk, then_cont, fl_ok, z_asg, kAs_nm, kAs_sub, kSet1_, kSet2_, kSetN_, z_asgT, kAsT_, nx1_, ass_nil, ass_cons, kAss_, asgA_nm, asgA_sub, kSet0_, z_par, kPar_, z_aug, kAug1_, kAug2_, kAug3_, z_ex, kEx_, z_ret, kRet_, z_retn, z_ifs, kIfs_t, kIfs_f, z_for, kFor_, z_while, z_brk, z_cont, z_pass, body_nm, body_tp, body_tpk, setAll_cons, setAll_nil, turn_nm, turn_tp, turn_tpk, kT1_t, kT1_f, kT2_, wipe_nil, wipe_cons,
  nx_ok, bnd_ok, tr_ok', bnd_exc, tr_exc, fl_exc, then_exc, fin_exc, z_raise, kRs_one, kRs_two, z_try, kTry_ret, kTry_next, kTry_exc, trim_self, ofO_ok', Option.map_some, if_true, Bool.false_eq_true, if_false, Bool.not_true, Bool.not_false,
  add_n, sub_n, mul_n, mul_ref, repC_, flat1, mod_n, div_n, aug_add, add_tup, cmp_eqn, cmp_nen, cmp_ltn, cmp_gtn, cmp_len, cmp_gen, cmp_isN, in_kt, nin_kt, in_tup, in_ref, nin_ref, inC_s, isi_tt, isi_bt, isi_it, isi_st, isi_ss, kOk2, kOk4, cmp_notN, tru_bl, tru_n, tru_tup, tru_ref, truC_, ix_Pn, ix_tup, ix_kt, ix_ref, ixC_l, ixC_last, ix_tlast, set_ref, setC_l, bi_lenP, bi_lenT, bi_lenR, lenC_l, bi_tupR, tupC_, bi_lstR, lstC_, bi_lstP, bi_lstT, bi_anyR, anyC_, bi_allR, allC_, bi_minN, bi_maxN, bi_absN, bi_intN, kLrg1, kTrg1, kLrg2, kRng1, kRng2, walk_P, walk_T, walk_ref, walkC_h0, walkC_hk, walkC_d0, walkC_dk, walkC_old, live_none, add_ref, catC_, add_str, rcv_ref, rcvC_app, rcvC_pop, rcvC_ext, rcvC_get, rcvC_idx, me_ref, me_app, me_ext, extC_, me_popAt, popC_, me_get1, me_get2, sl_ref, slC_, sl_tup, cut_nn, cut_n0, cut_0n, mkL_ok, mkT_ok,
  gh0, ghk, sh0, shk, gd0, gdk, sd0, sdk, gho, sho, gdo, DH_len, BL_app, DH_app, trim_nn, trim_hk, trim_h0, trim_old, trim_newk, trim_new0, trim_new1, trim_dk, trim_d0, trim_dold, trim_dnewk, trim_dnew0, trim_dnew1, trim_dn, fin_ret, fin_next, fin_ite, Nx_next, Nx_cont, Nx_ite, Fx_next, Fx_cont, Fx_brk, Fx_ret, Fx_ite, Bx_ok, Bx_ite, then_ite, rep_dN,
  List.length_append, List.length_cons, List.length_nil, List.length_map, List.length_range, Nat.zero_add, Nat.reduceAdd, List.append_assoc, List.cons_append, List.nil_append, List.getElem?_cons_zero, List.getElem?_cons_succ, List.set_cons_zero, List.set_cons_succ, List.take_succ_cons, List.take_zero, List.take_nil, List.drop_succ_cons, List.drop_zero, List.append_nil, pos_s, one_add0, add_one0, neg1_, Nat.reduceEqDiff, Nat.reduceLT, Nat.reduceLeDiff, ne_eq, pos_s, decide_true, decide_false, ← List.map_drop, ← List.map_take, List.length_drop, List.length_take, decide_eq_true_eq, not_true_eq_false, not_false_eq_true, $xs,*])
/-! END MAC -/
namespace Mi
open PySem
variable {T : Tb}
/-- a comprehension that leaves the heap as it is, then the rest -/
theorem comp_then {α : Type} {live : HS → Bool} {f : D → HS → R (List D)} {g : α → D} {u : α → D} {h : HS} {K : List D → HS → R D} {r : R D} {l : List α} (hl : live h = true) (hf : ∀ x ∈ l, f (u x) h = .ok [g x] h) (hk : K (l.map g) h = r) : (compD live f (l.map u) h).bind K = r := by
  rw [comp_map hl hf, R.bind_ok, hk]

theorem tm_dN {p q : List Nat} : (tm p q).map dN = p.map (fun x => dN (at_ q x)) := by unfold tm; rw [List.map_map]; rfl
theorem sp_ltimes [H__law_times T] {k : Nat} {p q : List Nat} {h : HS} (hw : WF h) (hx : ∀ x ∈ p, x < q.length) (hl : p.length ≤ LIM) : callD T (k + 1) "_law_times" [P p, P q] h = .ok (P (tm p q)) h := by
  rw [o__law_times]
  simp_arith [true_and]
  rw [comp_map (g := fun x => dN (at_ q x)) rfl ?hf]
  case hf => intro x hx'; have := hx x hx'; simp_arith [true_and]
  simp_arith [true_and]; rw [P, tm_dN]
theorem sp_times [H_times T] {k : Nat} {p q : List Nat} {h : HS} (hw : WF h) (hx : ∀ x ∈ p, x < q.length) (hl : p.length ≤ LIM) : callD T (k + 1) "times" [P p, P q] h = .ok (P (tm p q)) h := by
  rw [o_times]
  simp_arith [true_and]
  rw [comp_map (g := fun x => dN (at_ q x)) rfl ?hf]
  case hf => intro x hx'; have := hx x hx'; simp_arith [true_and]
  simp_arith [true_and]; rw [P, tm_dN]
theorem sp_linverse [H__law_inverse T] {k : Nat} {p : List Nat} {h : HS} (hw : WF h) (hx : ∀ x ∈ p, x < p.length) (hl : p.length ≤ LIM) : callD T (k + 1) "_law_inverse" [P p] h = .ok (P (inv p)) h := by
  rw [o__law_inverse]
  simp_arith [true_and]
  generalize e : forD _ _ _ _ _ = o
  obtain ⟨δ', h', rfl, ⟨u, rfl⟩, rfl⟩ := for_ex e (fun i δ' h' => (∃ u, δ' = [some (P p), some (.ref h.length), u]) ∧ h' = h ++ [.lst ((rowW (List.replicate p.length 0) i (at_ p) id).map dN)])
    ⟨⟨_, rfl⟩, rfl⟩ (fun i x δ1 h1 hi hq => by
      obtain ⟨⟨u, rfl⟩, rfl⟩ := hq
      obtain ⟨hlt, rfl⟩ := range_at hi
      have := at_lt hx hlt
      refine ⟨rfl, ?_⟩
      simp_arith [map_set]
      exact ⟨⟨_, rfl⟩, by rw [rowW_succ]; rfl⟩) (fun _ _ _ => rfl)
  simp_arith [enumL_len]
  rfl
/-! ### draws -/
theorem dh0 {S : DSt} {r : HS} : (DH S r)[0]? = some (.lst (S.ns.map .int)) := (rfl)
theorem dh1 {S : DSt} {r : HS} : (DH S r)[1]? = some (.lst [.ref 0, dN S.i, dN S.v, dN S.s]) := (rfl)
theorem dhs {S : DSt} {r : HS} {i v s : Nat} : (DH S r).set 1 (.lst [.ref 0, dN i, dN v, dN s]) = DH ⟨S.ns, i, v, s⟩ r := (rfl)
theorem pow18 {h : HS} : binF .Pow (dN 10) (dN 18) h = .ok (dN 1000000000000000000) h := by unfold binF; rfl
theorem bi_absI {i : Int} {h : HS} : biF .abs [.int i] h = .ok (dN i.natAbs) h := by
  show R.ok (D.int (if i < 0 then -i else i)) h = _
  congr 2
  split <;> omega
theorem bi_intI {i : Int} {h : HS} : biF .int [.int i] h = .ok (.int i) h := by unfold biF; rfl
def tkT (S : DSt) (m : Nat) : Nat × DSt := if 0 < S.v then (S.v % m, ⟨S.ns, S.i, S.v / m, S.s⟩) else ((S.s * 69621 + 7) % 2147483647 / 5 % m, ⟨S.ns, S.i, S.v, (S.s * 69621 + 7) % 2147483647⟩)
def tkR (S : DSt) (m : Nat) : Nat × DSt := if h : S.v = 0 ∧ S.i < S.ns.length then (if (S.ns[S.i]'h.2).natAbs < 1000000000000000000 then ((S.ns[S.i]'h.2).natAbs % m, ⟨S.ns, S.i + 1, 0, S.s⟩) else tkT ⟨S.ns, S.i + 1, (S.ns[S.i]'h.2).natAbs, S.s⟩ m) else tkT S m
theorem sp_take [H__law_take T] {k m : Nat} {S : DSt} {r : HS} (h0 : 0 < m) (h1 : m < 1073741824) : callD T (k + 1) "_law_take" [.ref 1, dN m] (DH S r) = .ok (dN (tkR S m).1) (DH (tkR S m).2 r) := by
  rw [o__law_take]
  unfold tkR
  by_cases c1 : S.v = 0
  · by_cases c2 : S.i < S.ns.length
    · have e : (S.ns.map D.int)[S.i]? = some (.int S.ns[S.i]) := by rw [List.getElem?_map, List.getElem?_eq_getElem c2]; rfl
      have c2' : S.i < (S.ns.map D.int).length := by rw [List.length_map]; exact c2
      by_cases c3 : S.ns[S.i].natAbs < 1000000000000000000
      · simp_arith [dh0, dh1, dhs, c1, c2, c2', c3, pow18, bi_absI, bi_intI, e, and_self, dite_true]
      · have c4 : 0 < S.ns[S.i].natAbs := by omega
        simp_arith [dh0, dh1, dhs, c1, c2, c2', c3, c4, pow18, bi_absI, bi_intI, e, and_self, dite_true, tkT]
    · have c2' : ¬ S.i < (S.ns.map D.int).length := by rw [List.length_map]; exact c2
      simp_arith [dh0, dh1, dhs, c1, c2, c2', dite_false, and_false, tkT, Nat.lt_irrefl]
  · have c4 : 0 < S.v := by omega
    simp_arith [dh0, dh1, dhs, c1, c4, dite_false, false_and, tkT]

theorem sp_inverse [H_inverse T] {k : Nat} {p : List Nat} {h : HS} (hw : WF h) (hx : ∀ x ∈ p, x < p.length) (hl : p.length ≤ LIM) : callD T (k + 1) "inverse" [P p] h = .ok (P (inv p)) h := by
  rw [o_inverse]
  simp_arith [walk_P, bnd_ok]
  generalize e : forD _ _ _ _ _ = o
  obtain ⟨δ', h', rfl, ⟨u, v, rfl⟩, rfl⟩ := for_ex e (fun i δ' h' => (∃ u v, δ' = [some (P p), some (.ref h.length), u, v]) ∧ h' = h ++ [.lst ((rowW (List.replicate p.length 0) i (at_ p) id).map dN)])
    ⟨⟨_, _, rfl⟩, rfl⟩ (fun i x δ1 h1 hi hq => by
      obtain ⟨⟨u, v, rfl⟩, rfl⟩ := hq
      obtain ⟨hlt, rfl⟩ := enumP_at hi
      have := at_lt hx hlt
      refine ⟨rfl, ?_⟩
      simp_arith [map_set]
      exact ⟨⟨_, _, rfl⟩, by rw [rowW_succ]; rfl⟩) (fun _ _ _ => rfl)
  simp_arith [enumL_len]
  rfl
theorem sp_lconj [H__law_conj T] {k : Nat} {p c : List Nat} {h : HS} (hw : WF h) (hx : ∀ x ∈ p, x < p.length) (hc : ∀ x ∈ c, x < p.length) (he : c.length = p.length) (hl : p.length ≤ LIM) : callD T (k + 1) "_law_conj" [P p, P c] h = .ok (P (cj p c)) h := by
  rw [o__law_conj]
  simp_arith [true_and]
  generalize e : forD _ _ _ _ _ = o
  obtain ⟨δ', h', rfl, ⟨u, rfl⟩, rfl⟩ := for_ex e (fun i δ' h' => (∃ u, δ' = [some (P p), some (P c), some (.ref h.length), u]) ∧ h' = h ++ [.lst ((rowW (List.replicate p.length 0) i (at_ c) (fun x => at_ c (at_ p x))).map dN)])
    ⟨⟨_, rfl⟩, rfl⟩ (fun i x δ1 h1 hi hq => by
      obtain ⟨⟨u, rfl⟩, rfl⟩ := hq
      obtain ⟨hlt, rfl⟩ := range_at hi
      have l1 := at_lt hx hlt
      have l2 : i < c.length := by omega
      have l3 : at_ p i < c.length := by omega
      have l4 := at_lt hc l2
      refine ⟨rfl, ?_⟩
      simp_arith [map_set]
      exact ⟨⟨_, rfl⟩, by rw [rowW_succ]⟩) (fun _ _ _ => rfl)
  simp_arith [enumL_len]
  rfl
theorem Pm.lts {n : Nat} {p q : List Nat} (hp : Pm n p) (hq : Pm n q) : ∀ x ∈ p, x < q.length := fun x hx => by rw [hq.len]; exact hp.lt x hx
theorem Pm.l0 {n : Nat} {p : List Nat} (hp : Pm n p) (hn : n ≤ 16) : p.length ≤ LIM := by have := hp.len; unfold LIM; omega
theorem sp_lcomm [H__law_comm T] [H__law_times T] [H__law_inverse T] {k n : Nat} {p q : List Nat} {h : HS} (hw : WF h) (hp : Pm n p) (hq : Pm n q) (hn : n ≤ 16) : callD T (k + 2) "_law_comm" [P p, P q] h = .ok (P (tm (tm (inv p) (inv q)) (tm p q))) h := by
  rw [o__law_comm]
  simp_arith [sp_linverse hw (hp.lts hp) (hp.l0 hn), sp_linverse hw (hq.lts hq) (hq.l0 hn), sp_ltimes hw (hp.inv.lts hq.inv) (hp.inv.l0 hn), sp_ltimes hw (hp.lts hq) (hp.l0 hn), sp_ltimes hw ((hp.inv.tm hq.inv).lts (hp.tm hq)) ((hp.inv.tm hq.inv).l0 hn)]
theorem sp_identity [H_identity T] {k n : Nat} {h : HS} (hl : n ≤ LIM) : callD T (k + 1) "identity" [dN n] h = .ok (P (List.range n)) h := by
  rw [o_identity]
  simp_arith [true_and]
/-- a row's points, each to the next -/
def cycR (n : Nat) (row : List Nat) : List Nat := rowW (List.range n) row.length (at_ row) fun i => at_ row ((i + 1) % row.length)
theorem sp_cycle [H__law_cycle T] {k n : Nat} {row : List Nat} {m : Nat} {h : HS} (hw : WF h) (hm : h[m]? = some (.lst (row.map dN))) (hx : ∀ x ∈ row, x < n) (hn : n ≤ LIM) (hr : row.length ≤ LIM) : callD T (k + 1) "_law_cycle" [dN n, .ref m] h = .ok (P (cycR n row)) h := by
  have lm : m < h.length := (List.getElem?_eq_some_iff.mp hm).1
  rw [o__law_cycle]
  simp_arith [hm]
  generalize e : forD _ _ _ _ _ = o
  obtain ⟨δ', h', rfl, ⟨u, rfl⟩, rfl⟩ := for_ex e (fun i δ' h' => (∃ u, δ' = [some (dN n), some (.ref m), some (.ref h.length), u]) ∧ h' = h ++ [.lst ((rowW (List.range n) i (at_ row) fun i => at_ row ((i + 1) % row.length)).map dN)])
    ⟨⟨_, rfl⟩, rfl⟩ (fun i x δ1 h1 hi hq => by
      obtain ⟨⟨u, rfl⟩, rfl⟩ := hq
      obtain ⟨hlt, rfl⟩ := range_at hi
      have l1 := at_lt hx hlt
      have l2 : (i + 1) % row.length < row.length := Nat.mod_lt _ (by omega)
      have l3 : 0 < row.length := by omega
      refine ⟨rfl, ?_⟩
      simp_arith [hm, map_set, map_get hlt, map_get l2]
      exact ⟨⟨_, rfl⟩, by rw [rowW_succ]⟩) (fun _ _ _ => rfl)
  simp_arith [enumL_len]
  rfl
theorem tk_lt {S : DSt} {m : Nat} (h0 : 0 < m) : (tkR S m).1 < m := by
  unfold tkR
  split
  · split
    · exact Nat.mod_lt _ h0
    · unfold tkT; split <;> exact Nat.mod_lt _ h0
  · unfold tkT; split <;> exact Nat.mod_lt _ h0
theorem dh_ge {S : DSt} {r : HS} {m : Nat} : (DH S r)[m + 2]? = r[m]? := rfl
/-- menu[take(len(menu))] of a menu in the heap -/
theorem sp_pick [H__law_take T] [H__law_pick T] {k m : Nat} {xs : List D} {S : DSt} {r : HS} (hm : ∀ S, (DH S r)[m]? = some (.lst xs)) (h0 : 0 < xs.length) (h1 : xs.length < 1073741824) : ∃ v, xs[(tkR S xs.length).1]? = some v ∧ callD T (k + 2) "_law_pick" [.ref 1, .ref m] (DH S r) = .ok v (DH (tkR S xs.length).2 r) := by
  have hl := tk_lt (S := S) h0
  refine ⟨_, List.getElem?_eq_getElem hl, ?_⟩
  rw [o__law_pick]
  simp_arith [hm, sp_take h0 h1, List.getElem?_eq_getElem hl]
theorem sp_pickT [H__law_take T] [H__law_pick T] {k : Nat} {xs : List D} {S : DSt} {r : HS} (h0 : 0 < xs.length) (h1 : xs.length < 1073741824) : ∃ v, xs[(tkR S xs.length).1]? = some v ∧ callD T (k + 2) "_law_pick" [.ref 1, .tup xs] (DH S r) = .ok v (DH (tkR S xs.length).2 r) := by
  have hl := tk_lt (S := S) h0
  refine ⟨_, List.getElem?_eq_getElem hl, ?_⟩
  rw [o__law_pick]
  simp_arith [sp_take h0 h1, List.getElem?_eq_getElem hl]
theorem at_getD {l : List Nat} {i : Nat} (h : i < l.length) : at_ l i = l[i] := by
  unfold at_
  rw [List.getD_eq_getElem?_getD, List.getElem?_eq_getElem h]; rfl
theorem rowW_out {r : List Nat} {a b : Nat → Nat} {y : Nat} : ∀ {n : Nat}, (∀ x, x < n → a x ≠ y) → at_ (rowW r n a b) y = at_ r y
  | 0, _ => rfl
  | n + 1, h => by
    rw [rowW_succ]
    have hn := h n (by omega)
    unfold at_
    rw [List.getD_eq_getElem?_getD, List.getD_eq_getElem?_getD, List.getElem?_set_ne hn, ← List.getD_eq_getElem?_getD, ← List.getD_eq_getElem?_getD]
    exact rowW_out fun x hx => h x (by omega)
theorem nd_inj {l : List Nat} (nd : l.Nodup) {i j : Nat} (hi : i < l.length) (hj : j < l.length) (e : at_ l i = at_ l j) : i = j := by
  rw [at_getD hi, at_getD hj] at e
  exact (List.getElem_inj nd).mp e
theorem cycR_pm {n : Nat} {row : List Nat} (nd : row.Nodup) (hx : ∀ x ∈ row, x < n) : Pm n (cycR n row) := by
  have inj : ∀ x y, x < row.length → y < row.length → at_ row x = at_ row y → x = y := fun x y h1 h2 e => nd_inj nd h1 h2 e
  have lts : ∀ x, x < row.length → at_ row x < n := fun x h => at_lt hx h
  have in_ : ∀ i, i < row.length → at_ (cycR n row) (at_ row i) = at_ row ((i + 1) % row.length) := fun i hi => by
    unfold cycR
    exact rowW_at (b := fun i => at_ row ((i + 1) % row.length)) (fun x h => by rw [List.length_range]; exact lts x h) inj hi
  have out : ∀ y, y < n → (∀ i, i < row.length → at_ row i ≠ y) → at_ (cycR n row) y = y := fun y hy h => by
    unfold cycR
    rw [rowW_out h, at_range hy]
  have nxt : ∀ i, i < row.length → (i + 1) % row.length < row.length := fun i hi => Nat.mod_lt _ (by omega)
  refine Pm.of_at (by unfold cycR; rw [rowW_len, List.length_range]) (fun x hxn => ?_) (fun x y hxn hyn e => ?_)
  · by_cases c : ∃ i, i < row.length ∧ at_ row i = x
    · obtain ⟨i, hi, rfl⟩ := c
      rw [in_ i hi]; exact lts _ (nxt i hi)
    · rw [out x hxn fun i hi z => c ⟨i, hi, z⟩]; exact hxn
  · by_cases c : ∃ i, i < row.length ∧ at_ row i = x
    · obtain ⟨i, hi, rfl⟩ := c
      rw [in_ i hi] at e
      by_cases c2 : ∃ j, j < row.length ∧ at_ row j = y
      · obtain ⟨j, hj, rfl⟩ := c2
        rw [in_ j hj] at e
        have e := inj _ _ (nxt i hi) (nxt j hj) e
        have : i = j := by
          rcases Nat.lt_or_ge (i + 1) row.length with a | a <;> rcases Nat.lt_or_ge (j + 1) row.length with b | b
          · rw [Nat.mod_eq_of_lt a, Nat.mod_eq_of_lt b] at e; omega
          · rw [Nat.mod_eq_of_lt a, show j + 1 = row.length by omega, Nat.mod_self] at e; omega
          · rw [Nat.mod_eq_of_lt b, show i + 1 = row.length by omega, Nat.mod_self] at e; omega
          · omega
        rw [this]
      · rw [out y hyn fun j hj z => c2 ⟨j, hj, z⟩] at e
        exact absurd ⟨_, nxt i hi, e⟩ c2
    · rw [out x hxn fun i hi z => c ⟨i, hi, z⟩] at e
      by_cases c2 : ∃ j, j < row.length ∧ at_ row j = y
      · obtain ⟨j, hj, rfl⟩ := c2
        rw [in_ j hj] at e
        exact absurd ⟨_, nxt j hj, e.symm⟩ c
      · rw [out y hyn fun j hj z => c2 ⟨j, hj, z⟩] at e; exact e
theorem erase_map {α β : Type} {f : α → β} : ∀ {l : List α} {r : Nat}, (l.map f).eraseIdx r = (l.eraseIdx r).map f
  | [], _ => rfl
  | x :: l, 0 => rfl
  | x :: l, r + 1 => by simp [erase_map]
theorem erase_perm {α : Type} : ∀ {l : List α} {r : Nat} (h : r < l.length), (l[r] :: l.eraseIdx r).Perm l
  | x :: l, 0, _ => List.Perm.refl _
  | x :: l, r + 1, h => by
    have hr : r < l.length := by simpa using h
    have := erase_perm (l := l) (r := r) hr
    show (l[r] :: x :: l.eraseIdx r).Perm (x :: l)
    exact (List.Perm.swap _ _ _).trans (List.Perm.cons _ this)
theorem sp_shuffled [H__law_take T] [H__law_shuffled T] {k n : Nat} {S : DSt} {r : HS} (hr : WFr r) (hn : n < 1000000) : ∃ p S', callD T (k + 2) "_law_shuffled" [.ref 1, dN n] (DH S r) = .ok (P p) (DH S' r) ∧ Pm n p := by
  have hl : n ≤ LIM := by unfold LIM; omega
  have key : ∃ p S', callD T (k + 2) "_law_shuffled" [.ref 1, dN n] (DH S r) = .ok (P p) (DH S' r) ∧ p.Perm (List.range n) := by
    rw [o__law_shuffled]
    simp_arith [true_and]
    generalize e : compD _ _ _ _ = o
    obtain ⟨ys, h', rfl, S', zs, l, rfl, rfl, pm, hlen⟩ := comp_ex e (fun i ys h' => ∃ S' zs l, ys = zs.map dN ∧ h' = DH S' (r ++ [.lst (l.map dN)]) ∧ (zs ++ l).Perm (List.range n) ∧ l.length = n - i)
      ⟨S, [], List.range n, rfl, rfl, List.Perm.refl _, by simp⟩ (fun i x ys h hi hq => by
        obtain ⟨hlt, rfl⟩ := range_at hi
        obtain ⟨S', zs, l, rfl, rfl, pm, hlen⟩ := hq
        have l0 : 0 < l.length := by omega
        have l1 : l.length < 1073741824 := by omega
        have lt := tk_lt (S := S') l0
        have lt2 : (tkR S' l.length).1 < 16777216 := by omega
        refine ⟨rfl, [dN (l[(tkR S' l.length).1])], DH (tkR S' l.length).2 (r ++ [.lst ((l.eraseIdx (tkR S' l.length).1).map dN)]), ?_, (tkR S' l.length).2, zs ++ [l[(tkR S' l.length).1]], l.eraseIdx (tkR S' l.length).1, by simp, rfl, ?_, ?_⟩
        · simp_arith [sp_take l0 l1, map_get lt, at_getD lt, erase_map]
        · rw [List.append_assoc]
          refine List.Perm.trans (List.Perm.append_left _ ?_) pm
          exact erase_perm lt
        · rw [List.length_eraseIdx_of_lt lt]; omega) (fun _ _ _ => rfl)
    have zl : zs.length ≤ n := by
      have := pm.length_eq
      rw [List.length_append, List.length_range] at this; omega
    refine ⟨zs, S', ?_, ?_⟩
    · simp_arith [true_and]
      rfl
    · have e0 : l = [] := List.length_eq_zero_iff.mp (by rw [hlen]; simp)
      rw [e0, List.append_nil] at pm
      exact pm
  obtain ⟨p, S', e, pm⟩ := key
  exact ⟨p, S', e, by rw [pm.length_eq, List.length_range], pm.nodup_iff.mpr List.nodup_range, fun x hx => List.mem_range.mp (pm.mem_iff.mp hx)⟩
end Mi

namespace Mi
open PySem
variable {T : Tb}
theorem wfr_nil : WFr [] := rfl
/-- permutations in a list -/
def Pms (n : Nat) (L : List (List Nat)) : Prop := ∀ p ∈ L, Pm n p
theorem Pms.app {n : Nat} {L M : List (List Nat)} (h1 : Pms n L) (h2 : Pms n M) : Pms n (L ++ M) := fun p hp => by
  rcases List.mem_append.mp hp with h | h
  · exact h1 p h
  · exact h2 p h
theorem Pms.one {n : Nat} {p : List Nat} (h : Pm n p) : Pms n [p] := fun q hq => by rw [List.mem_singleton.mp hq]; exact h
theorem iota_eq {a b : Nat} : (List.range b).map (fun i => dN (a + i)) = ((List.range b).map fun i => a + i).map dN := by rw [List.map_map]; rfl
theorem mapP_app {L : List (List Nat)} {p : List Nat} : L.map P ++ [P p] = (L ++ [p]).map P := by simp
theorem sp_disjoint [H__law_take T] [H__law_cycle T] [H__law_disjoint T] {k n : Nat} {S : DSt} {r : HS} (hr : WFr r) (hn : n ≤ 16) : ∃ L S', callD T (k + 2) "_law_disjoint" [.ref 1, dN n] (DH S r) = .ok (.ref (BL r)) (DH S' (r ++ [.lst (L.map P)])) ∧ Pms n L ∧ L.length ≤ n := by
  have key : ∃ L S', callD T (k + 2) "_law_disjoint" [.ref 1, dN n] (DH S r) = .ok (.ref (BL r)) (DH S' (r ++ [.lst (L.map P)])) ∧ Pms n L ∧ L.length ≤ n := by
    rw [o__law_disjoint]
    simp_arith [true_and]
    generalize e : whileD _ _ _ _ _ = o
    obtain ⟨δ', h', rfl, S', L, st, z, rfl, rfl, hL, hs, hlen⟩ := while_ex e (fun δ' h' => ∃ S' L st z, δ' = [some (.ref 1), some (dN n), some (.ref (BL r)), some (dN st), z] ∧ h' = DH S' (r ++ [.lst (L.map P)]) ∧ Pms n L ∧ st ≤ n ∧ L.length ≤ st)
      (fun m δ' h' => ∃ S' L st z, δ' = [some (.ref 1), some (dN n), some (.ref (BL r)), some (dN st), z] ∧ h' = DH S' (r ++ [.lst (L.map P)]) ∧ Pms n L ∧ st ≤ n ∧ L.length ≤ st ∧ m = n - st) n (by omega)
      ⟨S, [], 0, none, rfl, rfl, fun p hp => by (cases hp), by omega, by simp, rfl⟩ (fun m δ h hq => by
        obtain ⟨S', L, st, z, rfl, rfl, hL, hs, hlen, rfl⟩ := hq
        by_cases c : st < n
        · have l0 : 0 < min 5 (n - st) := by omega
          have l1 : min 5 (n - st) < 1073741824 := by omega
          have lt := tk_lt (S := S') l0
          have wr1 : WFr (r ++ [.lst (L.map P)]) := by walk_at "ms"
          have hc := fun (S : DSt) (s : Nat) (hs : st + s ≤ n) => sp_cycle (T := T) (k := k) (n := n) (m := BL r + 1) (row := (List.range s).map fun i => st + i) (h := DH S (r ++ [.lst (L.map P), .lst (((List.range s).map fun i => st + i).map dN)])) (WF.dh (by walk_at "ms")) (by simp_arith [true_and]) (by simp; omega) (by unfold LIM; omega) (by simp [LIM]; omega)
          have hc := hc (tkR S' (min 5 (n - st))).2 (1 + (tkR S' (min 5 (n - st))).1) (by omega)
          have e2 : st + (1 + (tkR S' (min 5 (n - st))).1) - st = 1 + (tkR S' (min 5 (n - st))).1 := by omega
          simp_arith [c, sp_take l0 l1, e2, iota_eq, hc, mapP_app]
          refine ⟨_, ?_, (tkR S' (min 5 (n - st))).2, _, _, _, rfl, rfl, hL.app (Pms.one (cycR_pm ?_ ?_)), ?_, ?_, rfl⟩
          · omega
          · rw [List.nodup_iff_pairwise_ne, List.pairwise_map]
            exact List.nodup_range.imp fun {a b} h => by omega
          · simp; omega
          · omega
          · simp; omega
        · simp_arith [c]
          exact ⟨S', L, st, z, rfl, rfl, hL, hs, hlen⟩)
    refine ⟨L, S', ?_, hL, by omega⟩
    simp_arith [true_and]
  exact key
end Mi

namespace Mi
open PySem
variable {T : Tb}
theorem Wl_0 {n : Nat} {f : Nat → Nat} : Wl n f 0 = List.range n := by unfold Wl; simp
theorem Wl_at {n j x : Nat} {f : Nat → Nat} (hx : x < n) : at_ (Wl n f j) x = if x < j then f x else x := by
  unfold Wl
  rw [at_map (by simpa using hx), at_range hx]
theorem Wl_set {n j : Nat} {f : Nat → Nat} {v : Nat} (hj : j < n) (hv : v = f j) : (Wl n f j).set j v = Wl n f (j + 1) := by
  subst hv
  refine row_ext (n := n) (by rw [List.length_set, Wl_len]) Wl_len fun x hx => ?_
  rw [at_set (by rw [Wl_len]; exact hx), Wl_at hx, Wl_at hx]
  by_cases c : j = x
  · subst c; rw [if_pos rfl, if_pos (by omega)]
  · rw [if_neg c]
    by_cases c2 : x < j
    · rw [if_pos c2, if_pos (by omega)]
    · rw [if_neg c2, if_neg (by omega)]
theorem Wl_pm {n j : Nat} {f : Nat → Nat} (hj : j ≤ n) (hf : ∀ x, x < j → f x < j) (inj : ∀ x y, x < j → y < j → f x = f y → x = y) : Pm n (Wl n f j) := by
  refine Pm.of_at Wl_len (fun x hx => ?_) fun x y hx hy e => ?_
  · rw [Wl_at hx]; split
    · rename_i c; have := hf x c; omega
    · exact hx
  · rw [Wl_at hx, Wl_at hy] at e
    split at e <;> split at e
    · exact inj x y ‹_› ‹_› e
    · rename_i c d; have := hf x c; omega
    · rename_i c d; have := hf y d; omega
    · exact e
theorem divmod {s b x : Nat} (hx : x < s) : (b * s + x) / s = b ∧ (b * s + x) % s = x := by
  have hs : 0 < s := by omega
  constructor
  · rw [Nat.mul_comm, Nat.mul_add_div hs, Nat.div_eq_of_lt hx, Nat.add_zero]
  · rw [Nat.mul_comm, Nat.mul_add_mod, Nat.mod_eq_of_lt hx]
/-- whole blocks are moved -/
def bf (o : List Nat) (s : Nat) (y : Nat) : Nat := at_ o (y / s) * s + y % s
theorem bf_at {o : List Nat} {s b x : Nat} (hx : x < s) : bf o s (b * s + x) = at_ o b * s + x := by
  unfold bf; rw [(divmod hx).1, (divmod hx).2]
theorem blk_pm {n m s : Nat} {o : List Nat} (hs : 0 < s) (hm : m * s ≤ n) (ho : Pm m o) : Pm n (Wl n (bf o s) (m * s)) := by
  have dv : ∀ x, x < m * s → x / s < m := fun x hx => (Nat.div_lt_iff_lt_mul hs).mpr hx
  refine Wl_pm hm (fun x hx => ?_) fun x y hx hy e => ?_
  · have h1 := ho.at_lt (dv x hx)
    have h2 := Nat.mod_lt x hs
    unfold bf
    have : (at_ o (x / s) + 1) * s ≤ m * s := Nat.mul_le_mul_right s h1
    rw [Nat.add_mul] at this
    omega
  · unfold bf at e
    have a1 := Nat.mod_lt x hs
    have a2 := Nat.mod_lt y hs
    have e1 : at_ o (x / s) = at_ o (y / s) := by
      have := congrArg (· / s) e
      simpa only [(divmod a1).1, (divmod a2).1] using this
    have e2 : x % s = y % s := by
      have := congrArg (· % s) e
      simpa only [(divmod a1).2, (divmod a2).2] using this
    have e3 := ho.inj (dv x hx) (dv y hy) e1
    rw [← Nat.div_add_mod x s, ← Nat.div_add_mod y s, e2, e3]
def rot (m : Nat) : List Nat := (List.range m).map fun b => (b + 1) % m
theorem rot_pm {m : Nat} : Pm m (rot m) := by
  have at_rot : ∀ x, x < m → at_ (rot m) x = (x + 1) % m := fun x hx => by
    unfold rot
    rw [at_map (by simpa using hx), at_range hx]
  refine Pm.of_at (by unfold rot; simp) (fun x hx => ?_) fun x y hx hy e => ?_
  · rw [at_rot x hx]; exact Nat.mod_lt _ (by omega)
  · rw [at_rot x hx, at_rot y hy] at e
    rcases Nat.lt_or_ge (x + 1) m with a | a <;> rcases Nat.lt_or_ge (y + 1) m with b | b
    · rw [Nat.mod_eq_of_lt a, Nat.mod_eq_of_lt b] at e; omega
    · rw [Nat.mod_eq_of_lt a, show y + 1 = m by omega, Nat.mod_self] at e; omega
    · rw [Nat.mod_eq_of_lt b, show x + 1 = m by omega, Nat.mod_self] at e; omega
    · omega
theorem rot_at {m x : Nat} (hx : x < m) : at_ (rot m) x = (x + 1) % m := by
  unfold rot
  rw [at_map (by simpa using hx), at_range hx]
theorem los_Wl {n m j : Nat} {f : Nat → Nat} : D.los n ((Wl m f j).map dN) = true := los_nats
theorem imp_tail [H__law_take T] [H__law_shuffled T] {k n s m : Nat} {S : DSt} {r : HS} (hr : WFr r) (hn : n ≤ 16) (hs : 0 < s) (hm : 0 < m) (hms : m * s ≤ n) (hs16 : s ≤ 16) (hm16 : m ≤ 16) :
    ∃ L S', fin (BL r) (execB (callD T (k + 2)) c__law_imprimitive.tl.tl.tl [some (.ref 1), some (dN n), some (dN s), some (dN m), none, none, none, none, none, none, none] (DH S r)) = .ok (.ref (BL r)) (DH S' (r ++ [.lst (L.map P)])) ∧ Pms n L ∧ L.length = 3 := by
  simp only [c__law_imprimitive, CSs.tl]
  obtain ⟨o, S1, e1, ho⟩ := sp_shuffled (T := T) (k := k) (n := m) (S := S) hr (by omega)
  simp_arith [e1]
  have place : ∀ b x, b < m → x < s → b * s + x < m * s := fun b x hb hx => by
    have : (b + 1) * s ≤ m * s := Nat.mul_le_mul_right s hb
    rw [Nat.add_mul] at this; omega
  have hol := ho.len
  -- the first loop
  generalize e : forD _ _ _ _ _ = o1
  obtain ⟨δ', h', rfl, z6, z9, rfl, rfl⟩ := for_ex e (fun b δ' h' => ∃ z6 z9, δ' = [some (.ref 1), some (dN n), some (dN s), some (dN m), some (P o), some (.ref (BL r)), z6, none, none, z9, none] ∧ h' = DH S1 (r ++ [.lst ((Wl n (bf o s) (b * s)).map dN)]))
    ⟨_, _, rfl, by rw [Nat.zero_mul, Wl_0]⟩ (fun b x δ1 h1 hi hq => by
      obtain ⟨hlt, rfl⟩ := range_at hi
      obtain ⟨z6, z9, rfl, rfl⟩ := hq
      refine ⟨rfl, ?_⟩
      simp_arith [true_and]
      generalize e : forD _ _ _ _ _ = o2
      obtain ⟨δ', h', rfl, z9, rfl, rfl⟩ := for_ex e (fun x δ' h' => ∃ z9, δ' = [some (.ref 1), some (dN n), some (dN s), some (dN m), some (P o), some (.ref (BL r)), some (dN b), none, none, z9, none] ∧ h' = DH S1 (r ++ [.lst ((Wl n (bf o s) (b * s + x)).map dN)]))
        ⟨_, rfl, rfl⟩ (fun x y δ1 h1 hi hq => by
          obtain ⟨hx, rfl⟩ := range_at hi
          obtain ⟨z9, rfl, rfl⟩ := hq
          have hp := place b x hlt hx
          have hp2 : b * s + x < n := by omega
          have hb : b < o.length := by omega
          refine ⟨rfl, ?_⟩
          simp_arith [Wl_len]
          refine ⟨_, rfl, ?_⟩
          rw [map_set, Wl_set hp2 (bf_at hx).symm]; rfl) (fun _ _ _ => rfl)
      simp_arith [true_and]
      refine ⟨_, _, rfl, ?_⟩
      rw [Nat.add_mul, Nat.one_mul]) (fun _ _ _ => rfl)
  obtain ⟨q, S2, e2, hq⟩ := sp_shuffled (T := T) (k := k) (n := s) (S := S1) (r := r ++ [.lst ((Wl n (bf o s) (m * s)).map dN)]) (by walk_at "ms") (by omega)
  have hql := hq.len
  simp_arith [e2]
  -- the second loop
  clear e
  generalize e : forD _ _ _ _ _ = o1
  obtain ⟨δ', h', rfl, z9, rfl, rfl⟩ := for_ex e (fun b δ' h' => ∃ z9, δ' = [some (.ref 1), some (dN n), some (dN s), some (dN m), some (P o), some (.ref (BL r)), z6, some (P q), some (.ref (BL r + 1)), z9, none] ∧ h' = DH S2 (r ++ [.lst ((Wl n (bf o s) (m * s)).map dN), .lst ((Wl n (at_ q) b).map dN)]))
    ⟨_, rfl, by rw [Wl_0]⟩ (fun b x δ1 h1 hi hq => by
      obtain ⟨hlt, rfl⟩ := range_at hi
      obtain ⟨z9, rfl, rfl⟩ := hq
      have hb : b < q.length := by omega
      have hsm : s ≤ m * s := Nat.le_mul_of_pos_left s hm
      have hbn : b < n := by omega
      refine ⟨rfl, ?_⟩
      simp_arith [Wl_len]
      refine ⟨_, rfl, ?_⟩
      rw [map_set, Wl_set hbn rfl]) (fun _ _ _ => rfl)
  simp_arith [true_and]
  -- the third loop
  clear e
  generalize e : forD _ _ _ _ _ = o1
  obtain ⟨δ', h', rfl, z6, z9, rfl, rfl⟩ := for_ex e (fun b δ' h' => ∃ z6 z9, δ' = [some (.ref 1), some (dN n), some (dN s), some (dN m), some (P o), some (.ref (BL r)), z6, some (P q), some (.ref (BL r + 1)), z9, some (.ref (BL r + 2))] ∧
      h' = DH S2 (r ++ [.lst ((Wl n (bf o s) (m * s)).map dN), .lst ((Wl n (at_ q) s).map dN), .lst ((Wl n (bf (rot m) s) (b * s)).map dN)]))
    ⟨_, _, rfl, by rw [Nat.zero_mul, Wl_0]⟩ (fun b x δ1 h1 hi hq => by
      obtain ⟨hlt, rfl⟩ := range_at hi
      obtain ⟨z6, z9, rfl, rfl⟩ := hq
      refine ⟨rfl, ?_⟩
      simp_arith [true_and]
      generalize e : forD _ _ _ _ _ = o2
      obtain ⟨δ', h', rfl, z9, rfl, rfl⟩ := for_ex e (fun x δ' h' => ∃ z9, δ' = [some (.ref 1), some (dN n), some (dN s), some (dN m), some (P o), some (.ref (BL r)), some (dN b), some (P q), some (.ref (BL r + 1)), z9, some (.ref (BL r + 2))] ∧
          h' = DH S2 (r ++ [.lst ((Wl n (bf o s) (m * s)).map dN), .lst ((Wl n (at_ q) s).map dN), .lst ((Wl n (bf (rot m) s) (b * s + x)).map dN)]))
        ⟨_, rfl, rfl⟩ (fun x y δ1 h1 hi hq => by
          obtain ⟨hx, rfl⟩ := range_at hi
          obtain ⟨z9, rfl, rfl⟩ := hq
          have hp := place b x hlt hx
          have hp2 : b * s + x < n := by omega
          refine ⟨rfl, ?_⟩
          simp_arith [Wl_len]
          refine ⟨_, rfl, ?_⟩
          rw [map_set, Wl_set hp2 (by rw [bf_at hx, rot_at hlt])]; rfl) (fun _ _ _ => rfl)
      simp_arith [true_and]
      refine ⟨_, _, rfl, ?_⟩
      rw [Nat.add_mul, Nat.one_mul]) (fun _ _ _ => rfl)
  simp_arith [Wl_len]
  refine ⟨[Wl n (bf o s) (m * s), Wl n (at_ q) s, Wl n (bf (rot m) s) (m * s)], S2, rfl, ?_, rfl⟩
  intro p hp
  simp only [List.mem_cons, List.not_mem_nil, or_false] at hp
  rcases hp with rfl | rfl | rfl
  · exact blk_pm hs hms ho
  · have hsm : s ≤ m * s := Nat.le_mul_of_pos_left s hm
    exact Wl_pm (by omega) (fun x hx => hq.at_lt hx) fun x y hx hy e => hq.inj hx hy e
  · exact blk_pm hs hms rot_pm
theorem sp_imprimitive [H__law_take T] [H__law_pick T] [H__law_shuffled T] [H__law_imprimitive T] {k n : Nat} {S : DSt} {r : HS} (hr : WFr r) (h1 : 1 ≤ n) (hn : n ≤ 16) :
    ∃ L S', callD T (k + 3) "_law_imprimitive" [.ref 1, dN n] (DH S r) = .ok (.ref (BL r)) (DH S' (r ++ [.lst (L.map P)])) ∧ Pms n L ∧ L.length = 3 := by
  rw [o__law_imprimitive]
  obtain ⟨v, hv, ep⟩ := sp_pick (T := T) (k := k) (m := BL r) (xs := [dN 2, dN 2, dN 3, dN 4]) (S := S) (r := r ++ [.lst [dN 2, dN 2, dN 3, dN 4]]) (fun S => by simp_arith [true_and]) (by simp) (by simp)
  obtain ⟨s, hs2, hs4, rfl⟩ : ∃ s, 2 ≤ s ∧ s ≤ 4 ∧ v = dN s := by
    have := List.mem_of_getElem? hv
    simp only [List.mem_cons, List.not_mem_nil, or_false] at this
    rcases this with h | h | h | h
    · exact ⟨2, by omega, by omega, h⟩
    · exact ⟨2, by omega, by omega, h⟩
    · exact ⟨3, by omega, by omega, h⟩
    · exact ⟨4, by omega, by omega, h⟩
  have hm16 : max 1 (n / s) ≤ 16 := by have := Nat.div_le_self n s; omega
  have hm1 : 0 < max 1 (n / s) := by omega
  have hle : s * (n / s) ≤ n := Nat.mul_div_le n s
  by_cases c : n < s * max 1 (n / s)
  · have e1 : max 1 (n / s) = 1 := by
      rcases Nat.eq_zero_or_pos (n / s) with z | z
      · rw [z]; rfl
      · rw [Nat.max_eq_right z] at c; omega
    rw [e1] at c
    simp_arith [ep, e1, c]
    exact imp_tail hr hn (by omega) (by omega) (by omega) (by omega) (by omega)
  · simp_arith [ep, c]
    refine imp_tail hr hn (by omega) hm1 (by rw [Nat.mul_comm]; omega) (by omega) hm16
end Mi

namespace Mi
open PySem
variable {T : Tb}
theorem Wl_split {n p : Nat} {f : Nat → Nat} (hp : p ≤ n) : Wl n f p = (List.range p).map f ++ (List.range (n - p)).map fun i => p + i := by
  refine List.ext_getElem (by rw [Wl_len]; simp; omega) fun i h1 h2 => ?_
  rw [Wl_len] at h1
  have e : (Wl n f p)[i]'(by rw [Wl_len]; exact h1) = at_ (Wl n f p) i := (at_getD (by rw [Wl_len]; exact h1)).symm
  rw [e, Wl_at h1]
  by_cases c : i < p
  · rw [if_pos c, List.getElem_append_left (by simpa using c)]; simp
  · rw [if_neg c, List.getElem_append_right (by simpa using c)]; simp; omega
def prs6 : List Nat := [2, 3, 5, 7, 11, 13]
theorem mul_inj : ∀ p ∈ prs6, ∀ a, a < p → 0 < a → ∀ x, x < p → ∀ y, y < p → a * x % p = a * y % p → x = y := by decide +kernel
theorem aff_pm {n p a : Nat} (hp : p ∈ prs6) (hn : p ≤ n) (ha : a < p) (h0 : 0 < a) : Pm n (Wl n (fun x => a * x % p) p) :=
  Wl_pm hn (fun x hx => Nat.mod_lt _ (by omega)) fun x y hx hy e => mul_inj p hp a ha h0 x hx y hy e
theorem turn_pm {n p : Nat} (hn : p ≤ n) : Pm n (Wl n (fun x => (x + 1) % p) p) := by
  refine Wl_pm hn (fun x hx => Nat.mod_lt _ (by omega)) fun x y hx hy e => ?_
  have := (rot_pm (m := p)).inj hx hy (by rw [rot_at hx, rot_at hy]; exact e)
  exact this
theorem sp_affine [H__law_take T] [H__law_affine T] {k n : Nat} {S : DSt} {r : HS} (hr : WFr r) (h1 : 1 ≤ n) (hn : n ≤ 16) :
    ∃ L S', callD T (k + 2) "_law_affine" [.ref 1, dN n] (DH S r) = .ok (.ref (BL r)) (DH S' (r ++ [.lst (L.map P)])) ∧ Pms n L ∧ L.length ≤ 2 := by
  rw [o__law_affine]
  simp_arith [true_and]
  rw [show ([dN 2, dN 3, dN 5, dN 7, dN 11, dN 13] : List D) = prs6.map dN from rfl, comp_filter (g := dN) (b := fun x => decide (x ≤ n)) rfl ?hf]
  case hf => intro x _; simp_arith [kT1_]; split <;> rfl
  generalize hps : prs6.filter (fun x => decide (x ≤ n)) = ps
  have pl : ps.length ≤ 6 := by rw [← hps]; exact Nat.le_trans (List.length_filter_le _ _) (by decide)
  by_cases c : ps.length = 0
  · simp_arith [c]
    exact ⟨[], S, rfl, fun p hp => by (cases hp), by simp⟩
  · have l0 : 0 < min 3 ps.length := by omega
    have l1 : min 3 ps.length < 1073741824 := by omega
    have lt := tk_lt (S := S) l0
    have c1 : 1 ≤ ps.length := by omega
    have c2 : (tkR S (min 3 ps.length)).1 ≤ ps.length - 1 := by omega
    have c3 : ps.length - 1 - (tkR S (min 3 ps.length)).1 < ps.length := by omega
    have mem : at_ ps (ps.length - 1 - (tkR S (min 3 ps.length)).1) ∈ ps := List.mem_of_getElem? (at_get c3)
    simp_arith [c, sp_take l0 l1, map_get c3]
    generalize at_ ps (ps.length - 1 - (tkR S (min 3 ps.length)).1) = p at mem
    generalize (tkR S (min 3 ps.length)).2 = S1
    rw [← hps, List.mem_filter, decide_eq_true_eq] at mem
    obtain ⟨mp, pn⟩ := mem
    have p2 : 2 ≤ p := (by decide : ∀ p ∈ prs6, 2 ≤ p) p mp
    have q0 : 0 < p - 1 := by omega
    have q1 : p - 1 < 1073741824 := by omega
    have ltq := tk_lt (S := S1) q0
    have p1 : 1 ≤ p := by omega
    have q2 : 0 < p := by omega
    simp_arith [sp_take q0 q1]
    generalize hS2 : (tkR S1 (p - 1)).2 = S2
    generalize ha : 1 + (tkR S1 (p - 1)).1 = a
    rw [comp_map (g := fun x => dN ((x + 1) % p)) rfl ?hf]
    case hf => intro x _; simp_arith [true_and]
    simp_arith [true_and]
    rw [comp_map (g := fun x => dN (a * x % p)) rfl ?hf2]
    case hf2 => intro x hx; have := List.mem_range.mp hx; simp_arith [true_and]
    simp_arith [true_and]
    refine ⟨[Wl n (fun x => (x + 1) % p) p, Wl n (fun x => a * x % p) p], S2, ?_, ?_, by simp⟩
    · rw [Wl_split pn, Wl_split pn]
      simp only [List.map_cons, List.map_nil, P, List.map_append, List.map_map]
      rfl
    · intro q hq
      simp only [List.mem_cons, List.not_mem_nil, or_false] at hq
      rcases hq with rfl | rfl
      · exact turn_pm pn
      · exact aff_pm mp pn (by omega) (by omega)
/-! ### on the line and one point more -/
def stp (p x : Nat) (row : List Nat) (y : Nat) : List Nat := if x * y % p = p - 1 then row.set x y else row
def inn (p x : Nat) (row : List Nat) (j : Nat) : List Nat := (List.range j).foldl (fun row t => stp p x row (1 + t)) row
def out_ (p i : Nat) : List Nat := (List.range i).foldl (fun row t => inn p (1 + t) row (p - 1)) (p :: List.replicate p 0)
theorem inn_s {p x j : Nat} {row : List Nat} : inn p x row (j + 1) = stp p x (inn p x row j) (1 + j) := by
  unfold inn; rw [List.range_succ, List.foldl_append]; rfl
theorem out_s {p i : Nat} : out_ p (i + 1) = inn p (1 + i) (out_ p i) (p - 1) := by
  unfold out_; rw [List.range_succ, List.foldl_append]; rfl
theorem stp_len {p x y : Nat} {row : List Nat} : (stp p x row y).length = row.length := by unfold stp; split <;> simp
theorem inn_len {p x j : Nat} {row : List Nat} : (inn p x row j).length = row.length := by
  induction j with
  | zero => rfl
  | succ j ih => rw [inn_s, stp_len, ih]
theorem out_len {p i : Nat} : (out_ p i).length = p + 1 := by
  induction i with
  | zero => simp [out_]
  | succ i ih => rw [out_s, inn_len, ih]
def prs5 : List Nat := [3, 5, 7, 11, 13]
theorem out_pm : ∀ p ∈ prs5, (∀ x, x < p + 1 → at_ (out_ p (p - 1)) x < p + 1) ∧ ∀ x, x < p + 1 → ∀ y, y < p + 1 → at_ (out_ p (p - 1)) x = at_ (out_ p (p - 1)) y → x = y := by decide +kernel
theorem Wl_at_split {n q : Nat} {l : List Nat} (hq : q ≤ n) (hl : l.length = q) : Wl n (at_ l) q = l ++ (List.range (n - q)).map fun i => q + i := by
  rw [Wl_split hq]
  congr 1
  refine List.ext_getElem (by simp [hl]) fun i h1 h2 => ?_
  rw [List.getElem_map, List.getElem_range, at_getD h2]
theorem range1_at {a b i : Nat} {x : D} (h : ((List.range b).map fun i => dN (a + i))[i]? = some x) : i < b ∧ x = dN (a + i) := by
  have hlt : i < b := by
    have := (List.getElem?_eq_some_iff.mp h).1
    simpa using this
  rw [List.getElem?_map, List.getElem?_range hlt] at h
  cases h
  exact ⟨hlt, rfl⟩
theorem sp_projective [H__law_take T] [H__law_projective T] {k n : Nat} {S : DSt} {r : HS} (hr : WFr r) (h1 : 1 ≤ n) (hn : n ≤ 16) :
    ∃ L S', callD T (k + 2) "_law_projective" [.ref 1, dN n] (DH S r) = .ok (.ref (BL r)) (DH S' (r ++ [.lst (L.map P)])) ∧ Pms n L ∧ L.length ≤ 2 := by
  rw [o__law_projective]
  simp_arith [true_and]
  rw [show ([dN 3, dN 5, dN 7, dN 11, dN 13] : List D) = prs5.map dN from rfl, comp_filter (g := dN) (b := fun x => decide (x < n)) rfl ?hf]
  case hf => intro x _; simp_arith [kT1_]; split <;> rfl
  generalize hps : prs5.filter (fun x => decide (x < n)) = ps
  have pl : ps.length ≤ 5 := by rw [← hps]; exact Nat.le_trans (List.length_filter_le _ _) (by decide)
  by_cases c : ps.length = 0
  · simp_arith [c]
    exact ⟨[List.range n], S, rfl, Pms.one Pm.range, by simp⟩
  · have l0 : 0 < min 2 ps.length := by omega
    have l1 : min 2 ps.length < 1073741824 := by omega
    have lt := tk_lt (S := S) l0
    have c1 : 1 ≤ ps.length := by omega
    have c2 : (tkR S (min 2 ps.length)).1 ≤ ps.length - 1 := by omega
    have c3 : ps.length - 1 - (tkR S (min 2 ps.length)).1 < ps.length := by omega
    have mem : at_ ps (ps.length - 1 - (tkR S (min 2 ps.length)).1) ∈ ps := List.mem_of_getElem? (at_get c3)
    simp_arith [c, sp_take l0 l1, map_get c3]
    generalize at_ ps (ps.length - 1 - (tkR S (min 2 ps.length)).1) = p at mem
    generalize (tkR S (min 2 ps.length)).2 = S1
    rw [← hps, List.mem_filter, decide_eq_true_eq] at mem
    obtain ⟨mp, pn⟩ := mem
    have p2 : 3 ≤ p := (by decide : ∀ p ∈ prs5, 3 ≤ p) p mp
    have p1 : 1 ≤ p := by omega
    have q2 : 0 < p := by omega
    have start : dN p :: List.map dN (List.replicate p 0) = (out_ p 0).map dN := rfl
    simp_arith [start]
    generalize e : forD _ _ _ _ _ = o
    obtain ⟨δ', h', rfl, z6, z7, rfl, rfl⟩ := for_ex e (fun i δ' h' => ∃ z6 z7, δ' = [some (.ref 1), some (dN n), some (.ref (BL r)), some (dN p), some (.ref (BL r + 1)), some (.ref (BL r + 2)), z6, z7] ∧
        h' = DH S1 (r ++ [.lst (ps.map dN), .lst ((List.range (n - (p + 1))).map fun i => dN (p + 1 + i)), .lst ((out_ p i).map dN)]))
      ⟨_, _, rfl, rfl⟩ (fun i x δ1 h1 hi hq => by
        obtain ⟨hlt, rfl⟩ := range1_at hi
        obtain ⟨z6, z7, rfl, rfl⟩ := hq
        refine ⟨rfl, ?_⟩
        simp_arith [true_and]
        generalize e : forD _ _ _ _ _ = o2
        obtain ⟨δ', h', rfl, z7, rfl, rfl⟩ := for_ex e (fun j δ' h' => ∃ z7, δ' = [some (.ref 1), some (dN n), some (.ref (BL r)), some (dN p), some (.ref (BL r + 1)), some (.ref (BL r + 2)), some (dN (1 + i)), z7] ∧
            h' = DH S1 (r ++ [.lst (ps.map dN), .lst ((List.range (n - (p + 1))).map fun i => dN (p + 1 + i)), .lst ((inn p (1 + i) (out_ p i) j).map dN)]))
          ⟨_, rfl, rfl⟩ (fun j y δ1 h1 hi hq => by
            obtain ⟨hj, rfl⟩ := range1_at hi
            obtain ⟨z7, rfl, rfl⟩ := hq
            refine ⟨rfl, ?_⟩
            have hb : 1 + i < (inn p (1 + i) (out_ p i) j).length := by rw [inn_len, out_len]; omega
            simp_arith [kIfs_]
            split
            · rename_i cc
              exact ⟨_, rfl, by rw [map_set, inn_s, stp, if_pos cc]⟩
            · rename_i cc
              exact ⟨_, rfl, by rw [inn_s, stp, if_neg cc]⟩) (fun _ _ _ => rfl)
        simp_arith [true_and]
        exact ⟨_, _, rfl, by rw [out_s]⟩) (fun _ _ _ => rfl)
    have ol := out_len (p := p) (i := p - 1)
    simp_arith [true_and]
    rw [comp_map (g := fun x => dN ((x + 1) % p)) rfl ?hf]
    case hf => intro x _; simp_arith [true_and]
    simp_arith [true_and]
    refine ⟨[Wl n (at_ ((List.range p).map (fun x => (x + 1) % p) ++ [p])) (p + 1), Wl n (at_ (out_ p (p - 1))) (p + 1)], S1, ?_, ?_, by simp⟩
    · rw [Wl_at_split (by omega) (by simp), Wl_at_split (by omega) ol]
      simp only [List.map_cons, List.map_nil, P, List.map_append, List.map_map]
      simp only [List.append_assoc, List.cons_append, List.nil_append]
      rfl
    · intro q hq
      simp only [List.mem_cons, List.not_mem_nil, or_false] at hq
      rcases hq with rfl | rfl
      · have lo : ∀ x, x < p → at_ ((List.range p).map (fun x => (x + 1) % p) ++ [p]) x = (x + 1) % p := fun x hx => by
          rw [at_getD (by simp; omega), List.getElem_append_left (by simpa using hx)]; simp
        have hi : at_ ((List.range p).map (fun x => (x + 1) % p) ++ [p]) p = p := by
          rw [at_getD (by simp), List.getElem_append_right (by simp)]; simp
        refine Wl_pm (by omega) (fun x hx => ?_) fun x y hx hy e => ?_
        · rcases Nat.lt_or_ge x p with a | a
          · rw [lo x a]; have := Nat.mod_lt (x + 1) q2; omega
          · rw [show x = p by omega, hi]; omega
        · rcases Nat.lt_or_ge x p with a | a <;> rcases Nat.lt_or_ge y p with b | b
          · rw [lo x a, lo y b] at e
            exact (rot_pm (m := p)).inj a b (by rw [rot_at a, rot_at b]; exact e)
          · rw [lo x a, show y = p by omega, hi] at e; have := Nat.mod_lt (x + 1) q2; omega
          · rw [lo y b, show x = p by omega, hi] at e; have := Nat.mod_lt (y + 1) q2; omega
          · omega
      · obtain ⟨h1, h2⟩ := out_pm p mp
        exact Wl_pm (by omega) h1 fun x y hx hy e => h2 x hx y hy e
end Mi

namespace Mi
open PySem
variable {T : Tb}
theorem sl_P {p : List Nat} {a b : Nat} {h : HS} : slF (P p) (some (a : Int)) (some (b : Int)) h = .ok (P ((p.drop a).take (b - a))) h := by
  show R.ok (D.tup (cutD (p.map dN) _ _)) h = _
  rw [cut_nn, P, ← List.map_drop, ← List.map_take]
theorem kRng3_gen {i j c : Int} {n : Nat} {h : HS} (h1 : c ≠ 0) (h2 : c.natAbs < 1073741824) (h3 : Builtin.Range.small i j c = true) (h4 : Builtin.Range.rangeSize i j c = (n : Nat)) : kRng3 [.int i, .int j, .int c] h = .ok ⟨(List.range n).map fun t => .int (i + (t : Nat) * c), none⟩ h := by
  unfold kRng3 rng3F
  simp only [h3, h4, Int.toNat_natCast, decide_eq_true h1, decide_eq_true h2, decide_true, Bool.and_self, if_true]
theorem kRng3_2 {m : Nat} {h : HS} (hm : m < 17) : kRng3 [dN 0, dN m, dN 2] h = .ok ⟨(List.range ((m + 1) / 2)).map fun t => dN (2 * t), none⟩ h := by
  have e : Builtin.Range.rangeSize ((0 : Nat) : Int) (m : Int) ((2 : Nat) : Int) = (((m + 1) / 2 : Nat) : Int) := by
    unfold Builtin.Range.rangeSize
    rw [if_pos (by omega)]
    split <;> omega
  have fl : ∀ i : Int, -100 ≤ i → i ≤ 100 → Builtin.Range.rangeFitsLong i = true := fun i a b => by
    unfold Builtin.Range.rangeFitsLong
    rw [decide_eq_true (by omega), decide_eq_true (by omega)]; rfl
  have sm : Builtin.Range.small ((0 : Nat) : Int) (m : Int) ((2 : Nat) : Int) = true := by
    unfold Builtin.Range.small
    rw [e, fl _ (by omega) (by omega), fl _ (by omega) (by omega), fl _ (by omega) (by omega), fl _ (by omega) (by omega), if_pos (by omega), fl _ (by omega) (by omega), Bool.or_true]; rfl
  rw [kRng3_gen (by omega) (by omega) sm e]
  have e2 : (fun t : Nat => D.int (((0 : Nat) : Int) + (t : Nat) * ((2 : Nat) : Int))) = fun t => dN (2 * t) := by
    funext t
    exact congrArg D.int (by omega)
  rw [e2]
/-- .. of a tuple -/
theorem sp_cycleP [H__law_cycle T] {k n : Nat} {row : List Nat} {h : HS} (hw : WF h) (hx : ∀ x ∈ row, x < n) (hn : n ≤ LIM) (hr : row.length ≤ LIM) : callD T (k + 1) "_law_cycle" [dN n, P row] h = .ok (P (cycR n row)) h := by
  rw [o__law_cycle]
  simp_arith [true_and]
  generalize e : forD _ _ _ _ _ = o
  obtain ⟨δ', h', rfl, ⟨u, rfl⟩, rfl⟩ := for_ex e (fun i δ' h' => (∃ u, δ' = [some (dN n), some (P row), some (.ref h.length), u]) ∧ h' = h ++ [.lst ((rowW (List.range n) i (at_ row) fun i => at_ row ((i + 1) % row.length)).map dN)])
    ⟨⟨_, rfl⟩, rfl⟩ (fun i x δ1 h1 hi hq => by
      obtain ⟨⟨u, rfl⟩, rfl⟩ := hq
      obtain ⟨hlt, rfl⟩ := range_at hi
      have l1 := at_lt hx hlt
      have l2 : (i + 1) % row.length < row.length := Nat.mod_lt _ (by omega)
      have l3 : 0 < row.length := by omega
      refine ⟨rfl, ?_⟩
      simp_arith [map_set]
      exact ⟨⟨_, rfl⟩, by rw [rowW_succ]⟩) (fun _ _ _ => rfl)
  simp_arith [true_and]
  rfl
/-- several drawn ones -/
theorem shuf_many [H__law_take T] [H__law_shuffled T] {k n m : Nat} {own : List Nat} {i : Nat} {δ : En} {S : DSt} {r : HS} {o : R (List D)} (hr : WFr r) (hn : n ≤ 16)
    (hb : ∀ x, turnD (callD T (k + 2)) own (.nm i) .tru (.call "_law_shuffled" (.cons (.var 0) (.cons (.var 1) .nil))) δ x = fun h => ((callD T (k + 2) "_law_shuffled" [.ref 1, dN n] h).tr h.length).bind kT2)
    (e : compD (liveOk none) (turnD (callD T (k + 2)) own (.nm i) .tru (.call "_law_shuffled" (.cons (.var 0) (.cons (.var 1) .nil))) δ) ((List.range m).map dN) (DH S r) = o) :
    ∃ L S', o = .ok (L.map P) (DH S' r) ∧ Pms n L ∧ L.length = m := by
  obtain ⟨ys, h', rfl, L, S', rfl, rfl, hL, hl⟩ := comp_ex e (fun j ys h' => ∃ L S', ys = L.map P ∧ h' = DH S' r ∧ Pms n L ∧ L.length = j) ⟨[], S, rfl, rfl, fun p hp => by (cases hp), rfl⟩
    (fun j x ys h hj hq => by
      obtain ⟨L, S', rfl, rfl, hL, hl⟩ := hq
      obtain ⟨p, S2, e2, hp⟩ := sp_shuffled (T := T) (k := k) (n := n) (S := S') hr (by omega)
      refine ⟨rfl, [P p], DH S2 r, ?_, L ++ [p], S2, by simp, rfl, hL.app (Pms.one hp), by simp [hl]⟩
      rw [hb]; show ((callD T (k + 2) "_law_shuffled" [.ref 1, dN n] (DH S' r)).tr (BL r)).bind _ = _; rw [e2, tr_ok', trim_dn rfl]; rfl) (fun _ _ _ => rfl)
  exact ⟨L, S', rfl, hL, by simpa using hl⟩
end Mi

namespace Mi
open PySem
variable {T : Tb}
theorem iota_nd {s : Nat} : (List.range s).Nodup := List.nodup_range
theorem iota_lt {s n : Nat} (h : s ≤ n) : ∀ x ∈ List.range s, x < n := fun x hx => by have := List.mem_range.mp hx; omega
theorem flip_pm {n s : Nat} (h0 : 0 < s) (hn : s ≤ n) : Pm n (Wl n (fun x => (s - x) % s) s) := by
  refine Wl_pm hn (fun x hx => Nat.mod_lt _ h0) fun x y hx hy e => ?_
  have md : ∀ x, x < s → (s - x) % s = if x = 0 then 0 else s - x := fun x hx => by
    split
    · rename_i c; subst c; rw [Nat.sub_zero, Nat.mod_self]
    · exact Nat.mod_eq_of_lt (by omega)
  rw [md x hx, md y hy] at e
  split at e <;> split at e <;> omega
section
variable [H__law_take T] [H__law_shuffled T] [H__law_cycle T] [H__law_disjoint T] [H__law_pick T] [H__law_imprimitive T] [H__law_affine T] [H__law_projective T] [H__law_times T] [H__law_inverse T] [H__law_comm T] [H__law_gens_of T]
theorem cyc_at {k n s : Nat} {S : DSt} {r : HS} (hr : WFr r) (hn : n ≤ 16) (hs : s ≤ n) : callD T (k + 1) "_law_cycle" [dN n, .ref (BL r)] (DH S (r ++ [.lst ((List.range s).map dN)])) = .ok (P (cycR n (List.range s))) (DH S (r ++ [.lst ((List.range s).map dN)])) :=
  sp_cycle (T := T) (k := k) (n := n) (m := BL r) (row := List.range s) (h := DH S (r ++ [.lst ((List.range s).map dN)])) (WF.dh (by walk_at "ms")) (by simp_arith [true_and]) (iota_lt hs) (by unfold LIM; omega) (by simp [LIM]; omega)
theorem sp_gens {k n : Nat} {S : DSt} {r : HS} (hr : WFr r) (h1 : 1 ≤ n) (hn : n ≤ 16) :
    ∃ L S', callD T (k + 4) "_law_gens_of" [.ref 1, dN n] (DH S r) = .ok (.ref (BL r)) (DH S' (r ++ [.lst (L.map P)])) ∧ Pms n L ∧ L.length ≤ 16 := by
  rw [o__law_gens_of]
  have t10 : (tkR S 10).1 < 10 := tk_lt (by omega)
  have n0 : 0 < n := h1
  have nb : n < 1073741824 := by omega
  have e0 := sp_take (T := T) (k := k + 2) (m := 10) (S := S) (r := r) (by omega) (by omega)
  generalize (tkR S 10).1 = q at t10 e0
  generalize (tkR S 10).2 = S1 at e0
  rcases (by omega : q = 0 ∨ q = 1 ∨ q = 2 ∨ q = 3 ∨ q = 4 ∨ q = 5 ∨ q = 6 ∨ q = 7 ∨ q = 8 ∨ q = 9) with rfl | rfl | rfl | rfl | rfl | rfl | rfl | rfl | rfl | rfl
  · have t3 : (tkR S1 3).1 < 3 := tk_lt (by omega)
    simp_arith [e0, sp_take (T := T) (k := k + 2) (m := 3) (S := S1) (r := r) (by omega) (by omega)]
    generalize e : compD _ _ _ _ = o
    obtain ⟨L, S2, rfl, hL, hl⟩ := shuf_many (T := T) (k := k + 1) (n := n) hr hn (fun x => by funext h; simp_arith [true_and]) e
    simp_arith [true_and]
    exact ⟨L, S2, rfl, hL, by omega⟩
  · obtain ⟨p, S2, e2, hp⟩ := sp_shuffled (T := T) (k := k + 1) (n := n) (S := S1) hr (by omega)
    simp_arith [e0, e2]
    exact ⟨[p], S2, rfl, Pms.one hp, by simp⟩
  · have tn := tk_lt (S := S1) n0
    simp_arith [e0, sp_take (T := T) (k := k + 2) (m := n) (S := S1) (r := r) n0 nb]
    generalize hS2 : (tkR S1 n).2 = S2
    generalize hs : 1 + (tkR S1 n).1 = s
    have s1 : 1 ≤ s := by omega
    have s0 : 0 < s := by omega
    have s2 : s ≤ n := by omega
    rw [comp_map (g := fun x => dN ((s - x) % s)) rfl ?hf]
    case hf => intro x hx; have := List.mem_range.mp hx; simp_arith [true_and]
    simp_arith [cyc_at (T := T) (k := k + 2) (S := S2) hr hn s2]
    refine ⟨[cycR n (List.range s), Wl n (fun x => (s - x) % s) s], S2, ?_, ?_, by simp⟩
    · rw [Wl_split s2]
      simp only [List.map_cons, List.map_nil, P, List.map_append, List.map_map]
      rfl
    · exact (Pms.one (cycR_pm iota_nd (iota_lt s2))).app (Pms.one (flip_pm s0 s2))
  · obtain ⟨L, S2, e2, hL, hl⟩ := sp_disjoint (T := T) (k := k + 1) (n := n) (S := S1) hr hn
    simp_arith [e0, e2]
    exact ⟨L, S2, rfl, hL, by omega⟩
  · obtain ⟨L, S2, e2, hL, hl⟩ := sp_imprimitive (T := T) (k := k) (n := n) (S := S1) hr h1 hn
    simp_arith [e0, e2]
    exact ⟨L, S2, rfl, hL, by omega⟩
  · obtain ⟨L, S2, e2, hL, hl⟩ := sp_affine (T := T) (k := k + 1) (n := n) (S := S1) hr h1 hn
    simp_arith [e0, e2]
    exact ⟨L, S2, rfl, hL, by omega⟩
  · have tn := tk_lt (S := S1) n0
    simp_arith [e0, sp_take (T := T) (k := k + 2) (m := n) (S := S1) (r := r) n0 nb]
    generalize hS2 : (tkR S1 n).2 = S2
    generalize hs : 1 + (tkR S1 n).1 = s
    have s1 : 1 ≤ s := by omega
    have s2 : s ≤ n := by omega
    have go : ∀ o S3, o ≤ n → max 1 o ≤ n := fun o S3 ho => by omega
    have m1 : min s 3 ≤ n := by omega
    have e2 := sp_take (T := T) (k := k + 2) (m := 2) (S := S2) (r := r) (by omega) (by omega)
    generalize (tkR S2 2).1 = q2 at e2
    generalize (tkR S2 2).2 = S3 at e2
    by_cases c : q2 = 0
    · subst c
      have m2 : max 1 s ≤ n := by omega
      simp_arith [e2, cyc_at (T := T) (k := k + 2) (S := S3) hr hn m1, cyc_at (T := T) (k := k + 2) (S := S3) hr hn m2]
      exact ⟨[cycR n (List.range (min s 3)), cycR n (List.range (max 1 s))], S3, rfl, (Pms.one (cycR_pm iota_nd (iota_lt m1))).app (Pms.one (cycR_pm iota_nd (iota_lt m2))), by simp⟩
    · have m2 : max 1 (s - 1 + s % 2) ≤ n := by omega
      simp_arith [e2, c, cyc_at (T := T) (k := k + 2) (S := S3) hr hn m1, cyc_at (T := T) (k := k + 2) (S := S3) hr hn m2]
      exact ⟨[cycR n (List.range (min s 3)), cycR n (List.range (max 1 (s - 1 + s % 2)))], S3, rfl, (Pms.one (cycR_pm iota_nd (iota_lt m1))).app (Pms.one (cycR_pm iota_nd (iota_lt m2))), by simp⟩
  · obtain ⟨p, S2, e2, hp⟩ := sp_shuffled (T := T) (k := k + 1) (n := n) (S := S1) hr (by omega)
    simp_arith [e0, e2, sp_take (T := T) (k := k + 2) (m := 2) (S := S2) (r := r) (by omega) (by omega)]
    generalize hS3 : (tkR S2 2).2 = S3
    generalize min n (2 + (tkR S2 2).1) = s
    have tn := tk_lt (S := S3) n0
    have tn2 : (tkR S3 n).1 < 17 := by omega
    simp_arith [e0, sp_take (T := T) (k := k + 2) (m := n) (S := S3) (r := r) n0 nb, kRng3_2 tn2]
    rw [comp_map (g := fun t => P (cycR n ((p.drop (2 * t)).take (2 * t + s - 2 * t)))) rfl ?hf]
    case hf =>
      intro t _
      have sub : ∀ x ∈ (p.drop (2 * t)).take (2 * t + s - 2 * t), x < n := fun x hx => hp.lt x (List.mem_of_mem_drop (List.mem_of_mem_take hx))
      have len : ((p.drop (2 * t)).take (2 * t + s - 2 * t)).length ≤ LIM := by
        have := hp.len
        rw [List.length_take, List.length_drop]
        unfold LIM; omega
      simp_arith [sl_P, sp_cycleP (T := T) (k := k + 2) (n := n) (WF.dh (S := (tkR S3 n).2) hr) sub (by unfold LIM; omega) len]
    simp_arith [true_and]
    refine ⟨(List.range (((tkR S3 n).1 + 1) / 2)).map fun t => cycR n ((p.drop (2 * t)).take (2 * t + s - 2 * t)), _, by rw [List.map_map]; rfl, fun q hq => ?_, by simp; omega⟩
    obtain ⟨t, _, rfl⟩ := List.mem_map.mp hq
    exact cycR_pm ((List.take_sublist _ _).nodup ((List.drop_sublist _ _).nodup hp.nd)) fun x hx => hp.lt x (List.mem_of_mem_drop (List.mem_of_mem_take hx))
  · obtain ⟨L, S2, e2, hL, hl⟩ := sp_projective (T := T) (k := k + 1) (n := n) (S := S1) hr h1 hn
    simp_arith [e0, e2]
    exact ⟨L, S2, rfl, hL, by omega⟩
  · simp_arith [e0]
    generalize e : compD _ _ _ _ = o
    obtain ⟨L, S2, rfl, hL, hl⟩ := shuf_many (T := T) (k := k + 1) (n := n) hr hn (fun x => by funext h; simp_arith [true_and]) e
    obtain ⟨a, b, rfl⟩ : ∃ a b, L = [a, b] := by
      match L, hl with
      | [a, b], _ => exact ⟨a, b, rfl⟩
    have ha := hL a (by simp)
    have hb := hL b (by simp)
    have wr : WF (DH S2 (r ++ [.lst [P a, P b]])) := WF.dh (by walk_at "ms")
    simp_arith [List.map_cons, List.map_nil, sp_lcomm (T := T) (k := k + 1) wr ha hb hn, sp_ltimes (T := T) (k := k + 2) wr (ha.lts ha) (ha.l0 hn)]
    exact ⟨[_, _], S2, rfl, (Pms.one ((ha.inv.tm hb.inv).tm (ha.tm hb))).app (Pms.one (ha.tm ha)), by simp⟩
end
end Mi

namespace Mi
open PySem
variable {T : Tb}
theorem Pms.drop {n k : Nat} {L : List (List Nat)} (h : Pms n L) : Pms n (L.drop k) := fun p hp => h p (List.mem_of_mem_drop hp)
theorem Pms.take {n k : Nat} {L : List (List Nat)} (h : Pms n L) : Pms n (L.take k) := fun p hp => h p (List.mem_of_mem_take hp)
theorem Pms.map {n : Nat} {L : List (List Nat)} {f : List Nat → List Nat} (h : Pms n L) (hf : ∀ p, Pm n p → Pm n (f p)) : Pms n (L.map f) := fun p hp => by
  obtain ⟨q, hq, rfl⟩ := List.mem_map.mp hp
  exact hf q (h q hq)
theorem dh_old {S : DSt} {r : HS} {l : HS} {g : Nat} {c : Cell} (hg : ∀ S, (DH S r)[g]? = some c) : ∀ S, (DH S (r ++ l))[g]? = some c := fun S => by
  have := hg S
  rw [gdo]
  · exact this
  · rw [← DH_len (S := S)]; exact (List.getElem?_eq_some_iff.mp this).1
section
variable [H__law_take T] [H__law_group T]
theorem grp_c {k n g : Nat} {x1 : D} {z4 z5 : Option D} {S : DSt} {r : HS} {L : List (List Nat)} (hr : WFr r) (hg : ∀ S, (DH S r)[g]? = some (.lst (L.map P))) (hb : g < BL r) (hL : Pms n L) (hl : L.length ≤ 32) :
    ∃ L' S' m, execB (callD T (k + 3)) c__law_group.tl.tl.tl.tl [some (.ref 1), some x1, some (dN n), some (.ref g), z4, z5] (DH S r) = .ret (.tup [dN n, .tup (L'.map P)]) (DH S' (r ++ m)) ∧ Pms n L' ∧ L'.length ≤ 32 := by
  simp only [c__law_group, CSs.tl]
  have e := sp_take (T := T) (k := k + 2) (m := 9) (S := S) (r := r) (by omega) (by omega)
  generalize (tkR S 9).1 = q at e
  generalize (tkR S 9).2 = S1 at e
  have l1 : L.length ≤ LIM := by unfold LIM; omega
  have l2 : (L.drop 1).length ≤ LIM := by rw [List.length_drop]; omega
  by_cases c : q = 0
  · subst c
    simp_arith [e, sl_ref, slC_, hg, cut_n0, dh_old hg]
    exact ⟨L.drop 1, S1, [.lst ((L.drop 1).map P)], by simp, hL.drop, by rw [List.length_drop]; omega⟩
  · simp_arith [e, c, hg]
    exact ⟨L, S1, [], by simp, hL, hl⟩
theorem P_append {L : List (List Nat)} {a b c : List Nat} : L.map P ++ [P a, P b, P c] = (L ++ [a, b, c]).map P := by simp
theorem cut_3 {a b c : D} {k : Nat} (hk : k < 3) : cutD [a, b, c] none (some ((1 + k : Nat) : Int)) = [a, b, c].take (1 + k) := cut_0n
theorem grp_b [H__law_times T] {k n g : Nat} {x1 : D} {z4 z5 : Option D} {S : DSt} {r : HS} {L : List (List Nat)} (hn : n ≤ 16) (hr : WFr r) (hg : ∀ S, (DH S r)[g]? = some (.lst (L.map P))) (hb : g < BL r) (hL : Pms n L) (hl : L.length ≤ 16) :
    ∃ L' S' m, execB (callD T (k + 3)) c__law_group.tl.tl.tl [some (.ref 1), some x1, some (dN n), some (.ref g), z4, z5] (DH S r) = .ret (.tup [dN n, .tup (L'.map P)]) (DH S' (r ++ m)) ∧ Pms n L' ∧ L'.length ≤ 32 := by
  have ec : c__law_group.tl.tl.tl = .cons (CSs.hd c__law_group.tl.tl.tl) c__law_group.tl.tl.tl.tl := rfl
  rw [ec, z_cons]
  generalize hK : execB (callD T (k + 3)) c__law_group.tl.tl.tl.tl = K
  simp only [c__law_group, CSs.tl, CSs.hd]
  have e := sp_take (T := T) (k := k + 2) (m := 4) (S := S) (r := r) (by omega) (by omega)
  generalize (tkR S 4).1 = q at e
  generalize (tkR S 4).2 = S1 at e
  cases L with
  | nil =>
    simp_arith [hg, List.map_nil]
    subst hK
    exact grp_c (T := T) hr hg hb hL (by simp)
  | cons p L =>
    by_cases c : q = 0
    · subst c
      have hp := hL p (by simp)
      obtain ⟨p2, hp2⟩ : ∃ p2, (p :: L).getLast? = some p2 := ⟨_, List.getLast?_eq_some_getLast (by simp)⟩
      have hq := hL p2 (List.mem_of_getLast? hp2)
      have hlast : (P p :: L.map P).getLast? = some (P p2) := by rw [← List.map_cons, List.getLast?_map, hp2]; rfl
      have hg' : ∀ S, (DH S r)[g]? = some (.lst (P p :: L.map P)) := hg
      have e3 := sp_take (T := T) (k := k + 2) (m := 3) (S := S1) (r := r ++ [.lst ([tm p p2, p, List.range n].map P)]) (by omega) (by omega)
      have t3 := tk_lt (S := S1) (m := 3) (by omega)
      generalize (tkR S1 3).1 = q3 at e3 t3
      generalize (tkR S1 3).2 = S3 at e3
      have P3 : [P (tm p p2), P p, P (List.range n)] = [tm p p2, p, List.range n].map P := rfl
      have Pc : P p :: (L.map P ++ ([tm p p2, p, List.range n].take (1 + q3)).map P) = ((p :: L) ++ [tm p p2, p, List.range n].take (1 + q3)).map P := by simp
      have hq3 : ([tm p p2, p, List.range n].take (1 + q3)).length ≤ 3 := by rw [List.length_take]; exact Nat.min_le_right _ _
      have hl' : L.length + 1 ≤ 16 := by simpa using hl
      simp_arith [e, hg', hlast, sp_ltimes (T := T) (k := k + 2) (h := DH S1 r) (WF.dh hr) (hp.lts hq) (hp.l0 hn), e3, P3]
      rw [Pc]
      subst hK
      obtain ⟨L', S', m, e5, h1, h2⟩ := grp_c (T := T) (k := k) (n := n) (g := BL r) (x1 := x1) (z4 := z4) (z5 := z5) (S := S3) (r := r ++ [.lst (((p :: L) ++ [tm p p2, p, List.range n].take (1 + q3)).map P)]) (by walk_at "ms") (fun S => by rw [gd0]; rfl) (by rw [BL_app]; simp)
        (hL.app fun x hx => by
          have hx := List.mem_of_mem_take hx
          simp only [List.mem_cons, List.not_mem_nil, or_false] at hx
          rcases hx with rfl | rfl | rfl
          · exact hp.tm hq
          · exact hp
          · exact Pm.range) (by rw [List.length_append, List.length_cons]; omega)
      exact ⟨L', S', [_] ++ m, by rw [e5, List.append_assoc], h1, h2⟩
    · simp_arith [hg, List.map_cons, e, c]
      subst hK
      exact grp_c (T := T) hr hg hb hL (by simp at hl ⊢; omega)
/-- the group: n, its generators -/
theorem sp_group [H__law_shuffled T] [H__law_cycle T] [H__law_disjoint T] [H__law_pick T] [H__law_imprimitive T] [H__law_affine T] [H__law_projective T] [H__law_times T] [H__law_inverse T] [H__law_comm T] [H__law_gens_of T] [H__law_conj T]
    {k most : Nat} {S : DSt} {r : HS} (hr : WFr r) (h1 : 1 ≤ most) (hn : most ≤ 16) :
    ∃ n L S', callD T (k + 5) "_law_group" [.ref 1, dN most] (DH S r) = .ok (.tup [dN n, .tup (L.map P)]) (DH S' r) ∧ 1 ≤ n ∧ n ≤ most ∧ Pms n L ∧ L.length ≤ 32 := by
  rw [o__law_group]
  have ec : ∀ a b c d, (CSs.cons a (.cons b (.cons c d))) = (CSs.cons a (.cons b (.cons c d))) := fun _ _ _ _ => rfl
  generalize hK : (c__law_group.tl.tl.tl) = K
  simp only [c__law_group, CSs.tl] at hK
  rw [hK]
  have em := tk_lt (S := S) (m := most) (by omega)
  simp_arith [sp_take (T := T) (k := k + 3) (m := most) (S := S) (r := r) (by omega) (by omega)]
  generalize hS1 : (tkR S most).2 = S1
  generalize hnn : 1 + (tkR S most).1 = n
  have n1 : 1 ≤ n := by omega
  have n2 : n ≤ most := by omega
  obtain ⟨L, S2, e2, hL, hl⟩ := sp_gens (T := T) (k := k) (n := n) (S := S1) hr n1 (by omega)
  have wr : WFr (r ++ [.lst (L.map P)]) := by walk_at "ms"
  have e3 := sp_take (T := T) (k := k + 3) (m := 2) (S := S2) (r := r ++ [.lst (L.map P)]) (by omega) (by omega)
  generalize (tkR S2 2).1 = q at e3
  generalize (tkR S2 2).2 = S3 at e3
  by_cases c : q = 0
  · subst c
    obtain ⟨p, S4, e4, hp⟩ := sp_shuffled (T := T) (k := k + 2) (n := n) (S := S3) wr (by omega)
    simp_arith [e2, e3, e4]
    rw [comp_map (g := fun p' => P (cj p' p)) (by rw [live_some, gd0]; exact decide_eq_true rfl) ?hf]
    case hf =>
      intro x hx
      have h2 := hL x hx
      simp_arith [sp_lconj (T := T) (k := k + 3) (h := DH S4 (r ++ [.lst (L.map P)])) (WF.dh wr) (h2.lts h2) (fun y hy => by rw [h2.len]; exact hp.lt y hy) (by rw [hp.len, h2.len]) (h2.l0 (by omega))]
    have Pq : (L.map fun p' => P (cj p' p)) = (L.map fun p' => cj p' p).map P := by rw [List.map_map]; rfl
    rw [Pq]
    simp_arith [true_and]
    subst hK
    obtain ⟨L', S', m, e5, h1, h2⟩ := grp_b (T := T) (k := k + 1) (n := n) (g := BL r + 1) (x1 := dN most) (z4 := some (P p)) (z5 := none) (S := S4) (r := r ++ [.lst (L.map P), .lst ((L.map fun p' => cj p' p).map P)]) (by omega) (by walk_at "ms") (fun S => by rw [gdk]; rfl) (by rw [BL_app]; simp)
      (hL.map fun q hq => hq.cj hp) (by simpa using hl)
    refine ⟨n, L', S', ?_, n1, n2, h1, h2⟩
    rw [c__law_group] at e5
    simp only [CSs.tl] at e5
    rw [e5, fin_ret, List.append_assoc]
    exact trim_d0 hr (by walk_at "ms") rfl
  · simp_arith [e2, e3, c]
    subst hK
    obtain ⟨L', S', m, e5, h1, h2⟩ := grp_b (T := T) (k := k + 1) (n := n) (g := BL r) (x1 := dN most) (z4 := none) (z5 := none) (S := S3) (r := r ++ [.lst (L.map P)]) (by omega) (by walk_at "ms") (fun S => by rw [gd0]; rfl) (by rw [BL_app]; simp)
      hL hl
    refine ⟨n, L', S', ?_, n1, n2, h1, h2⟩
    rw [c__law_group] at e5
    simp only [CSs.tl] at e5
    rw [e5, fin_ret, List.append_assoc]
    exact trim_d0 hr (by walk_at "ms") rfl
end
end Mi

namespace Mi
open PySem
variable {T : Tb}
/-- the group that some permutations generate -/
inductive Gen (n : Nat) (L : List (List Nat)) : List Nat → Prop
  | one : Gen n L (List.range n)
  | gen {p} (h : p ∈ L) : Gen n L p
  | mul {p q} (h1 : Gen n L p) (h2 : Gen n L q) : Gen n L (tm p q)
  | inv {p} (h : Gen n L p) : Gen n L (inv p)
theorem Gen.pm {n : Nat} {L : List (List Nat)} {p : List Nat} (hL : Pms n L) (h : Gen n L p) : Pm n p := by
  induction h with
  | one => exact Pm.range
  | gen h => exact hL _ h
  | mul _ _ a b => exact a.tm b
  | inv _ a => exact a.inv
/-- the group as data -/
abbrev G (n : Nat) (L : List (List Nat)) : D := .tup [dN n, .tup (L.map P)]
section
variable [H__law_take T] [H__law_pick T] [H__law_times T] [H__law_inverse T] [H__law_some T]
theorem sp_some {k n : Nat} {L : List (List Nat)} {S : DSt} {r : HS} (hr : WFr r) (hn : n ≤ 16) (hL : Pms n L) (hl : L.length < 1000) :
    ∃ p S', callD T (k + 3) "_law_some" [.ref 1, G n L] (DH S r) = .ok (P p) (DH S' r) ∧ Gen n L p := by
  rw [o__law_some]
  have t := tk_lt (S := S) (m := 12) (by omega)
  simp_arith [sp_take (T := T) (k := k + 1) (m := 12) (S := S) (r := r) (by omega) (by omega)]
  generalize hS1 : (tkR S 12).2 = S1
  generalize e : forD _ _ _ _ _ = o
  obtain ⟨δ', h', rfl, S', p, z3, z4, rfl, rfl, hp⟩ := for_ex e (fun i δ' h' => ∃ S' p z3 z4, δ' = [some (.ref 1), some (G n L), some (P p), z3, z4] ∧ h' = DH S' r ∧ Gen n L p)
    ⟨S1, _, _, _, rfl, rfl, .one⟩ (fun i x δ1 h1 hi hq => by
      obtain ⟨S', p, z3, z4, rfl, rfl, hp⟩ := hq
      obtain ⟨hlt, rfl⟩ := range_at hi
      refine ⟨rfl, ?_⟩
      have hp1 := hp.pm hL
      cases L with
      | nil =>
        simp_arith [List.map_nil]
        exact ⟨S', p, _, _, rfl, rfl, hp⟩
      | cons q L =>
        have l0 : 0 < ((q :: L).map P).length := by simp
        have l1 : ((q :: L).map P).length < 1073741824 := by simp at hl ⊢; omega
        obtain ⟨v, hv, e2⟩ := sp_pickT (T := T) (k := k) (S := S') (r := r) (xs := (q :: L).map P) l0 l1
        rw [List.getElem?_map] at hv
        obtain ⟨q2, hq2, rfl⟩ := Option.map_eq_some_iff.mp hv
        have m2 := List.mem_of_getElem? hq2
        have pq := hL _ m2
        generalize (tkR S' ((q :: L).map P).length).2 = S2 at e2
        have e3 := sp_take (T := T) (k := k + 1) (m := 3) (S := S2) (r := r) (by omega) (by omega)
        generalize (tkR S2 3).1 = w at e3
        generalize (tkR S2 3).2 = S3 at e3
        by_cases c : 0 < w
        · simp_arith [e2, e3, c, sp_ltimes (T := T) (k := k + 1) (h := DH S3 r) (WF.dh hr) (hp1.lts pq) (hp1.l0 hn)]
          exact ⟨_, _, _, _, rfl, rfl, hp.mul (.gen m2)⟩
        · simp_arith [e2, e3, c, sp_linverse (T := T) (k := k + 1) (h := DH S3 r) (WF.dh hr) (pq.lts pq) (pq.l0 hn), sp_ltimes (T := T) (k := k + 1) (h := DH S3 r) (WF.dh hr) (hp1.lts pq.inv) (hp1.l0 hn)]
          exact ⟨_, _, _, _, rfl, rfl, hp.mul (.inv (.gen m2))⟩) (fun _ _ _ => rfl)
  simp_arith [true_and]
  exact ⟨p, S', rfl, hp⟩
theorem at_set2 {p : List Nat} {x y z a b : Nat} (hz : z < p.length) : at_ ((p.set x a).set y b) z = if y = z then b else if x = z then a else at_ p z := by
  rw [at_set (by rw [List.length_set]; exact hz), at_set hz]
theorem swap_pm {n : Nat} {p : List Nat} {x y : Nat} (hp : Pm n p) (hx : x < n) (hy : y < n) : Pm n ((p.set x (at_ p y)).set y (at_ p x)) := by
  have hl := hp.len
  have e : (p.set x (at_ p y)).set y (at_ p x) = tm (((List.range n).set x y).set y x) p := by
    refine row_ext (n := n) (by simp [hl]) (by rw [tm_len]; simp) fun z hz => ?_
    rw [at_set2 (by omega), at_tm (by simpa using hz), at_set2 (by simpa using hz), at_range hz]
    split
    · rfl
    · split <;> rfl
  rw [e]
  refine Pm.tm (Pm.of_at (by simp) (fun z hz => ?_) fun z w hz hw e => ?_) hp
  · rw [at_set2 (by simpa using hz), at_range hz]; split
    · exact hx
    · split <;> assumption
  · rw [at_set2 (by simpa using hz), at_set2 (by simpa using hw), at_range hz, at_range hw] at e
    split at e <;> split at e <;> (try split at e) <;> (try split at e) <;> omega
theorem at_set3 {p : List Nat} {x y z w a b c : Nat} (hw : w < p.length) : at_ (((p.set x a).set y b).set z c) w = if z = w then c else if y = w then b else if x = w then a else at_ p w := by
  rw [at_set (by simpa using hw), at_set2 hw]
theorem rot3_pm {n : Nat} {p : List Nat} {x y z : Nat} (hp : Pm n p) (hx : x < n) (hy : y < n) (hz : z < n) (d1 : x ≠ y) (d2 : y ≠ z) (d3 : x ≠ z) : Pm n (((p.set x (at_ p y)).set y (at_ p z)).set z (at_ p x)) := by
  have hl := hp.len
  have e : ((p.set x (at_ p y)).set y (at_ p z)).set z (at_ p x) = tm ((((List.range n).set x y).set y z).set z x) p := by
    refine row_ext (n := n) (by simp [hl]) (by rw [tm_len]; simp) fun w hw => ?_
    rw [at_set3 (by omega), at_tm (by simpa using hw), at_set3 (by simpa using hw), at_range hw]
    split
    · rfl
    · split
      · rfl
      · split <;> rfl
  rw [e]
  refine Pm.tm (Pm.of_at (by simp) (fun w hw => ?_) fun w v hw hv e => ?_) hp
  · rw [at_set3 (by simpa using hw), at_range hw]; split
    · exact hx
    · split
      · exact hz
      · split <;> assumption
  · rw [at_set3 (by simpa using hw), at_set3 (by simpa using hv), at_range hw, at_range hv] at e
    split at e <;> split at e <;> (try split at e) <;> (try split at e) <;> (try split at e) <;> (try split at e) <;> omega
theorem three {x y z : Nat} (h : ¬ (sddN [x, y, z]).length < 3) : x ≠ y ∧ y ≠ z ∧ x ≠ z := by
  have key : ∀ a b : Nat, (∀ w ∈ [x, y, z], w ∈ [a, b]) → False := fun a b hs => by
    have := ph (l := sddN [x, y, z]) (m := [a, b]) (ascN_nd sddN_asc) fun w hw => hs w (mem_sddN.mp hw)
    simp at this; omega
  refine ⟨fun e => key y z fun w hw => ?_, fun e => key x z fun w hw => ?_, fun e => key y z fun w hw => ?_⟩ <;>
    (simp only [List.mem_cons, List.not_mem_nil, or_false] at hw ⊢; omega)
theorem sp_near [H__law_shuffled T] [H__law_near T] {k n : Nat} {L : List (List Nat)} {S : DSt} {r : HS} (hr : WFr r) (h1 : 1 ≤ n) (hn : n ≤ 16) (hL : Pms n L) (hl : L.length < 1000) :
    ∃ p S', callD T (k + 4) "_law_near" [.ref 1, G n L] (DH S r) = .ok (P p) (DH S' r) ∧ Pm n p := by
  rw [o__law_near]
  obtain ⟨p, S1, e1, hg⟩ := sp_some (T := T) (k := k) (S := S) hr hn hL hl
  have hp := hg.pm hL
  have hpl := hp.len
  have e2 := sp_take (T := T) (k := k + 2) (m := 4) (S := S1) (r := r) (by omega) (by omega)
  generalize (tkR S1 4).1 = q at e2
  generalize (tkR S1 4).2 = S2 at e2
  by_cases c0 : q = 0
  · subst c0
    simp_arith [e1, e2]
    exact ⟨p, S2, rfl, hp⟩
  · by_cases c1 : q = 1
    · subst c1
      obtain ⟨p2, S3, e3, hp2⟩ := sp_shuffled (T := T) (k := k + 1) (n := n) (S := S2) hr (by omega)
      simp_arith [e1, e2, e3]
      exact ⟨p2, S3, rfl, hp2⟩
    · have lim : p.length ≤ LIM := hp.l0 hn
      have e3 := fun S => sp_take (T := T) (k := k + 2) (m := n) (S := S) (r := r ++ [.lst (p.map dN)]) (by omega) (by omega)
      have t1 := tk_lt (S := S2) (m := n) (by omega)
      have t2 := tk_lt (S := (tkR S2 n).2) (m := n) (by omega)
      have t3 := tk_lt (S := (tkR (tkR S2 n).2 n).2) (m := n) (by omega)
      simp_arith [e1, e2, c0, c1, e3]
      generalize (tkR (tkR (tkR S2 n).2 n).2 n).2 = S3 at *
      generalize (tkR (tkR (tkR S2 n).2 n).2 n).1 = z at *
      generalize (tkR (tkR S2 n).2 n).1 = y at *
      generalize (tkR S2 n).1 = x at *
      have px := map_get (p := p) (x := x) (by omega)
      have py := map_get (p := p) (x := y) (by omega)
      have pz := map_get (p := p) (x := z) (by omega)
      have ex : [dN x, dN y, dN z] = [x, y, z].map dN := rfl
      have l64 : [x, y, z].length < 64 := by simp
      have go2 : ∀ S3, fin (BL r) (Fl.ret (P ((p.set x (at_ p y)).set y (at_ p x))) (DH S3 (r ++ [.lst (((p.set x (at_ p y)).set y (at_ p x)).map dN)]))) = .ok (P ((p.set x (at_ p y)).set y (at_ p x))) (DH S3 r) := fun S3 => by
        simp_arith [true_and]
      by_cases c2 : q = 2
      · subst c2
        simp_arith [px, py, map_set]
        exact ⟨_, S3, rfl, swap_pm hp t1 t2⟩
      · by_cases c3 : (sddN [x, y, z]).length < 3
        · simp_arith [c2, c3, ex, px, py, map_set]
          exact ⟨_, S3, rfl, swap_pm hp t1 t2⟩
        · obtain ⟨d1, d2, d3⟩ := three c3
          simp_arith [c2, c3, ex, px, py, pz, map_set]
          exact ⟨_, S3, rfl, rot3_pm hp t1 t2 t3 d1 d2 d3⟩
end
end Mi

namespace Mi
open PySem
variable {T : Tb}
theorem walk_F {n : Nat} {ns : List Int} {h : HS} : walkD n (.fz ns) h = .ok ⟨ns.map .int, none⟩ h := (rfl)
theorem bi_lstF {ns : List Int} {h : HS} (hl : ns.length ≤ LIM) : biF .list [.fz ns] h = .ok (.ref h.length) (h ++ [.lst (ns.map .int)]) := by
  simp only [biF, itemsD]; exact mkL_ok (by simpa using hl)
theorem cmp_PP {p q : List Nat} {h : HS} : cmpF .Eq (P p) (P q) h = some (decide (p = q)) := by
  rw [cmp_eqP pI_P pI_P, decide_eq_decide.mpr (by rw [P_inj])]
theorem cmp_nPP {p q : List Nat} {h : HS} : cmpF .NotEq (P p) (P q) h = some (decide (p ≠ q)) := by
  rw [cmp_neP pI_P pI_P, decide_not, decide_eq_decide.mpr (by rw [P_inj])]
theorem cmp_nbl {a b : Bool} {h : HS} : cmpF .NotEq (.bl a) (.bl b) h = some (a != b) := by
  show (eqD h (.bl a) (.bl b)).map (!·) = _
  rw [eqD_bl]; cases a <;> cases b <;> rfl
theorem sp_begin [H__law_begin T] {k : Nat} {ns : List Int} (hl : ns.length ≤ LIM) : ∃ s, callD T (k + 1) "_law_begin" [.fz ns] [] = .ok (.ref 1) (DH ⟨ns, 0, 0, s⟩ []) := by
  rw [o__law_begin]
  simp_arith [walk_F]
  generalize e : forD _ _ _ _ _ = o
  obtain ⟨δ', h', rfl, ⟨s, u, rfl⟩, rfl⟩ := for_ex e (fun i δ' h' => (∃ (s : Nat) (u : Option D), δ' = [some (.fz ns), some (dN s), u]) ∧ h' = []) ⟨⟨5, _, rfl⟩, rfl⟩ (fun i x δ1 h1 hi hq => by
    obtain ⟨⟨s, u, rfl⟩, rfl⟩ := hq
    obtain ⟨z, hz⟩ : ∃ z, x = .int z := by
      obtain ⟨z, _, rfl⟩ := List.mem_map.mp (List.mem_of_getElem? hi)
      exact ⟨z, rfl⟩
    subst hz
    have md : ∀ h, binF .Mod (.int z) (dN 2147483629) h = .ok (dN (z % 2147483629).toNat) h := fun h => by
      have hm : ((z % 2147483629).toNat : Int) = z % 2147483629 := Int.toNat_of_nonneg (Int.emod_nonneg _ (by decide))
      unfold binF
      simp only [show decide ((0 : Int) < ((2147483629 : Nat) : Int)) = true from rfl, if_true]
      rw [show dN (z % 2147483629).toNat = .int (z % 2147483629) from congrArg D.int hm]; rfl
    refine ⟨rfl, ?_⟩
    have t0 : ∀ v, trim 0 v [] = .ok v [] := fun _ => rfl
    simp_arith [md, bi_intI, t0]
    exact ⟨⟨_, _, rfl⟩, by trivial⟩) (fun _ _ _ => rfl)
  refine ⟨s, ?_⟩
  have nl : (([] : HS)).length = 0 := rfl
  have t1 : trim 0 (.ref 0) [.lst (ns.map .int)] = .ok (.ref 0) [.lst (ns.map .int)] := trim_one (h := [])
  simp_arith [bi_lstF, t1]
  exact (if_neg (by simp)).trans rfl
end Mi

namespace Mi
/-! ## words: their values, reduced words, inverse words -/
/-- the permutation of a letter -/
def lpm (L : List (List Nat)) (z : Int) : List Nat := if z > 0 then L.getD (z.natAbs - 1) [] else inv (L.getD (z.natAbs - 1) [])
def GoodZ (many : Nat) (z : Int) : Prop := z ≠ 0 ∧ z.natAbs ≤ many
def GoodW (many : Nat) (w : List Int) : Prop := ∀ z ∈ w, GoodZ many z
/-- a point along a word -/
def actW (L : List (List Nat)) (x : Nat) (w : List Int) : Nat := w.foldl (fun x z => at_ (lpm L z) x) x
def valW (n : Nat) (L : List (List Nat)) (w : List Int) : List Nat := w.foldl (fun f z => tm f (lpm L z)) (List.range n)
section
variable {n many : Nat} {L : List (List Nat)} {z : Int} {w v : List Int} {x : Nat}
theorem good_mem (hz : GoodZ L.length z) : L.getD (z.natAbs - 1) [] ∈ L := by
  have : z.natAbs - 1 < L.length := by have := hz.2; have := hz.1; omega
  rw [List.getD_eq_getElem?_getD, List.getElem?_eq_getElem this]
  exact List.getElem_mem this
theorem lpm_ok (hL : Pms n L) (hz : GoodZ L.length z) : Pm n (lpm L z) := by
  have := hL _ (good_mem hz)
  unfold lpm
  split
  · exact this
  · exact this.inv
theorem lpm_neg (hL : Pms n L) (hz : GoodZ L.length z) (hx : x < n) : at_ (lpm L (-z)) (at_ (lpm L z) x) = x := by
  have h := hL _ (good_mem hz)
  have e : (-z).natAbs = z.natAbs := Int.natAbs_neg z
  unfold lpm
  rw [e]
  rcases Int.lt_or_gt_of_ne hz.1 with c | c
  · rw [if_pos (by omega), if_neg (by omega)]
    exact (h.inv_lt hx).2
  · rw [if_neg (by omega), if_pos c]
    exact h.at_inv hx
theorem act_lt (hL : Pms n L) : ∀ {w : List Int} {x : Nat}, GoodW L.length w → x < n → actW L x w < n
  | [], _, _, hx => hx
  | z :: w, x, hw, hx => act_lt (w := w) hL (fun y hy => hw y (List.mem_cons_of_mem _ hy)) ((lpm_ok hL (hw z List.mem_cons_self)).at_lt hx)
theorem act_app {v : List Int} : actW L x (w ++ v) = actW L (actW L x w) v := List.foldl_append
theorem val_eq (hL : Pms n L) (hw : GoodW L.length w) : valW n L w = (List.range n).map fun x => actW L x w := by
  have key : ∀ (w : List Int) (f : List Nat), GoodW L.length w → f.foldl (fun a _ => a) () = () → w.foldl (fun f z => tm f (lpm L z)) f = f.map fun x => actW L x w := by
    intro w
    induction w with
    | nil => intro f _ _; simp [actW]
    | cons z r ih =>
      intro f hw _
      rw [List.foldl_cons, ih _ (fun y hy => hw y (List.mem_cons_of_mem _ hy)) rfl]
      unfold tm
      rw [List.map_map]; rfl
  exact key w _ hw rfl
theorem val_pm (hL : Pms n L) (hw : GoodW L.length w) : Pm n (valW n L w) := by
  have : ∀ (v : List Int) (f : List Nat), GoodW L.length v → Pm n f → Pm n (v.foldl (fun f z => tm f (lpm L z)) f) := by
    intro v
    induction v with
    | nil => intro f _ hf; exact hf
    | cons y r ih => intro f hv hf; exact ih _ (fun t ht => hv t (List.mem_cons_of_mem _ ht)) (hf.tm (lpm_ok hL (hv y List.mem_cons_self)))
  exact this _ _ hw Pm.range
/-! ### one step of the stack -/
def stepR (r : List Int) (z : Int) : List Int := if r.getLast? = some (-z) then r.dropLast else r ++ [z]
def redR (w : List Int) : List Int := w.foldl stepR []
theorem stepR_good {r : List Int} (hr : GoodW many r) (hz : GoodZ many z) : GoodW many (stepR r z) := by
  unfold stepR
  split
  · exact fun y hy => hr y ((List.dropLast_sublist r).subset hy)
  · intro y hy
    rcases List.mem_append.mp hy with hy | hy
    · exact hr y hy
    · rw [List.mem_singleton.mp hy]; exact hz
theorem stepR_le {r : List Int} : (stepR r z).length ≤ r.length + 1 := by
  unfold stepR
  split
  · rw [List.length_dropLast]; omega
  · rw [List.length_append]; simp
theorem fold_good : ∀ {w r : List Int}, GoodW many r → GoodW many w → GoodW many (w.foldl stepR r)
  | [], _, hr, _ => hr
  | z :: w, r, hr, hw => fold_good (w := w) (stepR_good hr (hw z List.mem_cons_self)) fun y hy => hw y (List.mem_cons_of_mem _ hy)
theorem fold_le : ∀ {w r : List Int}, (w.foldl stepR r).length ≤ r.length + w.length
  | [], _ => by simp
  | z :: w, r => by
    have h1 := fold_le (w := w) (r := stepR r z)
    have h2 := stepR_le (r := r) (z := z)
    rw [List.foldl_cons, List.length_cons]; omega
theorem red_good (hw : GoodW many w) : GoodW many (redR w) := fold_good (fun _ h => by cases h) hw
theorem act_step (hL : Pms n L) {r : List Int} (hr : GoodW L.length r) (hz : GoodZ L.length z) (hx : x < n) : actW L x (stepR r z) = at_ (lpm L z) (actW L x r) := by
  unfold stepR
  split
  · rename_i e
    obtain ⟨s, rfl⟩ := List.getLast?_eq_some_iff.mp e
    have hs : GoodW L.length s := fun y hy => hr y (List.mem_append_left _ hy)
    have hm : GoodZ L.length (-z) := hr (-z) (by simp)
    rw [List.dropLast_concat, act_app]
    have := lpm_neg hL hm (act_lt hL hs hx)
    rw [Int.neg_neg] at this
    exact this.symm
  · rw [act_app]; rfl
theorem act_fold (hL : Pms n L) (hx : x < n) : ∀ {w r : List Int}, GoodW L.length r → GoodW L.length w → actW L x (w.foldl stepR r) = actW L (actW L x r) w
  | [], _, _, _ => rfl
  | z :: w, r, hr, hw => by
    have hz := hw z List.mem_cons_self
    rw [List.foldl_cons, act_fold hL hx (w := w) (stepR_good hr hz) fun y hy => hw y (List.mem_cons_of_mem _ hy), act_step hL hr hz hx]; rfl
theorem val_red (hL : Pms n L) (hw : GoodW L.length w) : valW n L (redR w) = valW n L w := by
  rw [val_eq hL hw, val_eq hL (red_good hw)]
  refine List.map_congr_left fun x hx => ?_
  exact act_fold hL (List.mem_range.mp hx) (r := []) (fun _ h => by cases h) hw
/-! ### a word and its inverse cancel -/
/-- no neighbours cancel -/
inductive Red : List Int → Prop
  | nil : Red []
  | snoc {r : List Int} {z : Int} : Red r → r.getLast? ≠ some (-z) → Red (r ++ [z])
theorem Red.init {r : List Int} {z : Int} (h : Red (r ++ [z])) : Red r ∧ r.getLast? ≠ some (-z) := by
  generalize e : r ++ [z] = s at h
  cases h with
  | nil => simp at e
  | snoc h1 h2 =>
    obtain ⟨e1, e2⟩ := List.append_inj' e rfl
    simp at e2
    subst e1 e2
    exact ⟨h1, h2⟩
theorem Red.step {r : List Int} (h : Red r) : Red (stepR r z) := by
  unfold stepR
  split
  · rename_i e
    obtain ⟨s, rfl⟩ := List.getLast?_eq_some_iff.mp e
    rw [List.dropLast_concat]; exact h.init.1
  · rename_i e
    exact .snoc h e
theorem Red.back {r : List Int} (h : Red r) : stepR (stepR r z) (-z) = r := by
  by_cases e : r.getLast? = some (-z)
  · obtain ⟨s, rfl⟩ := List.getLast?_eq_some_iff.mp e
    have e1 : stepR (s ++ [-z]) z = s := by unfold stepR; rw [if_pos e, List.dropLast_concat]
    rw [e1]
    unfold stepR
    rw [if_neg h.init.2]
  · have e1 : stepR r z = r ++ [z] := by unfold stepR; rw [if_neg e]
    rw [e1]
    unfold stepR
    rw [if_pos (by rw [List.getLast?_concat, Int.neg_neg]), List.dropLast_concat]
def invW (w : List Int) : List Int := w.reverse.map fun z => -z
theorem cancel : ∀ {w r : List Int}, Red r → (w ++ invW w).foldl stepR r = r
  | [], r, _ => rfl
  | z :: w, r, h => by
    have e : (z :: w) ++ invW (z :: w) = z :: ((w ++ invW w) ++ [-z]) := by simp [invW]
    rw [e, List.foldl_cons, List.foldl_append, cancel (w := w) h.step]
    exact h.back
theorem red_inv : redR (w ++ invW w) = [] := cancel .nil
/-! ### taking out one pair at a time -/
/-- how the law's own loop stands: its row, its place -/
def LoopW (w row : List Int) (a : Nat) : Prop := (row.drop (a + 1)).foldl stepR (row.take (a + 1)) = redR w ∧ row.length ≤ w.length
theorem LoopW.start : LoopW w w 0 := by
  refine ⟨?_, Nat.le_refl _⟩
  cases w with
  | nil => rfl
  | cons z r =>
    rw [show (z :: r).drop (0 + 1) = r from rfl, show (z :: r).take (0 + 1) = [z] by simp]
    unfold redR; rw [List.foldl_cons]; rfl
theorem split_at {row : List Int} {a : Nat} (h : a + 1 < row.length) : row.take (a + 1) = row.take a ++ [row.getD a 0] ∧ row.drop (a + 1) = row.getD (a + 1) 0 :: row.drop (a + 2) := by
  constructor
  · rw [List.take_succ, List.getElem?_eq_getElem (by omega), List.getD_eq_getElem?_getD, List.getElem?_eq_getElem (by omega)]; rfl
  · rw [List.drop_eq_getElem_cons h, List.getD_eq_getElem?_getD, List.getElem?_eq_getElem h]; rfl
theorem LoopW.on {row : List Int} {a : Nat} (h : LoopW w row a) (hl : a + 1 < row.length) (c : row.getD a 0 + row.getD (a + 1) 0 ≠ 0) : LoopW w row (a + 1) := by
  obtain ⟨e1, e2⟩ := split_at hl
  refine ⟨?_, h.2⟩
  have h1 := h.1
  rw [e2, List.foldl_cons] at h1
  have e3 : stepR (row.take (a + 1)) (row.getD (a + 1) 0) = row.take (a + 1 + 1) := by
    have e4 : row.take (a + 1 + 1) = row.take (a + 1) ++ [row.getD (a + 1) 0] := by
      rw [List.take_succ, List.getElem?_eq_getElem hl, List.getD_eq_getElem?_getD, List.getElem?_eq_getElem hl]; rfl
    rw [e4]
    unfold stepR
    rw [if_neg]
    rw [e1, List.getLast?_concat]
    intro z
    injection z with z
    omega
  rw [e3] at h1
  exact h1
theorem LoopW.out {row : List Int} {a : Nat} (h : LoopW w row a) (hl : a + 1 < row.length) (c : row.getD a 0 + row.getD (a + 1) 0 = 0) : LoopW w (row.take a ++ row.drop (a + 2)) (a - 1) := by
  obtain ⟨e1, e2⟩ := split_at hl
  have h1 := h.1
  rw [e2, List.foldl_cons] at h1
  have e3 : stepR (row.take (a + 1)) (row.getD (a + 1) 0) = row.take a := by
    unfold stepR
    rw [if_pos (by rw [e1, List.getLast?_concat]; congr 1; omega), e1, List.dropLast_concat]
  rw [e3] at h1
  have hlt : (row.take a).length = a := by rw [List.length_take]; omega
  refine ⟨?_, by have := h.2; rw [List.length_append, List.length_take, List.length_drop]; omega⟩
  rw [← h1]
  cases a with
  | zero =>
    simp only [List.take_zero, List.nil_append, Nat.zero_sub, Nat.zero_add]
    cases row.drop 2 with
    | nil => rfl
    | cons z r =>
      rw [show (z :: r).drop 1 = r from rfl, show (z :: r).take 1 = [z] by simp, List.foldl_cons]; rfl
  | succ b =>
    have e4 : b + 1 - 1 + 1 = (row.take (b + 1)).length := by rw [hlt]; omega
    rw [e4, List.drop_left, List.take_left]
theorem LoopW.done {row : List Int} {a : Nat} (h : LoopW w row a) (hl : row.length ≤ a + 1) : row = redR w := by
  have h1 := h.1
  rw [List.drop_eq_nil_of_le hl, List.take_of_length_le hl] at h1
  exact h1
end
end Mi

namespace Mi
open PySem
variable {T : Tb}
abbrev WD (w : List Int) : D := .tup (w.map D.int)
theorem eq_ii {i j : Int} {h : HS} : cmpF .Eq (.int i) (.int j) h = some (decide (i = j)) := eqD_int (h := h)
theorem eq_i0 {i : Int} {h : HS} : cmpF .Eq (.int i) (dN 0) h = some (decide (i = 0)) := eqD_int (h := h)
theorem gt_i0 {i : Int} {h : HS} : cmpF .Gt (.int i) (dN 0) h = some (decide (i > 0)) := (rfl)
theorem lo_WD {n : Nat} {w : List Int} : D.lo n (WD w) = true := by rw [WD, lo_tup]; exact los_mapI
theorem get_gen {L : List (List Nat)} {z : Int} (hz : GoodZ L.length z) : (L.map P)[z.natAbs - 1]? = some (P (L.getD (z.natAbs - 1) [])) := by
  have : z.natAbs - 1 < L.length := by have := hz.2; have := hz.1; omega
  rw [List.getElem?_map, List.getElem?_eq_getElem this, List.getD_eq_getElem?_getD, List.getElem?_eq_getElem this]; rfl
theorem sp_letter [H_letter_value T] [H_inverse T] {k n : Nat} {L : List (List Nat)} {z : Int} {h : HS} (hw : WF h) (hn : n ≤ 16) (hL : Pms n L) (hz : GoodZ L.length z) : callD T (k + 2) "letter_value" [G n L, .int z] h = .ok (P (lpm L z)) h := by
  have hp := hL _ (good_mem hz)
  have g := get_gen hz
  have z0 : 1 ≤ z.natAbs := by have := hz.1; omega
  have ei := sp_inverse (T := T) (k := k) (h := h) hw (fun x hx => by rw [hp.len]; exact hp.lt x hx) (hp.l0 hn)
  rw [o_letter_value]
  by_cases c : z > 0
  · simp_arith [bi_absI, g, gt_i0, c]
    unfold lpm; rw [if_pos c]
  · simp_arith [bi_absI, g, gt_i0, c, ei]
    unfold lpm; rw [if_neg c]
theorem sp_value [H_value_of_word T] [H_letter_value T] [H_inverse T] [H_times T] [H_identity T] {k n : Nat} {L : List (List Nat)} {w : List Int} {h : HS} (hw : WF h) (hn : n ≤ 16) (hL : Pms n L) (hg : GoodW L.length w) :
    callD T (k + 3) "value_of_word" [G n L, WD w] h = .ok (P (valW n L w)) h := by
  have lim := LIM_v
  rw [o_value_of_word]
  simp_arith [sp_identity (T := T) (k := k + 1) (n := n) (h := h) (by omega)]
  generalize e : forD _ _ _ _ _ = o
  obtain ⟨δ', h', rfl, ⟨u, rfl⟩, rfl⟩ := for_ex e (fun i δ' h' => (∃ u, δ' = [some (G n L), some (WD w), some (P (valW n L (w.take i))), u]) ∧ h' = h) ⟨⟨_, rfl⟩, rfl⟩ (fun i x δ1 h1 hi hq => by
    obtain ⟨⟨u, rfl⟩, rfl⟩ := hq
    rw [List.getElem?_map, Option.map_eq_some_iff] at hi
    obtain ⟨z, hz, rfl⟩ := hi
    have hzg := hg z (List.mem_of_getElem? hz)
    have hgt : GoodW L.length (w.take i) := fun y hy => hg y (List.mem_of_mem_take hy)
    have hv := val_pm (n := n) hL hgt
    have hl := lpm_ok hL hzg
    have c0 : ¬ z = 0 := hzg.1
    have c1 : ¬ L.length < z.natAbs := by have := hzg.2; omega
    have e1 := sp_letter (T := T) (k := k) (h := h1) hw hn hL hzg
    have e2 := sp_times (T := T) (k := k + 1) (h := h1) hw (hv.lts hl) (hv.l0 hn)
    refine ⟨rfl, ?_⟩
    simp_arith [eq_i0, c0, bi_absI, c1, e1, e2]
    have et : valW n L (w.take (i + 1)) = tm (valW n L (w.take i)) (lpm L z) := by
      rw [List.take_succ, hz]; simp [valW, List.foldl_append]
    exact ⟨⟨_, by rw [et]⟩, trivial⟩) (fun _ _ _ => rfl)
  have el : w.take (w.map D.int).length = w := by rw [List.length_map, List.take_length]
  rw [el]
  simp_arith [true_and]
/-- a letter that is none -/
theorem forD_at {live : HS → Bool} {f : D → En → HS → Fl} {x : D} {ys : List D} {h : HS} {R : Fl} (Q : Nat → En → Prop) (hl : live h = true) : ∀ {xs : List D} {i : Nat} {δ : En}, Q i δ →
    (∀ j y δ, xs[j]? = some y → Q (i + j) δ → Nx (f y δ h) (fun δ' h' => Q (i + j + 1) δ' ∧ h' = h)) → (∀ δ, Q (i + xs.length) δ → (match f x δ h with | .next δ1 h1 => forD live f ys δ1 h1 | .cont δ1 h1 => forD live f ys δ1 h1 | .brk δ1 h1 => .next δ1 h1 | o => o) = R) → forD live f (xs ++ x :: ys) δ h = R
  | [], i, δ, q, _, hf => by
    rw [List.nil_append, forD, if_pos hl]
    exact hf δ q
  | y :: r, i, δ, q, hs, hf => by
    have h1 := hs 0 y δ rfl q
    rw [List.cons_append, forD, if_pos hl]
    have go : ∀ δ', Q (i + 1) δ' → forD live f (r ++ x :: ys) δ' h = R := fun δ' q' => forD_at Q hl (xs := r) (i := i + 1) q' (fun j y δ e qq => by
      have := hs (j + 1) y δ e (by rw [show i + (j + 1) = i + 1 + j by omega]; exact qq)
      rw [show i + (j + 1) + 1 = i + 1 + j + 1 by omega] at this
      exact this) fun δ qq => hf δ (by rw [List.length_cons, show i + (r.length + 1) = i + 1 + r.length by omega]; exact qq)
    cases e : f y δ h with
    | next δ' h' => rw [e] at h1; obtain ⟨q', rfl⟩ := h1; exact go δ' q'
    | cont δ' h' => rw [e] at h1; obtain ⟨q', rfl⟩ := h1; exact go δ' q'
    | _ => rw [e] at h1; exact h1.elim
theorem sp_value_bad [H_value_of_word T] [H_letter_value T] [H_inverse T] [H_times T] [H_identity T] {k n : Nat} {L : List (List Nat)} {w v : List Int} {z : Int} {h : HS} (hw : WF h) (hn : n ≤ 16) (hL : Pms n L) (hg : GoodW L.length w) (hz : z = 0 ∨ L.length < z.natAbs) :
    callD T (k + 3) "value_of_word" [G n L, WD (w ++ z :: v)] h = .exc "WordError" [("code", .str "letter")] h := by
  have lim := LIM_v
  rw [o_value_of_word]
  have ew : (w ++ z :: v).map D.int = w.map D.int ++ .int z :: v.map D.int := by simp
  simp_arith [sp_identity (T := T) (k := k + 1) (n := n) (h := h) (by omega), ew]
  rw [forD_at (i := 0) (δ := [some (G n L), some (WD (w ++ z :: v)), some (P (List.range n)), none]) (R := .exc "WordError" [("code", .str "letter")] [some (G n L), some (WD (w ++ z :: v)), some (P (valW n L w)), some (.int z)] h) (fun i δ' => ∃ u, δ' = [some (G n L), some (WD (w ++ z :: v)), some (P (valW n L (w.take i))), u]) rfl ⟨none, rfl⟩ ?a ?b]
  case a =>
    intro i x δ1 hi hq
    rw [Nat.zero_add] at hq ⊢
    obtain ⟨u, rfl⟩ := hq
    rw [List.getElem?_map, Option.map_eq_some_iff] at hi
    obtain ⟨z, hz, rfl⟩ := hi
    have hzg := hg z (List.mem_of_getElem? hz)
    have hgt : GoodW L.length (w.take i) := fun y hy => hg y (List.mem_of_mem_take hy)
    have hv := val_pm (n := n) hL hgt
    have hl := lpm_ok hL hzg
    have c0 : ¬ z = 0 := hzg.1
    have c1 : ¬ L.length < z.natAbs := by have := hzg.2; omega
    have e1 := sp_letter (T := T) (k := k) (h := h) hw hn hL hzg
    have e2 := sp_times (T := T) (k := k + 1) (h := h) hw (hv.lts hl) (hv.l0 hn)
    simp_arith [eq_i0, c0, bi_absI, c1, e1, e2]
    have et : valW n L (w.take (i + 1)) = tm (valW n L (w.take i)) (lpm L z) := by
      rw [List.take_succ, hz]; simp [valW, List.foldl_append]
    exact ⟨⟨_, by rw [et]⟩, trivial⟩
  case b =>
    rintro δ1 ⟨u, rfl⟩
    have el : w.take (0 + (w.map D.int).length) = w := by rw [Nat.zero_add, List.length_map, List.take_length]
    rw [el]
    by_cases c0 : z = 0
    · subst c0
      simp_arith [eq_i0]
    · have c1 : L.length < z.natAbs := hz.resolve_left c0
      simp_arith [eq_i0, c0, bi_absI, c1]
  simp_arith [true_and]
end Mi

namespace Mi
open PySem
variable {T : Tb}
theorem pop_last {m : Nat} {xs : List D} {y : D} {h : HS} : meC .pop (some (.lst (xs ++ [y]))) m [] h = .ok y (h.set m (.lst xs)) := by
  show lstMe .pop m (xs ++ [y]) [] h = _
  unfold lstMe
  have e1 : (xs ++ [y])[(xs ++ [y]).length - 1]? = some y := by simp
  simp only [e1, List.dropLast_concat]
theorem sp_reduced [H_reduced T] {k : Nat} {w : List Int} {h : HS} (hw : WF h) (hl : w.length ≤ 1000) : callD T (k + 1) "reduced" [WD w] h = .ok (WD (redR w)) h := by
  have lim := LIM_v
  rw [o_reduced]
  simp_arith [true_and]
  generalize e : forD _ _ _ _ _ = o
  obtain ⟨δ', h', rfl, ⟨u, rfl⟩, rfl⟩ := for_ex e (fun i δ' h' => (∃ u, δ' = [some (WD w), some (.ref h.length), u]) ∧ h' = h ++ [.lst ((redR (w.take i)).map D.int)]) ⟨⟨_, rfl⟩, rfl⟩ (fun i x δ1 h1 hi hq => by
    obtain ⟨⟨u, rfl⟩, rfl⟩ := hq
    rw [List.getElem?_map, Option.map_eq_some_iff] at hi
    obtain ⟨z, hz, rfl⟩ := hi
    have hil : i < w.length := (List.getElem?_eq_some_iff.mp hz).1
    have hle : (redR (w.take i)).length ≤ i := by
      have := fold_le (w := w.take i) (r := [])
      rw [List.length_take] at this
      unfold redR; simp at this ⊢; omega
    have et : redR (w.take (i + 1)) = stepR (redR (w.take i)) z := by
      rw [List.take_succ, hz]; simp [redR, List.foldl_append]
    refine ⟨rfl, ?_⟩
    rw [et]
    generalize redR (w.take i) = r at hle
    rcases List.eq_nil_or_concat r with rfl | ⟨s, y, e0⟩
    · simp_arith [List.isEmpty_nil, List.map_nil]
      exact ⟨⟨_, rfl⟩, rfl⟩
    · rw [List.concat_eq_append] at e0
      subst e0
      have eq2 : (s ++ [y]).map D.int = s.map D.int ++ [.int y] := by simp
      have em : (s.map D.int ++ [D.int y]).isEmpty = false := by simp
      have eg : (s.map D.int ++ [D.int y]).getLast? = some (.int y) := by simp
      have sl : s.length < 1000 := by simp at hle; omega
      rw [eq2]
      by_cases c : y = -z
      · have e3 : stepR (s ++ [y]) z = s := by unfold stepR; rw [if_pos (by rw [List.getLast?_concat, c]), List.dropLast_concat]
        rw [e3]
        subst c
        simp_arith [em, eg, eq_ii, pop_last]
        exact ⟨⟨_, rfl⟩, trivial⟩
      · have e3 : stepR (s ++ [y]) z = s ++ [y] ++ [z] := by unfold stepR; rw [if_neg (by rw [List.getLast?_concat]; intro q; injection q with q; exact c q)]
        rw [e3]
        simp_arith [em, eg, eq_ii, c]
        exact ⟨⟨_, rfl⟩, by simp⟩) (fun _ _ _ => rfl)
  have el : w.take (w.map D.int).length = w := by rw [List.length_map, List.take_length]
  rw [el]
  have hle : (redR w).length ≤ w.length := by
    have := fold_le (w := w) (r := [])
    simpa [redR] using this
  simp_arith [true_and]
theorem sp_inverse_word [H_inverse_word T] {k : Nat} {w : List Int} {h : HS} (hw : WF h) (hl : w.length ≤ 1000) : callD T (k + 1) "inverse_word" [WD w] h = .ok (WD (invW w)) h := by
  have lim := LIM_v
  rw [o_inverse_word]
  simp_arith [true_and]
  rw [← List.map_reverse]
  rw [comp_map (u := D.int) (g := fun z => .int (-z)) rfl ?hf]
  case hf => intro z hz; simp_arith [true_and]
  have ew : (w.reverse.map fun z => D.int (-z)) = (invW w).map D.int := by unfold invW; rw [List.map_map]; rfl
  have hl2 : (invW w).length ≤ 1000 := by unfold invW; simpa using hl
  rw [ew]
  simp_arith [true_and]
end Mi

namespace Mi
open PySem L2
def topS (i : Nat) : Stmt := PySem.Challenge.pw_symhouse_k05_words_and_their_values.main.body.getD i (.Pass ⟨0, 0, 0, 0⟩)
abbrev s_identity : Stmt := topS 4
abbrev s_times : Stmt := topS 5
abbrev s_inverse : Stmt := topS 6
abbrev s_letter_value : Stmt := topS 8
abbrev s_value_of_word : Stmt := topS 9
abbrev s_reduced : Stmt := topS 10
abbrev s_inverse_word : Stmt := topS 11
abbrev s__law_take : Stmt := topS 13
abbrev s__law_pick : Stmt := topS 14
abbrev s__law_begin : Stmt := topS 15
abbrev s__law_shuffled : Stmt := topS 16
abbrev s__law_cycle : Stmt := topS 17
abbrev s__law_disjoint : Stmt := topS 18
abbrev s__law_imprimitive : Stmt := topS 19
abbrev s__law_affine : Stmt := topS 20
abbrev s__law_projective : Stmt := topS 21
abbrev s__law_times : Stmt := topS 22
abbrev s__law_inverse : Stmt := topS 23
abbrev s__law_comm : Stmt := topS 24
abbrev s__law_gens_of : Stmt := topS 25
abbrev s__law_conj : Stmt := topS 26
abbrev s__law_group : Stmt := topS 27
abbrev s__law_word : Stmt := topS 28
def c__law_word : CSs := (.cons (.asg (.nm 3) (.lst .nil)) (.cons (.for_ (.nm 4) (.rng (.cons (.var 2) .nil)) (.cons (.ifs (.and_ (.cmp .Gt (.bi .len (.cons (.var 3) .nil)) (.lit (.int 0))) (.cmp .Eq (.call "_law_take" (.cons (.var 0) (.cons (.lit (.int 3)) .nil))) (.lit (.int 0)))) (.cons (.ex (.meth .append (.var 3) (.cons (.bin .Sub (.lit (.int 0)) (.ix (.var 3) (.bin .Sub (.neg (.lit (.int 1))) (.call "_law_take" (.cons (.var 0) (.cons (.bi .min (.cons (.lit (.int 2)) (.cons (.bi .len (.cons (.var 3) .nil)) .nil))) .nil)))))) .nil))) .nil) (.cons (.ifs (.cmp .Gt (.var 1) (.lit (.int 0))) (.cons (.ex (.meth .append (.var 3) (.cons (.bin .Mult (.bin .Add (.lit (.int 1)) (.call "_law_take" (.cons (.var 0) (.cons (.var 1) .nil)))) (.call "_law_pick" (.cons (.var 0) (.cons (.lst (.cons (.lit (.int 1)) (.cons (.bin .Sub (.lit (.int 0)) (.lit (.int 1))) .nil))) .nil)))) .nil))) .nil) .nil) .nil)) .nil)) (.cons (.ret (.bi .tuple (.cons (.var 3) .nil))) .nil)))
class H__law_word (T : Tb) : Prop where
  e : T "_law_word" = some ⟨3, 5, c__law_word⟩
theorem o__law_word {T : Tb} [H__law_word T] {k : Nat} {x0 x1 x2 : D} {h : HS} : callD T (k + 1) "_law_word" [x0, x1, x2] h = fin h.length (execB (callD T k) (.cons (.asg (.nm 3) (.lst .nil)) (.cons (.for_ (.nm 4) (.rng (.cons (.var 2) .nil)) (.cons (.ifs (.and_ (.cmp .Gt (.bi .len (.cons (.var 3) .nil)) (.lit (.int 0))) (.cmp .Eq (.call "_law_take" (.cons (.var 0) (.cons (.lit (.int 3)) .nil))) (.lit (.int 0)))) (.cons (.ex (.meth .append (.var 3) (.cons (.bin .Sub (.lit (.int 0)) (.ix (.var 3) (.bin .Sub (.neg (.lit (.int 1))) (.call "_law_take" (.cons (.var 0) (.cons (.bi .min (.cons (.lit (.int 2)) (.cons (.bi .len (.cons (.var 3) .nil)) .nil))) .nil)))))) .nil))) .nil) (.cons (.ifs (.cmp .Gt (.var 1) (.lit (.int 0))) (.cons (.ex (.meth .append (.var 3) (.cons (.bin .Mult (.bin .Add (.lit (.int 1)) (.call "_law_take" (.cons (.var 0) (.cons (.var 1) .nil)))) (.call "_law_pick" (.cons (.var 0) (.cons (.lst (.cons (.lit (.int 1)) (.cons (.bin .Sub (.lit (.int 0)) (.lit (.int 1))) .nil))) .nil)))) .nil))) .nil) .nil) .nil)) .nil)) (.cons (.ret (.bi .tuple (.cons (.var 3) .nil))) .nil))) [some x0, some x1, some x2, none, none] h) := callD_run (d := ⟨3, 5, c__law_word⟩) H__law_word.e rfl
abbrev s__law_reduced : Stmt := topS 29
def c__law_reduced : CSs := (.cons (.asg (.nm 1) (.bi .list (.cons (.var 0) .nil))) (.cons (.asg (.nm 2) (.lit (.int 0))) (.cons (.while_ (.cmp .Lt (.bin .Add (.var 2) (.lit (.int 1))) (.bi .len (.cons (.var 1) .nil))) (.cons (.ifs (.cmp .Eq (.bin .Add (.ix (.var 1) (.var 2)) (.ix (.var 1) (.bin .Add (.var 2) (.lit (.int 1))))) (.lit (.int 0))) (.cons (.asg (.nm 1) (.bin .Add (.slice (.var 1) .no (.so (.var 2))) (.slice (.var 1) (.so (.bin .Add (.var 2) (.lit (.int 2)))) .no))) (.cons (.asg (.nm 2) (.bi .max (.cons (.lit (.int 0)) (.cons (.bin .Sub (.var 2) (.lit (.int 1))) .nil)))) .nil)) (.cons (.asg (.nm 2) (.bin .Add (.var 2) (.lit (.int 1)))) .nil)) .nil)) (.cons (.ret (.bi .tuple (.cons (.var 1) .nil))) .nil))))
class H__law_reduced (T : Tb) : Prop where
  e : T "_law_reduced" = some ⟨1, 3, c__law_reduced⟩
theorem o__law_reduced {T : Tb} [H__law_reduced T] {k : Nat} {x0 : D} {h : HS} : callD T (k + 1) "_law_reduced" [x0] h = fin h.length (execB (callD T k) (.cons (.asg (.nm 1) (.bi .list (.cons (.var 0) .nil))) (.cons (.asg (.nm 2) (.lit (.int 0))) (.cons (.while_ (.cmp .Lt (.bin .Add (.var 2) (.lit (.int 1))) (.bi .len (.cons (.var 1) .nil))) (.cons (.ifs (.cmp .Eq (.bin .Add (.ix (.var 1) (.var 2)) (.ix (.var 1) (.bin .Add (.var 2) (.lit (.int 1))))) (.lit (.int 0))) (.cons (.asg (.nm 1) (.bin .Add (.slice (.var 1) .no (.so (.var 2))) (.slice (.var 1) (.so (.bin .Add (.var 2) (.lit (.int 2)))) .no))) (.cons (.asg (.nm 2) (.bi .max (.cons (.lit (.int 0)) (.cons (.bin .Sub (.var 2) (.lit (.int 1))) .nil)))) .nil)) (.cons (.asg (.nm 2) (.bin .Add (.var 2) (.lit (.int 1)))) .nil)) .nil)) (.cons (.ret (.bi .tuple (.cons (.var 1) .nil))) .nil)))) [some x0, none, none] h) := callD_run (d := ⟨1, 3, c__law_reduced⟩) H__law_reduced.e rfl
abbrev s__law_value : Stmt := topS 30
def c__law_value : CSs := (.cons (.asg (.nm 2) (.lst .nil)) (.cons (.for_ (.nm 3) (.rng (.cons (.ix (.var 0) (.lit (.int 0))) .nil)) (.cons (.for_ (.nm 4) (.seq (.var 1)) (.cons (.asg (.nm 5) (.ix (.ix (.var 0) (.lit (.int 1))) (.bin .Sub (.bi .abs (.cons (.var 4) .nil)) (.lit (.int 1))))) (.cons (.asg (.nm 3) (.ife (.cmp .Gt (.var 4) (.lit (.int 0))) (.ix (.var 5) (.var 3)) (.meth .index (.var 5) (.cons (.var 3) .nil)))) .nil))) (.cons (.ex (.meth .append (.var 2) (.cons (.var 3) .nil))) .nil))) (.cons (.ret (.bi .tuple (.cons (.var 2) .nil))) .nil)))
class H__law_value (T : Tb) : Prop where
  e : T "_law_value" = some ⟨2, 6, c__law_value⟩
theorem o__law_value {T : Tb} [H__law_value T] {k : Nat} {x0 x1 : D} {h : HS} : callD T (k + 1) "_law_value" [x0, x1] h = fin h.length (execB (callD T k) (.cons (.asg (.nm 2) (.lst .nil)) (.cons (.for_ (.nm 3) (.rng (.cons (.ix (.var 0) (.lit (.int 0))) .nil)) (.cons (.for_ (.nm 4) (.seq (.var 1)) (.cons (.asg (.nm 5) (.ix (.ix (.var 0) (.lit (.int 1))) (.bin .Sub (.bi .abs (.cons (.var 4) .nil)) (.lit (.int 1))))) (.cons (.asg (.nm 3) (.ife (.cmp .Gt (.var 4) (.lit (.int 0))) (.ix (.var 5) (.var 3)) (.meth .index (.var 5) (.cons (.var 3) .nil)))) .nil))) (.cons (.ex (.meth .append (.var 2) (.cons (.var 3) .nil))) .nil))) (.cons (.ret (.bi .tuple (.cons (.var 2) .nil))) .nil))) [some x0, some x1, none, none, none, none] h) := callD_run (d := ⟨2, 6, c__law_value⟩) H__law_value.e rfl
abbrev s__law_asked : Stmt := topS 31
def c__law_asked : CSs := (.cons (.try_ (.cons (.ret (.call "value_of_word" (.cons (.var 0) (.cons (.var 1) .nil)))) .nil) 2 [("WordError", true)] (.ret (.ife (.isi [("WordError", true)]) (.fld "code") (.lit .non)))) .nil)
class H__law_asked (T : Tb) : Prop where
  e : T "_law_asked" = some ⟨2, 3, c__law_asked⟩
theorem o__law_asked {T : Tb} [H__law_asked T] {k : Nat} {x0 x1 : D} {h : HS} : callD T (k + 1) "_law_asked" [x0, x1] h = fin h.length (execB (callD T k) (.cons (.try_ (.cons (.ret (.call "value_of_word" (.cons (.var 0) (.cons (.var 1) .nil)))) .nil) 2 [("WordError", true)] (.ret (.ife (.isi [("WordError", true)]) (.fld "code") (.lit .non)))) .nil) [some x0, some x1, none] h) := callD_run (d := ⟨2, 3, c__law_asked⟩) H__law_asked.e rfl
abbrev s_law : Stmt := topS 32
def c_law : CSs := (.cons (.asg (.nm 1) (.call "_law_begin" (.cons (.var 0) .nil))) (.cons (.asg (.nm 2) (.call "_law_group" (.cons (.var 1) (.cons (.lit (.int 16)) .nil)))) (.cons (.asg (.nm 3) (.bi .len (.cons (.ix (.var 2) (.lit (.int 1))) .nil))) (.cons (.asg (.nm 4) (.call "_law_word" (.cons (.var 1) (.cons (.var 3) (.cons (.call "_law_pick" (.cons (.var 1) (.cons (.lst (.cons (.lit (.int 0)) (.cons (.lit (.int 1)) (.cons (.lit (.int 5)) (.cons (.lit (.int 20)) (.cons (.lit (.int 60)) (.cons (.lit (.int 200)) .nil))))))) .nil))) .nil))))) (.cons (.ifs (.cmp .NotEq (.call "_law_asked" (.cons (.var 2) (.cons (.var 4) .nil))) (.call "_law_value" (.cons (.var 2) (.cons (.var 4) .nil)))) (.cons (.ret (.lit (.bl false))) .nil) .nil) (.cons (.asg (.nm 5) (.call "reduced" (.cons (.var 4) .nil))) (.cons (.ifs (.or_ (.cmp .NotEq (.var 5) (.call "_law_reduced" (.cons (.var 4) .nil))) (.cmp .NotEq (.call "_law_asked" (.cons (.var 2) (.cons (.var 5) .nil))) (.call "_law_value" (.cons (.var 2) (.cons (.var 4) .nil))))) (.cons (.ret (.lit (.bl false))) .nil) .nil) (.cons (.asg (.nm 6) (.call "inverse_word" (.cons (.var 4) .nil))) (.cons (.ifs (.or_ (.cmp .NotEq (.var 6) (.bi .tuple (.cons (.lc [9] (.nm 9) (.seq (.rev (.var 4))) .tru (.bin .Sub (.lit (.int 0)) (.var 9))) .nil))) (.cmp .NotEq (.call "reduced" (.cons (.bin .Add (.var 4) (.var 6)) .nil)) (.tup .nil))) (.cons (.ret (.lit (.bl false))) .nil) .nil) (.cons (.asg (.nm 7) (.call "_law_take" (.cons (.var 1) (.cons (.bin .Add (.bi .len (.cons (.var 4) .nil)) (.lit (.int 1))) .nil)))) (.cons (.asg (.nm 8) (.bin .Add (.bin .Add (.slice (.var 4) .no (.so (.var 7))) (.tup (.cons (.call "_law_pick" (.cons (.var 1) (.cons (.lst (.cons (.lit (.int 0)) (.cons (.bin .Add (.var 3) (.lit (.int 1))) (.cons (.bin .Sub (.bin .Sub (.lit (.int 0)) (.var 3)) (.lit (.int 1))) (.cons (.bin .Add (.var 3) (.lit (.int 5))) .nil))))) .nil))) .nil))) (.slice (.var 4) (.so (.var 7)) .no))) (.cons (.ret (.cmp .Eq (.call "_law_asked" (.cons (.var 2) (.cons (.var 8) .nil))) (.lit (.str "letter")))) .nil))))))))))))
class H_law (T : Tb) : Prop where
  e : T "law" = some ⟨1, 10, c_law⟩
theorem o_law {T : Tb} [H_law T] {k : Nat} {x0 : D} {h : HS} : callD T (k + 1) "law" [x0] h = fin h.length (execB (callD T k) (.cons (.asg (.nm 1) (.call "_law_begin" (.cons (.var 0) .nil))) (.cons (.asg (.nm 2) (.call "_law_group" (.cons (.var 1) (.cons (.lit (.int 16)) .nil)))) (.cons (.asg (.nm 3) (.bi .len (.cons (.ix (.var 2) (.lit (.int 1))) .nil))) (.cons (.asg (.nm 4) (.call "_law_word" (.cons (.var 1) (.cons (.var 3) (.cons (.call "_law_pick" (.cons (.var 1) (.cons (.lst (.cons (.lit (.int 0)) (.cons (.lit (.int 1)) (.cons (.lit (.int 5)) (.cons (.lit (.int 20)) (.cons (.lit (.int 60)) (.cons (.lit (.int 200)) .nil))))))) .nil))) .nil))))) (.cons (.ifs (.cmp .NotEq (.call "_law_asked" (.cons (.var 2) (.cons (.var 4) .nil))) (.call "_law_value" (.cons (.var 2) (.cons (.var 4) .nil)))) (.cons (.ret (.lit (.bl false))) .nil) .nil) (.cons (.asg (.nm 5) (.call "reduced" (.cons (.var 4) .nil))) (.cons (.ifs (.or_ (.cmp .NotEq (.var 5) (.call "_law_reduced" (.cons (.var 4) .nil))) (.cmp .NotEq (.call "_law_asked" (.cons (.var 2) (.cons (.var 5) .nil))) (.call "_law_value" (.cons (.var 2) (.cons (.var 4) .nil))))) (.cons (.ret (.lit (.bl false))) .nil) .nil) (.cons (.asg (.nm 6) (.call "inverse_word" (.cons (.var 4) .nil))) (.cons (.ifs (.or_ (.cmp .NotEq (.var 6) (.bi .tuple (.cons (.lc [9] (.nm 9) (.seq (.rev (.var 4))) .tru (.bin .Sub (.lit (.int 0)) (.var 9))) .nil))) (.cmp .NotEq (.call "reduced" (.cons (.bin .Add (.var 4) (.var 6)) .nil)) (.tup .nil))) (.cons (.ret (.lit (.bl false))) .nil) .nil) (.cons (.asg (.nm 7) (.call "_law_take" (.cons (.var 1) (.cons (.bin .Add (.bi .len (.cons (.var 4) .nil)) (.lit (.int 1))) .nil)))) (.cons (.asg (.nm 8) (.bin .Add (.bin .Add (.slice (.var 4) .no (.so (.var 7))) (.tup (.cons (.call "_law_pick" (.cons (.var 1) (.cons (.lst (.cons (.lit (.int 0)) (.cons (.bin .Add (.var 3) (.lit (.int 1))) (.cons (.bin .Sub (.bin .Sub (.lit (.int 0)) (.var 3)) (.lit (.int 1))) (.cons (.bin .Add (.var 3) (.lit (.int 5))) .nil))))) .nil))) .nil))) (.slice (.var 4) (.so (.var 7)) .no))) (.cons (.ret (.cmp .Eq (.call "_law_asked" (.cons (.var 2) (.cons (.var 8) .nil))) (.lit (.str "letter")))) .nil)))))))))))) [some x0, none, none, none, none, none, none, none, none, none] h) := callD_run (d := ⟨1, 10, c_law⟩) H_law.e rfl
def M : Md := ⟨(("identity" : Str), (⟨1, 1, c_identity⟩ : Df)) ::
  (("times" : Str), (⟨2, 3, c_times⟩ : Df)) ::
  (("inverse" : Str), (⟨1, 4, c_inverse⟩ : Df)) ::
  (("letter_value" : Str), (⟨2, 3, c_letter_value⟩ : Df)) ::
  (("value_of_word" : Str), (⟨2, 4, c_value_of_word⟩ : Df)) ::
  (("reduced" : Str), (⟨1, 3, c_reduced⟩ : Df)) ::
  (("inverse_word" : Str), (⟨1, 2, c_inverse_word⟩ : Df)) ::
  (("_law_take" : Str), (⟨2, 4, c__law_take⟩ : Df)) ::
  (("_law_pick" : Str), (⟨2, 2, c__law_pick⟩ : Df)) ::
  (("_law_begin" : Str), (⟨1, 3, c__law_begin⟩ : Df)) ::
  (("_law_shuffled" : Str), (⟨2, 4, c__law_shuffled⟩ : Df)) ::
  (("_law_cycle" : Str), (⟨2, 4, c__law_cycle⟩ : Df)) ::
  (("_law_disjoint" : Str), (⟨2, 5, c__law_disjoint⟩ : Df)) ::
  (("_law_imprimitive" : Str), (⟨2, 11, c__law_imprimitive⟩ : Df)) ::
  (("_law_affine" : Str), (⟨2, 7, c__law_affine⟩ : Df)) ::
  (("_law_projective" : Str), (⟨2, 8, c__law_projective⟩ : Df)) ::
  (("_law_times" : Str), (⟨2, 3, c__law_times⟩ : Df)) ::
  (("_law_inverse" : Str), (⟨1, 3, c__law_inverse⟩ : Df)) ::
  (("_law_comm" : Str), (⟨2, 2, c__law_comm⟩ : Df)) ::
  (("_law_gens_of" : Str), (⟨2, 10, c__law_gens_of⟩ : Df)) ::
  (("_law_conj" : Str), (⟨2, 4, c__law_conj⟩ : Df)) ::
  (("_law_group" : Str), (⟨2, 6, c__law_group⟩ : Df)) ::
  (("_law_word" : Str), (⟨3, 5, c__law_word⟩ : Df)) ::
  (("_law_reduced" : Str), (⟨1, 3, c__law_reduced⟩ : Df)) ::
  (("_law_value" : Str), (⟨2, 6, c__law_value⟩ : Df)) ::
  (("_law_asked" : Str), (⟨2, 3, c__law_asked⟩ : Df)) ::
  (("law" : Str), (⟨1, 10, c_law⟩ : Df)) :: [], ["len", "list", "tuple", "min", "max", "abs", "int", "isinstance", "range", "enumerate", "reversed"], [], [], [("WordError", [("code", .ar 0)])], [("SymError", [("WordError", true)]), ("WordError", [("WordError", true)])]⟩
instance : H_identity M.T := ⟨rfl⟩
instance : H_times M.T := ⟨rfl⟩
instance : H_inverse M.T := ⟨rfl⟩
instance : H_letter_value M.T := ⟨rfl⟩
instance : H_value_of_word M.T := ⟨rfl⟩
instance : H_reduced M.T := ⟨rfl⟩
instance : H_inverse_word M.T := ⟨rfl⟩
instance : H__law_take M.T := ⟨rfl⟩
instance : H__law_pick M.T := ⟨rfl⟩
instance : H__law_begin M.T := ⟨rfl⟩
instance : H__law_shuffled M.T := ⟨rfl⟩
instance : H__law_cycle M.T := ⟨rfl⟩
instance : H__law_disjoint M.T := ⟨rfl⟩
instance : H__law_imprimitive M.T := ⟨rfl⟩
instance : H__law_affine M.T := ⟨rfl⟩
instance : H__law_projective M.T := ⟨rfl⟩
instance : H__law_times M.T := ⟨rfl⟩
instance : H__law_inverse M.T := ⟨rfl⟩
instance : H__law_comm M.T := ⟨rfl⟩
instance : H__law_gens_of M.T := ⟨rfl⟩
instance : H__law_conj M.T := ⟨rfl⟩
instance : H__law_group M.T := ⟨rfl⟩
instance : H__law_word M.T := ⟨rfl⟩
instance : H__law_reduced M.T := ⟨rfl⟩
instance : H__law_value M.T := ⟨rfl⟩
instance : H__law_asked M.T := ⟨rfl⟩
instance : H_law M.T := ⟨rfl⟩
end Mi
namespace Mi
open PySem
abbrev T5 : Tb := M.T
theorem sub_m1 {t : Nat} {h : HS} : binF .Sub (.int (-1)) (dN t) h = .ok (.int (-1 - (t : Int))) h := (rfl)
theorem sub_0i {z : Int} {h : HS} : binF .Sub (dN 0) (.int z) h = .ok (.int (0 - z)) h := (rfl)
theorem sub_01 {h : HS} : binF .Sub (dN 0) (dN 1) h = .ok (.int (-1)) h := (rfl)
theorem mul_ni {a : Nat} {z : Int} {h : HS} (ha : a < 1000) : binF .Mult (dN a) (.int z) h = .ok (.int ((a : Int) * z)) h := by
  unfold binF
  simp only
  rw [if_pos]
  unfold mulOk
  rw [Bool.or_eq_true]
  left
  simp; omega
theorem ixC_back {xs : List D} {t : Nat} {h : HS} (ht : t < xs.length) : ixC (some (.lst xs)) (.int (-1 - (t : Int))) h = ofO xs[xs.length - 1 - t]? h := by
  simp only [ixC]
  have : L2.atI xs (-1 - (t : Int)) = xs[xs.length - 1 - t]? := by
    unfold L2.atI L2.ixN
    rw [if_neg (by omega), if_pos (by omega)]
    show xs[(-1 - (t : Int) + (xs.length : Int)).toNat]? = _
    congr 1
    omega
  rw [this]
section
variable {k many : Nat} {S : DSt} {r : HS}
theorem sp_lword {size : Nat} (hr : WFr r) (hm : many ≤ 100) (hs : size ≤ 200) :
    ∃ w S', callD T5 (k + 4) "_law_word" [.ref 1, dN many, dN size] (DH S r) = .ok (WD w) (DH S' r) ∧ GoodW many w ∧ w.length ≤ size := by
  have lim := LIM_v
  rw [o__law_word]
  simp_arith [true_and]
  generalize e : forD _ _ _ _ _ = o
  obtain ⟨δ', h', rfl, w, S1, u, rfl, rfl, hg, hl⟩ := for_ex e (fun i δ' h' => ∃ w S1 u, δ' = [some (.ref 1), some (dN many), some (dN size), some (.ref (BL r)), u] ∧ h' = DH S1 (r ++ [.lst (w.map D.int)]) ∧ GoodW many w ∧ w.length ≤ i)
    ⟨[], S, none, rfl, rfl, (fun _ h => by cases h), Nat.le_refl _⟩ (fun i x δ1 h1 hi hq => by
      obtain ⟨w, S1, u, rfl, rfl, hg, hl⟩ := hq
      obtain ⟨hlt, rfl⟩ := range_at hi
      refine ⟨rfl, ?_⟩
      have wfw : WFr (r ++ [.lst (w.map D.int)]) := WFr.app hr (by simp only [List.all_cons, List.all_nil, lo_lst, los_mapI, Bool.and_true])
      -- the second way
      have B : ∀ S2, ∃ w' S3 u', execB (callD T5 (k + 3)) (.cons (.ifs (.cmp .Gt (.var 1) (.lit (.int 0))) (.cons (.ex (.meth .append (.var 3) (.cons (.bin .Mult (.bin .Add (.lit (.int 1)) (.call "_law_take" (.cons (.var 0) (.cons (.var 1) .nil)))) (.call "_law_pick" (.cons (.var 0) (.cons (.lst (.cons (.lit (.int 1)) (.cons (.bin .Sub (.lit (.int 0)) (.lit (.int 1))) .nil))) .nil)))) .nil))) .nil) .nil) .nil) [some (.ref 1), some (dN many), some (dN size), some (.ref (BL r)), some (dN i)] (DH S2 (r ++ [.lst (w.map D.int)])) =
          .next [some (.ref 1), some (dN many), some (dN size), some (.ref (BL r)), u'] (DH S3 (r ++ [.lst (w'.map D.int)])) ∧ GoodW many w' ∧ w'.length ≤ i + 1 := fun S2 => by
        by_cases c0 : 0 < many
        · have e1 := sp_take (T := T5) (k := k + 2) (m := many) (S := S2) (r := r ++ [.lst (w.map D.int)]) c0 (by omega)
          have t1 := tk_lt (S := S2) c0
          generalize (tkR S2 many).1 = a at e1 t1
          generalize (tkR S2 many).2 = S3 at e1
          obtain ⟨v, hv, e2⟩ := sp_pick (T := T5) (k := k + 1) (m := BL r + 1) (xs := [dN 1, .int (-1)]) (S := S3) (r := r ++ [.lst (w.map D.int), .lst [dN 1, .int (-1)]]) (fun S => by rw [gdk]; rfl) (by decide) (by decide)
          have hv2 : ∃ s : Int, v = .int s ∧ (s = 1 ∨ s = -1) := by
            have := List.mem_of_getElem? hv
            simp at this
            rcases this with rfl | rfl
            · exact ⟨1, rfl, .inl rfl⟩
            · exact ⟨-1, rfl, .inr rfl⟩
          obtain ⟨s, rfl, hs⟩ := hv2
          simp_arith [c0, e1, e2, sub_01, mul_ni]
          refine ⟨w ++ [((1 + a : Nat) : Int) * s], (tkR S3 2).2, some (dN i), by simp, fun y hy => ?_, by simp; omega⟩
          rcases List.mem_append.mp hy with hy | hy
          · exact hg y hy
          · rw [List.mem_singleton.mp hy]
            rcases hs with rfl | rfl
            · exact ⟨by omega, by omega⟩
            · exact ⟨by omega, by omega⟩
        · simp_arith [c0]
          exact ⟨w, S2, _, rfl, hg, by omega⟩
      generalize hK : ((.cons (.ifs (.cmp .Gt (.var 1) (.lit (.int 0))) (.cons (.ex (.meth .append (.var 3) (.cons (.bin .Mult (.bin .Add (.lit (.int 1)) (.call "_law_take" (.cons (.var 0) (.cons (.var 1) .nil)))) (.call "_law_pick" (.cons (.var 0) (.cons (.lst (.cons (.lit (.int 1)) (.cons (.bin .Sub (.lit (.int 0)) (.lit (.int 1))) .nil))) .nil)))) .nil))) .nil) .nil) .nil) : CSs) = K at B ⊢
      clear hK
      rcases List.eq_nil_or_concat w with rfl | ⟨w0, y0, e0⟩
      · obtain ⟨w', S3, u', eB, g1, g2⟩ := B S1
        simp only [List.map_nil] at eB ⊢
        simp_arith [eB]
        exact ⟨_, _, _, rfl, rfl, g1, g2⟩
      · have lw : 0 < w.length := by rw [e0]; simp
        clear e0
        have e3 := sp_take (T := T5) (k := k + 2) (m := 3) (S := S1) (r := r ++ [.lst (w.map D.int)]) (by omega) (by omega)
        generalize (tkR S1 3).1 = q at e3
        generalize (tkR S1 3).2 = S2 at e3
        by_cases c3 : q = 0
        · subst c3
          have m0 : 0 < min 2 w.length := by omega
          have e4 := sp_take (T := T5) (k := k + 2) (m := min 2 w.length) (S := S2) (r := r ++ [.lst (w.map D.int)]) m0 (by omega)
          have t4 := tk_lt (S := S2) m0
          generalize (tkR S2 (min 2 w.length)).1 = t at e4 t4
          generalize (tkR S2 (min 2 w.length)).2 = S3 at e4
          have ht : t < (w.map D.int).length := by rw [List.length_map]; omega
          obtain ⟨z, hz⟩ : ∃ z, w[w.length - 1 - t]? = some z := ⟨_, List.getElem?_eq_getElem (by omega)⟩
          have hzg := hg z (List.mem_of_getElem? hz)
          have hix : (w.map D.int)[w.length - 1 - t]? = some (.int z) := by rw [List.getElem?_map, hz]; rfl
          have eix : ∀ h, ixC (some (.lst (w.map D.int))) (.int (-1 - (t : Int))) h = .ok (.int z) h := fun h => by rw [ixC_back ht, List.length_map, hix]; rfl
          simp_arith [lw, e3, e4, sub_m1, eix, sub_0i]
          refine ⟨w ++ [0 - z], S3, some (dN i), rfl, by simp, fun y hy => ?_, by simp; omega⟩
          rcases List.mem_append.mp hy with hy | hy
          · exact hg y hy
          · rw [List.mem_singleton.mp hy]
            exact ⟨by have := hzg.1; omega, by have := hzg.2; omega⟩
        · obtain ⟨w', S3, u', eB, g1, g2⟩ := B S2
          simp_arith [lw, e3, c3, eB]
          exact ⟨_, _, _, rfl, rfl, g1, g2⟩) (fun _ _ _ => rfl)
  have hl2 : w.length ≤ size := by simpa using hl
  simp_arith [true_and]
  exact ⟨w, S1, rfl, hg, hl2⟩
end
end Mi

namespace Mi
open PySem
theorem max_0m1 {h : HS} : biF .max [dN 0, .int (-1)] h = .ok (dN 0) h := (rfl)
theorem trim_cut {h H : HS} {v : D} (hw : WF h) (hH : H.take h.length = h) (hv : v.lo h.length = true) (hr : isRef v = false) : trim h.length v H = .ok v h := by
  unfold trim
  by_cases c : H.length ≤ h.length
  · rw [if_pos c]
    rw [List.take_of_length_le c] at hH
    rw [hH]
  · rw [if_neg c, hH]
    have hall : h.all (Cell.lo h.length) = true := hw
    rw [if_pos hall]
    cases v <;> first | (exact if_pos hv) | cases hr
theorem sp_lreduced {k : Nat} {w : List Int} {h : HS} (hw : WF h) (hl : w.length ≤ 1000) : callD T5 (k + 1) "_law_reduced" [WD w] h = .ok (WD (redR w)) h := by
  have lim := LIM_v
  rw [o__law_reduced]
  simp_arith [true_and]
  generalize e : whileD _ _ _ _ _ = o
  obtain ⟨δ', h', rfl, H, a, rfl, rfl, hH⟩ := while_ex e
    (fun δ' h' => ∃ H a, δ' = [some (WD w), some (.ref H.length), some (dN a)] ∧ h' = H ++ [.lst ((redR w).map D.int)] ∧ H.take h.length = h)
    (fun m δ' h' => ∃ H row a, m = 2 * row.length + 1 - a ∧ a ≤ row.length ∧ δ' = [some (WD w), some (.ref H.length), some (dN a)] ∧ h' = H ++ [.lst (row.map D.int)] ∧ WF H ∧ H.take h.length = h ∧ h.length ≤ H.length ∧ LoopW w row a)
    (2 * w.length + 1) (by omega) ⟨h, w, 0, by omega, by omega, rfl, rfl, hw, by simp, Nat.le_refl _, LoopW.start⟩ (fun m δ1 h1 hq => by
      obtain ⟨H, row, a, rfl, ha, rfl, rfl, hWF, hH, hhl, I⟩ := hq
      have lr : (row.map D.int).length = row.length := List.length_map ..
      have rl := I.2
      by_cases c : a + 1 < row.length
      · obtain ⟨x, hx⟩ : ∃ x, row[a]? = some x := ⟨_, List.getElem?_eq_getElem (by omega)⟩
        obtain ⟨y, hy⟩ : ∃ y, row[a + 1]? = some y := ⟨_, List.getElem?_eq_getElem (by omega)⟩
        have hx1 : ∀ h, ofO (row.map D.int)[a]? h = .ok (.int x) h := fun h => by rw [List.getElem?_map, hx]; rfl
        have hy1 : ∀ h, ofO (row.map D.int)[a + 1]? h = .ok (.int y) h := fun h => by rw [List.getElem?_map, hy]; rfl
        have gx : row.getD a 0 = x := by rw [List.getD_eq_getElem?_getD, hx]; rfl
        have gy : row.getD (a + 1) 0 = y := by rw [List.getD_eq_getElem?_getD, hy]; rfl
        have ea : ∀ h, binF .Add (.int x) (.int y) h = .ok (.int (x + y)) h := fun _ => rfl
        have eq1 : x + y = 0 → ∀ h, cmpF .Eq (.int (x + y)) (dN 0) h = some true := fun e _ => by rw [eq_i0, decide_eq_true e]
        have eq2 : ¬ x + y = 0 → ∀ h, cmpF .Eq (.int (x + y)) (dN 0) h = some false := fun e _ => by rw [eq_i0, decide_eq_false e]
        by_cases cz : x + y = 0
        · have I2 := I.out c (by rw [gx, gy]; exact cz)
          have wA : WF (H ++ [.lst (row.map D.int)]) := WF.appl hWF (by simp only [List.all_cons, List.all_nil, lo_lst, los_mapI, Bool.and_true])
          have ht : (H ++ [Cell.lst (row.map D.int)]).take h.length = h := by rw [List.take_append_of_le_length hhl]; exact hH
          by_cases c0 : a = 0
          · subst c0
            simp_arith [lr, c, hx1, hy1, ea, eq1 cz, sub_01, max_0m1, cut_0n, cut_n0]
            refine ⟨_, ?_, H ++ [.lst (row.map D.int)], row.take 0 ++ row.drop 2, 0, rfl, by omega, by simp, by simp, wA, ht, by simp; omega, I2⟩
            simp; omega
          · simp_arith [lr, c, hx1, hy1, ea, eq1 cz, c0, cut_0n, cut_n0, bi_maxN]
            have e0 : max 0 (a - 1) = a - 1 := by omega
            refine ⟨_, ?_, H ++ [.lst (row.map D.int)], row.take a ++ row.drop (a + 2), a - 1, rfl, by simp; omega, by simp [e0], by simp, wA, ht, by simp; omega, I2⟩
            simp; omega
        · have I2 := I.on c (by rw [gx, gy]; exact cz)
          simp_arith [lr, c, hx1, hy1, ea, eq2 cz]
          exact ⟨_, by omega, H, row, a + 1, rfl, by omega, rfl, rfl, hWF, hH, hhl, I2⟩
      · have er := I.done (by omega)
        subst er
        simp_arith [lr, c]
        exact ⟨H, a, rfl, rfl, hH⟩)
  have hle : (redR w).length ≤ w.length := by
    have := fold_le (w := w) (r := [])
    simpa [redR] using this
  have lr : ((redR w).map D.int).length ≤ LIM := by rw [List.length_map]; omega
  have hT : (H ++ [Cell.lst ((redR w).map D.int)]).take h.length = h := by
    have hhl : h.length ≤ H.length := by have := congrArg List.length hH; rw [List.length_take] at this; omega
    rw [List.take_append_of_le_length hhl]; exact hH
  have tc := trim_cut (v := WD (redR w)) hw hT lo_WD rfl
  simp_arith [tc]
end Mi

namespace Mi
open PySem
/-! ### p.index(x) -/
theorem intsD_dN : ∀ {p : List Nat}, intsD (p.map dN) = some (p.map Int.ofNat)
  | [] => rfl
  | x :: r => by rw [List.map_cons, intsD, intsD_dN]; rfl
theorem idx_inv {n : Nat} {p : List Nat} {x : Nat} (hp : Pm n p) (hx : x < n) : x ∈ p ∧ p.idxOf x = at_ (inv p) x := by
  obtain ⟨h1, h2⟩ := hp.inv_lt hx
  have hm : x ∈ p := by rw [← h2]; exact hp.at_mem h1
  refine ⟨hm, ?_⟩
  have h3 : p.idxOf x < p.length := List.idxOf_lt_length_iff.mpr hm
  have h4 : at_ p (p.idxOf x) = x := by rw [at_eq h3]; exact List.getElem_idxOf h3
  exact hp.inj (by rw [← hp.len]; exact h3) h1 (by rw [h4, h2])
theorem idxOf_ofNat {x : Nat} : ∀ {p : List Nat}, (p.map Int.ofNat).idxOf (Int.ofNat x) = p.idxOf x
  | [] => rfl
  | y :: r => by
    rw [List.map_cons, List.idxOf_cons, List.idxOf_cons, idxOf_ofNat]
    have e : (Int.ofNat y == Int.ofNat x) = (y == x) := by
      by_cases c : y = x
      · subst c; simp
      · have c2 : ¬ Int.ofNat y = Int.ofNat x := fun e => c (by injection e)
        rw [beq_eq_false_iff_ne.mpr c, beq_eq_false_iff_ne.mpr c2]
    rw [e]
theorem me_idxP {n : Nat} {p : List Nat} {x : Nat} {h : HS} (hp : Pm n p) (hx : x < n) : meF .index (P p) [dN x] h = .ok (dN (at_ (inv p) x)) h := by
  obtain ⟨h1, h2⟩ := idx_inv hp hx
  show idxF (p.map dN) [dN x] h = _
  unfold idxF
  rw [intsD_dN]
  show (if (p.map Int.ofNat).contains (Int.ofNat x) = true then R.ok (D.int ((p.map Int.ofNat).idxOf (Int.ofNat x) : Nat)) h else .bad) = _
  rw [if_pos (by rw [List.contains_iff_mem]; exact List.mem_map.mpr ⟨x, h1, rfl⟩), idxOf_ofNat, h2]
theorem rcv_P {p : List Nat} {h : HS} : rcvOk .index (P p) h = true := (rfl)
theorem rcv_tup {xs : List D} {h : HS} : rcvOk .index (.tup xs) h = true := (rfl)
section
variable {k n : Nat} {L : List (List Nat)} {w : List Int} {h : HS}
theorem sp_lvalue (hw : WF h) (hn : n ≤ 16) (hL : Pms n L) (hg : GoodW L.length w) : callD T5 (k + 1) "_law_value" [G n L, WD w] h = .ok (P (valW n L w)) h := by
  have lim := LIM_v
  rw [o__law_value]
  simp_arith [true_and]
  generalize e : forD _ _ _ _ _ = o
  obtain ⟨δ', h', rfl, ⟨u1, u2, u3, rfl⟩, rfl⟩ := for_ex e (fun i δ' h' => (∃ u1 u2 u3, δ' = [some (G n L), some (WD w), some (.ref h.length), u1, u2, u3]) ∧ h' = h ++ [.lst (((List.range i).map fun x => actW L x w).map dN)])
    ⟨⟨_, _, _, rfl⟩, rfl⟩ (fun i x δ1 h1 hi hq => by
      obtain ⟨⟨u1, u2, u3, rfl⟩, rfl⟩ := hq
      obtain ⟨hlt, rfl⟩ := range_at hi
      have hR : WF (h ++ [.lst (((List.range i).map fun x => actW L x w).map dN)]) := WF.appl hw (by simp only [List.all_cons, List.all_nil, lo_lst, los_mapdN, Bool.and_true])
      refine ⟨rfl, ?_⟩
      simp_arith [true_and]
      generalize e : forD _ _ _ _ _ = o
      obtain ⟨δ', h', rfl, ⟨u2, u3, rfl⟩, rfl⟩ := for_ex e (fun j δ' h' => (∃ u2 u3, δ' = [some (G n L), some (WD w), some (.ref h.length), some (dN (actW L i (w.take j))), u2, u3]) ∧ h' = h ++ [.lst (((List.range i).map fun x => actW L x w).map dN)])
        ⟨⟨_, _, rfl⟩, rfl⟩ (fun j x δ1 h1 hj hq => by
          obtain ⟨⟨u2, u3, rfl⟩, rfl⟩ := hq
          rw [List.getElem?_map, Option.map_eq_some_iff] at hj
          obtain ⟨z, hz, rfl⟩ := hj
          have hzg := hg z (List.mem_of_getElem? hz)
          have hgt : GoodW L.length (w.take j) := fun y hy => hg y (List.mem_of_mem_take hy)
          have hp := hL _ (good_mem hzg)
          have g := get_gen hzg
          have z0 : 1 ≤ z.natAbs := by have := hzg.1; omega
          have ha := act_lt hL hgt hlt
          have et : actW L i (w.take (j + 1)) = at_ (lpm L z) (actW L i (w.take j)) := by
            rw [List.take_succ, hz]; simp [actW, List.foldl_append]
          refine ⟨rfl, ?_⟩
          rw [et]
          unfold lpm
          generalize actW L i (w.take j) = x at ha
          have hxl : x < (L.getD (z.natAbs - 1) []).length := by rw [hp.len]; exact ha
          by_cases c : z > 0
          · rw [if_pos c]
            simp_arith [bi_absI, g, gt_i0, c]
            exact ⟨⟨_, _, rfl⟩, trivial⟩
          · rw [if_neg c]
            have em := fun h => me_idxP (h := h) hp ha
            simp_arith [bi_absI, g, gt_i0, c, rcv_P, em]
            exact ⟨⟨_, _, rfl⟩, trivial⟩) (fun _ _ _ => rfl)
      have el : w.take (w.map D.int).length = w := by rw [List.length_map, List.take_length]
      rw [el]
      simp_arith [true_and]
      refine ⟨⟨_, _, _, rfl⟩, ?_⟩
      rw [List.range_succ]; simp) (fun _ _ _ => rfl)
  simp_arith [true_and]
  rw [val_eq hL hg]
  simp [P]
theorem sp_asked (hw : WF h) (hn : n ≤ 16) (hL : Pms n L) (hg : GoodW L.length w) : callD T5 (k + 4) "_law_asked" [G n L, WD w] h = .ok (P (valW n L w)) h := by
  have e1 := sp_value (T := T5) (k := k) hw hn hL hg
  rw [o__law_asked]
  simp_arith [e1]
theorem sp_asked_bad {v : List Int} {z : Int} (hw : WF h) (hn : n ≤ 16) (hL : Pms n L) (hg : GoodW L.length w) (hz : z = 0 ∨ L.length < z.natAbs) : callD T5 (k + 4) "_law_asked" [G n L, WD (w ++ z :: v)] h = .ok (.str "letter") h := by
  have e1 := sp_value_bad (T := T5) (k := k) (v := v) hw hn hL hg hz
  have kTry_1 : ∀ {i : Nat} {c : Str} {s : XS} {fs : List (Str × D)} {δ : En} {h : HS}, i < δ.length → kTry i [(c, true)] s (.exc c fs δ h) = execX c fs s (δ.set i none) h := fun hi => kTry_exc (by simp [lkX]) hi
  rw [o__law_asked]
  simp_arith [e1, kTry_1]
  simp only [execX, evX, lkX, if_true, Option.map_some]
  simp_arith [true_and]
end
end Mi

namespace Mi
open PySem
theorem pI_W {d : Nat} {w : List Int} : pI (d + 1) (WD w) = true := pI_tup fun x hx => by
  obtain ⟨y, _, rfl⟩ := List.mem_map.mp hx
  exact pI_int
theorem neP {p : List Nat} {h : HS} : cmpF .NotEq (P p) (P p) h = some false := by rw [cmp_neP pI_P pI_P, decide_eq_true rfl]; rfl
theorem neW {w : List Int} {h : HS} : cmpF .NotEq (WD w) (WD w) h = some false := by rw [cmp_neP pI_W pI_W, decide_eq_true rfl]; rfl
theorem eq_letter {h : HS} : cmpF .Eq (.str "letter") (.str "letter") h = some true := (cmp_eqSS (by decide +kernel) (by decide +kernel)).trans (by simp)
theorem sub_0n {m : Nat} {h : HS} : binF .Sub (dN 0) (dN m) h = .ok (.int (0 - (m : Int))) h := (rfl)
abbrev tail5 : CSs := c_law.tl.tl.tl.tl
theorem tail_law5 {n : Nat} {L : List (List Nat)} {w : List Int} {S : DSt} {r : HS} {x0 : Option D} (hr : WFr r) (hn : n ≤ 16) (hL : Pms n L) (hl : L.length ≤ 32) (hg : GoodW L.length w) (hw : w.length ≤ 200) :
    ∃ h', execB (callD T5 59) tail5 [x0, some (.ref 1), some (G n L), some (dN L.length), some (WD w), none, none, none, none, none] (DH S r) = .ret (.bl true) h' := by
  have lim := LIM_v
  have wf := fun S => WF.dh (S := S) hr
  have hrg := red_good hg
  have a1 := fun S => sp_asked (k := 55) (h := DH S r) (wf S) hn hL hg
  have a2 := fun S => sp_lvalue (k := 58) (h := DH S r) (wf S) hn hL hg
  have a3 := fun S => sp_reduced (T := T5) (k := 58) (w := w) (h := DH S r) (wf S) (by omega)
  have a4 := fun S => sp_lreduced (k := 58) (w := w) (h := DH S r) (wf S) (by omega)
  have a5 := fun S => sp_asked (k := 55) (h := DH S r) (wf S) hn hL hrg
  simp only [val_red hL hg] at a5
  have a6 := fun S => sp_inverse_word (T := T5) (k := 58) (w := w) (h := DH S r) (wf S) (by omega)
  have li : (invW w).length = w.length := by simp [invW]
  have a7 : ∀ S, callD T5 59 "reduced" [.tup (w.map D.int ++ (invW w).map D.int)] (DH S r) = .ok (.tup []) (DH S r) := fun S => by
    rw [← List.map_append]
    have := sp_reduced (T := T5) (k := 58) (w := w ++ invW w) (h := DH S r) (wf S) (by simp; omega)
    rw [red_inv] at this
    exact this
  have ne0 : ∀ h, cmpF .NotEq (.tup []) (.tup []) h = some false := fun h => neW (w := []) (h := h)
  have e8 := sp_take (T := T5) (k := 58) (m := w.length + 1) (S := S) (r := r) (by omega) (by omega)
  have t8 := tk_lt (S := S) (m := w.length + 1) (by omega)
  generalize (tkR S (w.length + 1)).1 = a at e8 t8
  generalize (tkR S (w.length + 1)).2 = S1 at e8
  obtain ⟨v, hv, e9⟩ := sp_pick (T := T5) (k := 57) (m := BL r) (xs := [dN 0, dN (L.length + 1), .int (0 - (L.length : Int) - 1), dN (L.length + 5)]) (S := S1) (r := r ++ [.lst [dN 0, dN (L.length + 1), .int (0 - (L.length : Int) - 1), dN (L.length + 5)]]) (fun S => by rw [gd0]; rfl) (by simp) (by simp)
  have hv2 : ∃ z : Int, v = .int z ∧ (z = 0 ∨ L.length < z.natAbs) := by
    have := List.mem_of_getElem? hv
    simp at this
    rcases this with rfl | rfl | rfl | rfl
    · exact ⟨_, rfl, .inl rfl⟩
    · exact ⟨_, rfl, .inr (by omega)⟩
    · exact ⟨_, rfl, .inr (by omega)⟩
    · exact ⟨_, rfl, .inr (by omega)⟩
  obtain ⟨z, rfl, hz⟩ := hv2
  have a10 : ∀ S, callD T5 59 "_law_asked" [G n L, .tup ((w.take a).map D.int ++ .int z :: (w.drop a).map D.int)] (DH S r) = .ok (.str "letter") (DH S r) := fun S => by
    have := sp_asked_bad (k := 55) (v := w.drop a) (h := DH S r) (wf S) hn hL (w := w.take a) (fun y hy => hg y (List.mem_of_mem_take hy)) hz
    rw [← this]
    congr 1
    simp [WD]
  have em : ∀ h, binF .Sub (.int (0 - (L.length : Int))) (dN 1) h = .ok (.int (0 - (L.length : Int) - 1)) h := fun _ => rfl
  have lm : (w.map D.int).length = w.length := List.length_map ..
  have lm2 : ((invW w).map D.int).length = w.length := by rw [List.length_map, li]
  have ecn : ∀ (q0 q1 q2 q3 q4 q5 q6 q7 q8 q9 : Option D) (S : DSt), compD (liveOk none) (turnD (callD T5 59) [9] (.nm 9) .tru (.bin .Sub (.lit (.int 0)) (.var 9)) [q0, q1, q2, q3, q4, q5, q6, q7, q8, q9]) (w.map D.int).reverse (DH S r) = .ok ((invW w).map D.int) (DH S r) := fun q0 q1 q2 q3 q4 q5 q6 q7 q8 q9 S => by
    rw [← List.map_reverse, comp_map (u := D.int) (g := fun z => .int (0 - z)) rfl ?hf]
    case hf =>
      intro z _
      simp_arith [sub_0i]
    congr 1
    unfold invW
    rw [List.map_map]
    refine List.map_congr_left fun z _ => ?_
    show D.int (0 - z) = D.int (-z)
    rw [Int.zero_sub]
  simp only [tail5, c_law, CSs.tl]
  simp_arith [a1, a2, neP, neW, a3, a4, a5, a6, a7, ne0, e8, sub_0n, em, ecn, lm, lm2, e9, a10, eq_letter]
  exact ⟨_, rfl⟩
theorem law_main5 {S : DSt} {r : HS} {x0 : Option D} (hr : WFr r) :
    ∃ h', execB (callD T5 59) c_law.tl [x0, some (.ref 1), none, none, none, none, none, none, none, none] (DH S r) = .ret (.bl true) h' := by
  have lim := LIM_v
  obtain ⟨n, L, S1, e1, h1, h2, hL, hl⟩ := sp_group (T := T5) (k := 54) (most := 16) (S := S) (r := r) hr (by omega) (by omega)
  have R_ := fun w S hg hw => tail_law5 (n := n) (L := L) (w := w) (S := S) (x0 := x0) hr h2 hL hl hg hw
  generalize hT : tail5 = K at R_
  simp only [tail5, c_law, CSs.tl] at hT
  simp only [c_law, CSs.tl]
  rw [hT]
  clear hT
  obtain ⟨v, hv, e2⟩ := sp_pick (T := T5) (k := 57) (m := BL r) (xs := [dN 0, dN 1, dN 5, dN 20, dN 60, dN 200]) (S := S1) (r := r ++ [.lst [dN 0, dN 1, dN 5, dN 20, dN 60, dN 200]]) (fun S => by rw [gd0]; rfl) (by decide) (by decide)
  have hv2 : ∃ q : Nat, v = dN q ∧ q ≤ 200 := by
    have := List.mem_of_getElem? hv
    simp only [List.mem_cons, List.not_mem_nil, or_false] at this
    rcases this with rfl | rfl | rfl | rfl | rfl | rfl <;> exact ⟨_, rfl, by omega⟩
  obtain ⟨q, rfl, hq⟩ := hv2
  generalize (tkR S1 [dN 0, dN 1, dN 5, dN 20, dN 60, dN 200].length).2 = S2 at e2
  obtain ⟨w, S3, e3, hg, hw⟩ := sp_lword (k := 55) (many := L.length) (S := S2) (r := r) (size := q) hr (by omega) hq
  obtain ⟨h', er⟩ := R_ w S3 hg (by omega)
  have ll : (L.map P).length = L.length := List.length_map ..
  simp_arith [e1, e2, e3, ll]
  exact ⟨h', er⟩
theorem law_body (ns : List Int) (hns : ns.length ≤ 63) : ∃ h, callD M.T 60 "law" [.fz ns] [] = .ok (.bl true) h := by
  rw [o_law]
  obtain ⟨s, e0⟩ := sp_begin (T := M.T) (k := 58) (ns := ns) (by unfold LIM; omega)
  obtain ⟨h', e1⟩ := law_main5 (x0 := some (.fz ns)) (S := ⟨ns, 0, 0, s⟩) (r := []) rfl
  generalize hT : c_law.tl = K at e1
  simp only [c_law, CSs.tl] at hT
  rw [hT]
  have t1 : trim 0 (.ref 1) (DH ⟨ns, 0, 0, s⟩ []) = .ok (.ref 1) (DH ⟨ns, 0, 0, s⟩ []) := (if_neg (by rw [DH_len]; decide)).trans rfl
  simp_arith [e0, t1]
  rw [e1, fin_ret]
  unfold trim
  split
  · exact ⟨_, rfl⟩
  · split
    · exact ⟨_, rfl⟩
    · exact ⟨_, rfl⟩
end Mi

namespace Mi
open PySem L2
section
variable {K : PySem.W.Frag} {h : Heap} {mg : Str → Option Value} {fa : Addr} {od an : Option Addr} {sl : Array (Option Value)} {oc kV dc pm cd ct : Value}
theorem t_identity : trSs (tr 40) (M.sg ["many"] (defScope s_identity)) (defBody s_identity) = some c_identity := rfl
theorem i_identity (X : K.In h) (G : h.Ns mainGlobals mg) (a1 : PySem.W.nsIn K mainGlobals "identity" = some (some (.ref fa))) (l1 : K.lookup fa = some ⟨oc, od, .func (PySem.W.fnOf "identity" "identity" (defArgs s_identity) (defBody s_identity) (defScope s_identity) .none kV dc pm an cd ct), sl⟩) (c1 : PySem.W.codeIn K cd "identity" = true) (k1 : PySem.W.keepIn K (.ref fa) = true) :
    DefI M K mg "identity" ⟨1, 1, c_identity⟩ fa (PySem.W.fnOf "identity" "identity" (defArgs s_identity) (defBody s_identity) (defScope s_identity) .none kV dc pm an cd ct) ["many"] :=
  have F := fun_mk (st := s_identity) l1 c1 k1
  ⟨PySem.W.mg_of X G a1, F.binds (ps := ["many"]) fun _ _ _ _ _ _ us hl => (match us, hl with | [_], _ => rfl), k1, rfl, s_identity, ["many"], 40, F, ⟨rfl, rfl, rfl, by decide +kernel, rfl, by decide +kernel, by decide +kernel⟩, rfl, t_identity⟩
theorem t_times : trSs (tr 40) (M.sg ["first", "second", "image"] (defScope s_times)) (defBody s_times) = some c_times := rfl
theorem i_times (X : K.In h) (G : h.Ns mainGlobals mg) (a1 : PySem.W.nsIn K mainGlobals "times" = some (some (.ref fa))) (l1 : K.lookup fa = some ⟨oc, od, .func (PySem.W.fnOf "times" "times" (defArgs s_times) (defBody s_times) (defScope s_times) .none kV dc pm an cd ct), sl⟩) (c1 : PySem.W.codeIn K cd "times" = true) (k1 : PySem.W.keepIn K (.ref fa) = true) :
    DefI M K mg "times" ⟨2, 3, c_times⟩ fa (PySem.W.fnOf "times" "times" (defArgs s_times) (defBody s_times) (defScope s_times) .none kV dc pm an cd ct) ["first", "second"] :=
  have F := fun_mk (st := s_times) l1 c1 k1
  ⟨PySem.W.mg_of X G a1, F.binds (ps := ["first", "second"]) fun _ _ _ _ _ _ us hl => (match us, hl with | [_, _], _ => rfl), k1, rfl, s_times, ["first", "second", "image"], 40, F, ⟨rfl, rfl, rfl, by decide +kernel, rfl, by decide +kernel, by decide +kernel⟩, rfl, t_times⟩
theorem t_inverse : trSs (tr 40) (M.sg ["perm", "row", "point", "image"] (defScope s_inverse)) (defBody s_inverse) = some c_inverse := rfl
theorem i_inverse (X : K.In h) (G : h.Ns mainGlobals mg) (a1 : PySem.W.nsIn K mainGlobals "inverse" = some (some (.ref fa))) (l1 : K.lookup fa = some ⟨oc, od, .func (PySem.W.fnOf "inverse" "inverse" (defArgs s_inverse) (defBody s_inverse) (defScope s_inverse) .none kV dc pm an cd ct), sl⟩) (c1 : PySem.W.codeIn K cd "inverse" = true) (k1 : PySem.W.keepIn K (.ref fa) = true) :
    DefI M K mg "inverse" ⟨1, 4, c_inverse⟩ fa (PySem.W.fnOf "inverse" "inverse" (defArgs s_inverse) (defBody s_inverse) (defScope s_inverse) .none kV dc pm an cd ct) ["perm"] :=
  have F := fun_mk (st := s_inverse) l1 c1 k1
  ⟨PySem.W.mg_of X G a1, F.binds (ps := ["perm"]) fun _ _ _ _ _ _ us hl => (match us, hl with | [_], _ => rfl), k1, rfl, s_inverse, ["perm", "row", "point", "image"], 40, F, ⟨rfl, rfl, rfl, by decide +kernel, rfl, by decide +kernel, by decide +kernel⟩, rfl, t_inverse⟩
theorem t_letter_value : trSs (tr 40) (M.sg ["group", "letter", "perm"] (defScope s_letter_value)) (defBody s_letter_value) = some c_letter_value := rfl
theorem i_letter_value (X : K.In h) (G : h.Ns mainGlobals mg) (a1 : PySem.W.nsIn K mainGlobals "letter_value" = some (some (.ref fa))) (l1 : K.lookup fa = some ⟨oc, od, .func (PySem.W.fnOf "letter_value" "letter_value" (defArgs s_letter_value) (defBody s_letter_value) (defScope s_letter_value) .none kV dc pm an cd ct), sl⟩) (c1 : PySem.W.codeIn K cd "letter_value" = true) (k1 : PySem.W.keepIn K (.ref fa) = true) :
    DefI M K mg "letter_value" ⟨2, 3, c_letter_value⟩ fa (PySem.W.fnOf "letter_value" "letter_value" (defArgs s_letter_value) (defBody s_letter_value) (defScope s_letter_value) .none kV dc pm an cd ct) ["group", "letter"] :=
  have F := fun_mk (st := s_letter_value) l1 c1 k1
  ⟨PySem.W.mg_of X G a1, F.binds (ps := ["group", "letter"]) fun _ _ _ _ _ _ us hl => (match us, hl with | [_, _], _ => rfl), k1, rfl, s_letter_value, ["group", "letter", "perm"], 40, F, ⟨rfl, rfl, rfl, by decide +kernel, rfl, by decide +kernel, by decide +kernel⟩, rfl, t_letter_value⟩
theorem t_value_of_word : trSs (tr 40) (M.sg ["group", "word", "found", "letter"] (defScope s_value_of_word)) (defBody s_value_of_word) = some c_value_of_word := rfl
theorem i_value_of_word (X : K.In h) (G : h.Ns mainGlobals mg) (a1 : PySem.W.nsIn K mainGlobals "value_of_word" = some (some (.ref fa))) (l1 : K.lookup fa = some ⟨oc, od, .func (PySem.W.fnOf "value_of_word" "value_of_word" (defArgs s_value_of_word) (defBody s_value_of_word) (defScope s_value_of_word) .none kV dc pm an cd ct), sl⟩) (c1 : PySem.W.codeIn K cd "value_of_word" = true) (k1 : PySem.W.keepIn K (.ref fa) = true) :
    DefI M K mg "value_of_word" ⟨2, 4, c_value_of_word⟩ fa (PySem.W.fnOf "value_of_word" "value_of_word" (defArgs s_value_of_word) (defBody s_value_of_word) (defScope s_value_of_word) .none kV dc pm an cd ct) ["group", "word"] :=
  have F := fun_mk (st := s_value_of_word) l1 c1 k1
  ⟨PySem.W.mg_of X G a1, F.binds (ps := ["group", "word"]) fun _ _ _ _ _ _ us hl => (match us, hl with | [_, _], _ => rfl), k1, rfl, s_value_of_word, ["group", "word", "found", "letter"], 40, F, ⟨rfl, rfl, rfl, by decide +kernel, rfl, by decide +kernel, by decide +kernel⟩, rfl, t_value_of_word⟩
theorem t_reduced : trSs (tr 40) (M.sg ["word", "found", "letter"] (defScope s_reduced)) (defBody s_reduced) = some c_reduced := rfl
theorem i_reduced (X : K.In h) (G : h.Ns mainGlobals mg) (a1 : PySem.W.nsIn K mainGlobals "reduced" = some (some (.ref fa))) (l1 : K.lookup fa = some ⟨oc, od, .func (PySem.W.fnOf "reduced" "reduced" (defArgs s_reduced) (defBody s_reduced) (defScope s_reduced) .none kV dc pm an cd ct), sl⟩) (c1 : PySem.W.codeIn K cd "reduced" = true) (k1 : PySem.W.keepIn K (.ref fa) = true) :
    DefI M K mg "reduced" ⟨1, 3, c_reduced⟩ fa (PySem.W.fnOf "reduced" "reduced" (defArgs s_reduced) (defBody s_reduced) (defScope s_reduced) .none kV dc pm an cd ct) ["word"] :=
  have F := fun_mk (st := s_reduced) l1 c1 k1
  ⟨PySem.W.mg_of X G a1, F.binds (ps := ["word"]) fun _ _ _ _ _ _ us hl => (match us, hl with | [_], _ => rfl), k1, rfl, s_reduced, ["word", "found", "letter"], 40, F, ⟨rfl, rfl, rfl, by decide +kernel, rfl, by decide +kernel, by decide +kernel⟩, rfl, t_reduced⟩
theorem t_inverse_word : trSs (tr 40) (M.sg ["word", "letter"] (defScope s_inverse_word)) (defBody s_inverse_word) = some c_inverse_word := rfl
theorem i_inverse_word (X : K.In h) (G : h.Ns mainGlobals mg) (a1 : PySem.W.nsIn K mainGlobals "inverse_word" = some (some (.ref fa))) (l1 : K.lookup fa = some ⟨oc, od, .func (PySem.W.fnOf "inverse_word" "inverse_word" (defArgs s_inverse_word) (defBody s_inverse_word) (defScope s_inverse_word) .none kV dc pm an cd ct), sl⟩) (c1 : PySem.W.codeIn K cd "inverse_word" = true) (k1 : PySem.W.keepIn K (.ref fa) = true) :
    DefI M K mg "inverse_word" ⟨1, 2, c_inverse_word⟩ fa (PySem.W.fnOf "inverse_word" "inverse_word" (defArgs s_inverse_word) (defBody s_inverse_word) (defScope s_inverse_word) .none kV dc pm an cd ct) ["word"] :=
  have F := fun_mk (st := s_inverse_word) l1 c1 k1
  ⟨PySem.W.mg_of X G a1, F.binds (ps := ["word"]) fun _ _ _ _ _ _ us hl => (match us, hl with | [_], _ => rfl), k1, rfl, s_inverse_word, ["word", "letter"], 40, F, ⟨rfl, rfl, rfl, by decide +kernel, rfl, by decide +kernel, by decide +kernel⟩, rfl, t_inverse_word⟩
theorem t__law_take : trSs (tr 40) (M.sg ["d", "many", "digit", "small"] (defScope s__law_take)) (defBody s__law_take) = some c__law_take := rfl
theorem i__law_take (X : K.In h) (G : h.Ns mainGlobals mg) (a1 : PySem.W.nsIn K mainGlobals "_law_take" = some (some (.ref fa))) (l1 : K.lookup fa = some ⟨oc, od, .func (PySem.W.fnOf "_law_take" "_law_take" (defArgs s__law_take) (defBody s__law_take) (defScope s__law_take) .none kV dc pm an cd ct), sl⟩) (c1 : PySem.W.codeIn K cd "_law_take" = true) (k1 : PySem.W.keepIn K (.ref fa) = true) :
    DefI M K mg "_law_take" ⟨2, 4, c__law_take⟩ fa (PySem.W.fnOf "_law_take" "_law_take" (defArgs s__law_take) (defBody s__law_take) (defScope s__law_take) .none kV dc pm an cd ct) ["d", "many"] :=
  have F := fun_mk (st := s__law_take) l1 c1 k1
  ⟨PySem.W.mg_of X G a1, F.binds (ps := ["d", "many"]) fun _ _ _ _ _ _ us hl => (match us, hl with | [_, _], _ => rfl), k1, rfl, s__law_take, ["d", "many", "digit", "small"], 40, F, ⟨rfl, rfl, rfl, by decide +kernel, rfl, by decide +kernel, by decide +kernel⟩, rfl, t__law_take⟩
theorem t__law_pick : trSs (tr 40) (M.sg ["d", "menu"] (defScope s__law_pick)) (defBody s__law_pick) = some c__law_pick := rfl
theorem i__law_pick (X : K.In h) (G : h.Ns mainGlobals mg) (a1 : PySem.W.nsIn K mainGlobals "_law_pick" = some (some (.ref fa))) (l1 : K.lookup fa = some ⟨oc, od, .func (PySem.W.fnOf "_law_pick" "_law_pick" (defArgs s__law_pick) (defBody s__law_pick) (defScope s__law_pick) .none kV dc pm an cd ct), sl⟩) (c1 : PySem.W.codeIn K cd "_law_pick" = true) (k1 : PySem.W.keepIn K (.ref fa) = true) :
    DefI M K mg "_law_pick" ⟨2, 2, c__law_pick⟩ fa (PySem.W.fnOf "_law_pick" "_law_pick" (defArgs s__law_pick) (defBody s__law_pick) (defScope s__law_pick) .none kV dc pm an cd ct) ["d", "menu"] :=
  have F := fun_mk (st := s__law_pick) l1 c1 k1
  ⟨PySem.W.mg_of X G a1, F.binds (ps := ["d", "menu"]) fun _ _ _ _ _ _ us hl => (match us, hl with | [_, _], _ => rfl), k1, rfl, s__law_pick, ["d", "menu"], 40, F, ⟨rfl, rfl, rfl, by decide +kernel, rfl, by decide +kernel, by decide +kernel⟩, rfl, t__law_pick⟩
theorem t__law_begin : trSs (tr 40) (M.sg ["script", "seed", "cell"] (defScope s__law_begin)) (defBody s__law_begin) = some c__law_begin := rfl
theorem i__law_begin (X : K.In h) (G : h.Ns mainGlobals mg) (a1 : PySem.W.nsIn K mainGlobals "_law_begin" = some (some (.ref fa))) (l1 : K.lookup fa = some ⟨oc, od, .func (PySem.W.fnOf "_law_begin" "_law_begin" (defArgs s__law_begin) (defBody s__law_begin) (defScope s__law_begin) .none kV dc pm an cd ct), sl⟩) (c1 : PySem.W.codeIn K cd "_law_begin" = true) (k1 : PySem.W.keepIn K (.ref fa) = true) :
    DefI M K mg "_law_begin" ⟨1, 3, c__law_begin⟩ fa (PySem.W.fnOf "_law_begin" "_law_begin" (defArgs s__law_begin) (defBody s__law_begin) (defScope s__law_begin) .none kV dc pm an cd ct) ["script"] :=
  have F := fun_mk (st := s__law_begin) l1 c1 k1
  ⟨PySem.W.mg_of X G a1, F.binds (ps := ["script"]) fun _ _ _ _ _ _ us hl => (match us, hl with | [_], _ => rfl), k1, rfl, s__law_begin, ["script", "seed", "cell"], 40, F, ⟨rfl, rfl, rfl, by decide +kernel, rfl, by decide +kernel, by decide +kernel⟩, rfl, t__law_begin⟩
theorem t__law_shuffled : trSs (tr 40) (M.sg ["d", "n", "rest", "k"] (defScope s__law_shuffled)) (defBody s__law_shuffled) = some c__law_shuffled := rfl
theorem i__law_shuffled (X : K.In h) (G : h.Ns mainGlobals mg) (a1 : PySem.W.nsIn K mainGlobals "_law_shuffled" = some (some (.ref fa))) (l1 : K.lookup fa = some ⟨oc, od, .func (PySem.W.fnOf "_law_shuffled" "_law_shuffled" (defArgs s__law_shuffled) (defBody s__law_shuffled) (defScope s__law_shuffled) .none kV dc pm an cd ct), sl⟩) (c1 : PySem.W.codeIn K cd "_law_shuffled" = true) (k1 : PySem.W.keepIn K (.ref fa) = true) :
    DefI M K mg "_law_shuffled" ⟨2, 4, c__law_shuffled⟩ fa (PySem.W.fnOf "_law_shuffled" "_law_shuffled" (defArgs s__law_shuffled) (defBody s__law_shuffled) (defScope s__law_shuffled) .none kV dc pm an cd ct) ["d", "n"] :=
  have F := fun_mk (st := s__law_shuffled) l1 c1 k1
  ⟨PySem.W.mg_of X G a1, F.binds (ps := ["d", "n"]) fun _ _ _ _ _ _ us hl => (match us, hl with | [_, _], _ => rfl), k1, rfl, s__law_shuffled, ["d", "n", "rest", "k"], 40, F, ⟨rfl, rfl, rfl, by decide +kernel, rfl, by decide +kernel, by decide +kernel⟩, rfl, t__law_shuffled⟩
theorem t__law_cycle : trSs (tr 40) (M.sg ["n", "row", "images", "k"] (defScope s__law_cycle)) (defBody s__law_cycle) = some c__law_cycle := rfl
theorem i__law_cycle (X : K.In h) (G : h.Ns mainGlobals mg) (a1 : PySem.W.nsIn K mainGlobals "_law_cycle" = some (some (.ref fa))) (l1 : K.lookup fa = some ⟨oc, od, .func (PySem.W.fnOf "_law_cycle" "_law_cycle" (defArgs s__law_cycle) (defBody s__law_cycle) (defScope s__law_cycle) .none kV dc pm an cd ct), sl⟩) (c1 : PySem.W.codeIn K cd "_law_cycle" = true) (k1 : PySem.W.keepIn K (.ref fa) = true) :
    DefI M K mg "_law_cycle" ⟨2, 4, c__law_cycle⟩ fa (PySem.W.fnOf "_law_cycle" "_law_cycle" (defArgs s__law_cycle) (defBody s__law_cycle) (defScope s__law_cycle) .none kV dc pm an cd ct) ["n", "row"] :=
  have F := fun_mk (st := s__law_cycle) l1 c1 k1
  ⟨PySem.W.mg_of X G a1, F.binds (ps := ["n", "row"]) fun _ _ _ _ _ _ us hl => (match us, hl with | [_, _], _ => rfl), k1, rfl, s__law_cycle, ["n", "row", "images", "k"], 40, F, ⟨rfl, rfl, rfl, by decide +kernel, rfl, by decide +kernel, by decide +kernel⟩, rfl, t__law_cycle⟩
theorem t__law_disjoint : trSs (tr 40) (M.sg ["d", "n", "gens", "start", "size"] (defScope s__law_disjoint)) (defBody s__law_disjoint) = some c__law_disjoint := rfl
theorem i__law_disjoint (X : K.In h) (G : h.Ns mainGlobals mg) (a1 : PySem.W.nsIn K mainGlobals "_law_disjoint" = some (some (.ref fa))) (l1 : K.lookup fa = some ⟨oc, od, .func (PySem.W.fnOf "_law_disjoint" "_law_disjoint" (defArgs s__law_disjoint) (defBody s__law_disjoint) (defScope s__law_disjoint) .none kV dc pm an cd ct), sl⟩) (c1 : PySem.W.codeIn K cd "_law_disjoint" = true) (k1 : PySem.W.keepIn K (.ref fa) = true) :
    DefI M K mg "_law_disjoint" ⟨2, 5, c__law_disjoint⟩ fa (PySem.W.fnOf "_law_disjoint" "_law_disjoint" (defArgs s__law_disjoint) (defBody s__law_disjoint) (defScope s__law_disjoint) .none kV dc pm an cd ct) ["d", "n"] :=
  have F := fun_mk (st := s__law_disjoint) l1 c1 k1
  ⟨PySem.W.mg_of X G a1, F.binds (ps := ["d", "n"]) fun _ _ _ _ _ _ us hl => (match us, hl with | [_, _], _ => rfl), k1, rfl, s__law_disjoint, ["d", "n", "gens", "start", "size"], 40, F, ⟨rfl, rfl, rfl, by decide +kernel, rfl, by decide +kernel, by decide +kernel⟩, rfl, t__law_disjoint⟩
theorem t__law_imprimitive : trSs (tr 40) (M.sg ["d", "n", "size", "many", "order", "moves", "b", "inner", "one", "x", "turn"] (defScope s__law_imprimitive)) (defBody s__law_imprimitive) = some c__law_imprimitive := rfl
theorem i__law_imprimitive (X : K.In h) (G : h.Ns mainGlobals mg) (a1 : PySem.W.nsIn K mainGlobals "_law_imprimitive" = some (some (.ref fa))) (l1 : K.lookup fa = some ⟨oc, od, .func (PySem.W.fnOf "_law_imprimitive" "_law_imprimitive" (defArgs s__law_imprimitive) (defBody s__law_imprimitive) (defScope s__law_imprimitive) .none kV dc pm an cd ct), sl⟩) (c1 : PySem.W.codeIn K cd "_law_imprimitive" = true) (k1 : PySem.W.keepIn K (.ref fa) = true) :
    DefI M K mg "_law_imprimitive" ⟨2, 11, c__law_imprimitive⟩ fa (PySem.W.fnOf "_law_imprimitive" "_law_imprimitive" (defArgs s__law_imprimitive) (defBody s__law_imprimitive) (defScope s__law_imprimitive) .none kV dc pm an cd ct) ["d", "n"] :=
  have F := fun_mk (st := s__law_imprimitive) l1 c1 k1
  ⟨PySem.W.mg_of X G a1, F.binds (ps := ["d", "n"]) fun _ _ _ _ _ _ us hl => (match us, hl with | [_, _], _ => rfl), k1, rfl, s__law_imprimitive, ["d", "n", "size", "many", "order", "moves", "b", "inner", "one", "x", "turn"], 40, F, ⟨rfl, rfl, rfl, by decide +kernel, rfl, by decide +kernel, by decide +kernel⟩, rfl, t__law_imprimitive⟩
theorem t__law_affine : trSs (tr 40) (M.sg ["d", "n", "primes", "p", "a", "rest", "x"] (defScope s__law_affine)) (defBody s__law_affine) = some c__law_affine := rfl
theorem i__law_affine (X : K.In h) (G : h.Ns mainGlobals mg) (a1 : PySem.W.nsIn K mainGlobals "_law_affine" = some (some (.ref fa))) (l1 : K.lookup fa = some ⟨oc, od, .func (PySem.W.fnOf "_law_affine" "_law_affine" (defArgs s__law_affine) (defBody s__law_affine) (defScope s__law_affine) .none kV dc pm an cd ct), sl⟩) (c1 : PySem.W.codeIn K cd "_law_affine" = true) (k1 : PySem.W.keepIn K (.ref fa) = true) :
    DefI M K mg "_law_affine" ⟨2, 7, c__law_affine⟩ fa (PySem.W.fnOf "_law_affine" "_law_affine" (defArgs s__law_affine) (defBody s__law_affine) (defScope s__law_affine) .none kV dc pm an cd ct) ["d", "n"] :=
  have F := fun_mk (st := s__law_affine) l1 c1 k1
  ⟨PySem.W.mg_of X G a1, F.binds (ps := ["d", "n"]) fun _ _ _ _ _ _ us hl => (match us, hl with | [_, _], _ => rfl), k1, rfl, s__law_affine, ["d", "n", "primes", "p", "a", "rest", "x"], 40, F, ⟨rfl, rfl, rfl, by decide +kernel, rfl, by decide +kernel, by decide +kernel⟩, rfl, t__law_affine⟩
theorem t__law_projective : trSs (tr 40) (M.sg ["d", "n", "primes", "p", "rest", "turn", "x", "y"] (defScope s__law_projective)) (defBody s__law_projective) = some c__law_projective := rfl
theorem i__law_projective (X : K.In h) (G : h.Ns mainGlobals mg) (a1 : PySem.W.nsIn K mainGlobals "_law_projective" = some (some (.ref fa))) (l1 : K.lookup fa = some ⟨oc, od, .func (PySem.W.fnOf "_law_projective" "_law_projective" (defArgs s__law_projective) (defBody s__law_projective) (defScope s__law_projective) .none kV dc pm an cd ct), sl⟩) (c1 : PySem.W.codeIn K cd "_law_projective" = true) (k1 : PySem.W.keepIn K (.ref fa) = true) :
    DefI M K mg "_law_projective" ⟨2, 8, c__law_projective⟩ fa (PySem.W.fnOf "_law_projective" "_law_projective" (defArgs s__law_projective) (defBody s__law_projective) (defScope s__law_projective) .none kV dc pm an cd ct) ["d", "n"] :=
  have F := fun_mk (st := s__law_projective) l1 c1 k1
  ⟨PySem.W.mg_of X G a1, F.binds (ps := ["d", "n"]) fun _ _ _ _ _ _ us hl => (match us, hl with | [_, _], _ => rfl), k1, rfl, s__law_projective, ["d", "n", "primes", "p", "rest", "turn", "x", "y"], 40, F, ⟨rfl, rfl, rfl, by decide +kernel, rfl, by decide +kernel, by decide +kernel⟩, rfl, t__law_projective⟩
theorem t__law_times : trSs (tr 40) (M.sg ["p", "q", "x"] (defScope s__law_times)) (defBody s__law_times) = some c__law_times := rfl
theorem i__law_times (X : K.In h) (G : h.Ns mainGlobals mg) (a1 : PySem.W.nsIn K mainGlobals "_law_times" = some (some (.ref fa))) (l1 : K.lookup fa = some ⟨oc, od, .func (PySem.W.fnOf "_law_times" "_law_times" (defArgs s__law_times) (defBody s__law_times) (defScope s__law_times) .none kV dc pm an cd ct), sl⟩) (c1 : PySem.W.codeIn K cd "_law_times" = true) (k1 : PySem.W.keepIn K (.ref fa) = true) :
    DefI M K mg "_law_times" ⟨2, 3, c__law_times⟩ fa (PySem.W.fnOf "_law_times" "_law_times" (defArgs s__law_times) (defBody s__law_times) (defScope s__law_times) .none kV dc pm an cd ct) ["p", "q"] :=
  have F := fun_mk (st := s__law_times) l1 c1 k1
  ⟨PySem.W.mg_of X G a1, F.binds (ps := ["p", "q"]) fun _ _ _ _ _ _ us hl => (match us, hl with | [_, _], _ => rfl), k1, rfl, s__law_times, ["p", "q", "x"], 40, F, ⟨rfl, rfl, rfl, by decide +kernel, rfl, by decide +kernel, by decide +kernel⟩, rfl, t__law_times⟩
theorem t__law_inverse : trSs (tr 40) (M.sg ["p", "row", "x"] (defScope s__law_inverse)) (defBody s__law_inverse) = some c__law_inverse := rfl
theorem i__law_inverse (X : K.In h) (G : h.Ns mainGlobals mg) (a1 : PySem.W.nsIn K mainGlobals "_law_inverse" = some (some (.ref fa))) (l1 : K.lookup fa = some ⟨oc, od, .func (PySem.W.fnOf "_law_inverse" "_law_inverse" (defArgs s__law_inverse) (defBody s__law_inverse) (defScope s__law_inverse) .none kV dc pm an cd ct), sl⟩) (c1 : PySem.W.codeIn K cd "_law_inverse" = true) (k1 : PySem.W.keepIn K (.ref fa) = true) :
    DefI M K mg "_law_inverse" ⟨1, 3, c__law_inverse⟩ fa (PySem.W.fnOf "_law_inverse" "_law_inverse" (defArgs s__law_inverse) (defBody s__law_inverse) (defScope s__law_inverse) .none kV dc pm an cd ct) ["p"] :=
  have F := fun_mk (st := s__law_inverse) l1 c1 k1
  ⟨PySem.W.mg_of X G a1, F.binds (ps := ["p"]) fun _ _ _ _ _ _ us hl => (match us, hl with | [_], _ => rfl), k1, rfl, s__law_inverse, ["p", "row", "x"], 40, F, ⟨rfl, rfl, rfl, by decide +kernel, rfl, by decide +kernel, by decide +kernel⟩, rfl, t__law_inverse⟩
theorem t__law_comm : trSs (tr 40) (M.sg ["p", "q"] (defScope s__law_comm)) (defBody s__law_comm) = some c__law_comm := rfl
theorem i__law_comm (X : K.In h) (G : h.Ns mainGlobals mg) (a1 : PySem.W.nsIn K mainGlobals "_law_comm" = some (some (.ref fa))) (l1 : K.lookup fa = some ⟨oc, od, .func (PySem.W.fnOf "_law_comm" "_law_comm" (defArgs s__law_comm) (defBody s__law_comm) (defScope s__law_comm) .none kV dc pm an cd ct), sl⟩) (c1 : PySem.W.codeIn K cd "_law_comm" = true) (k1 : PySem.W.keepIn K (.ref fa) = true) :
    DefI M K mg "_law_comm" ⟨2, 2, c__law_comm⟩ fa (PySem.W.fnOf "_law_comm" "_law_comm" (defArgs s__law_comm) (defBody s__law_comm) (defScope s__law_comm) .none kV dc pm an cd ct) ["p", "q"] :=
  have F := fun_mk (st := s__law_comm) l1 c1 k1
  ⟨PySem.W.mg_of X G a1, F.binds (ps := ["p", "q"]) fun _ _ _ _ _ _ us hl => (match us, hl with | [_, _], _ => rfl), k1, rfl, s__law_comm, ["p", "q"], 40, F, ⟨rfl, rfl, rfl, by decide +kernel, rfl, by decide +kernel, by decide +kernel⟩, rfl, t__law_comm⟩
theorem t__law_gens_of : trSs (tr 40) (M.sg ["d", "n", "kind", "base", "size", "flip", "odd", "points", "k", "x"] (defScope s__law_gens_of)) (defBody s__law_gens_of) = some c__law_gens_of := rfl
theorem i__law_gens_of (X : K.In h) (G : h.Ns mainGlobals mg) (a1 : PySem.W.nsIn K mainGlobals "_law_gens_of" = some (some (.ref fa))) (l1 : K.lookup fa = some ⟨oc, od, .func (PySem.W.fnOf "_law_gens_of" "_law_gens_of" (defArgs s__law_gens_of) (defBody s__law_gens_of) (defScope s__law_gens_of) .none kV dc pm an cd ct), sl⟩) (c1 : PySem.W.codeIn K cd "_law_gens_of" = true) (k1 : PySem.W.keepIn K (.ref fa) = true) :
    DefI M K mg "_law_gens_of" ⟨2, 10, c__law_gens_of⟩ fa (PySem.W.fnOf "_law_gens_of" "_law_gens_of" (defArgs s__law_gens_of) (defBody s__law_gens_of) (defScope s__law_gens_of) .none kV dc pm an cd ct) ["d", "n"] :=
  have F := fun_mk (st := s__law_gens_of) l1 c1 k1
  ⟨PySem.W.mg_of X G a1, F.binds (ps := ["d", "n"]) fun _ _ _ _ _ _ us hl => (match us, hl with | [_, _], _ => rfl), k1, rfl, s__law_gens_of, ["d", "n", "kind", "base", "size", "flip", "odd", "points", "k", "x"], 40, F, ⟨rfl, rfl, rfl, by decide +kernel, rfl, by decide +kernel, by decide +kernel⟩, rfl, t__law_gens_of⟩
theorem t__law_conj : trSs (tr 40) (M.sg ["p", "c", "row", "x"] (defScope s__law_conj)) (defBody s__law_conj) = some c__law_conj := rfl
theorem i__law_conj (X : K.In h) (G : h.Ns mainGlobals mg) (a1 : PySem.W.nsIn K mainGlobals "_law_conj" = some (some (.ref fa))) (l1 : K.lookup fa = some ⟨oc, od, .func (PySem.W.fnOf "_law_conj" "_law_conj" (defArgs s__law_conj) (defBody s__law_conj) (defScope s__law_conj) .none kV dc pm an cd ct), sl⟩) (c1 : PySem.W.codeIn K cd "_law_conj" = true) (k1 : PySem.W.keepIn K (.ref fa) = true) :
    DefI M K mg "_law_conj" ⟨2, 4, c__law_conj⟩ fa (PySem.W.fnOf "_law_conj" "_law_conj" (defArgs s__law_conj) (defBody s__law_conj) (defScope s__law_conj) .none kV dc pm an cd ct) ["p", "c"] :=
  have F := fun_mk (st := s__law_conj) l1 c1 k1
  ⟨PySem.W.mg_of X G a1, F.binds (ps := ["p", "c"]) fun _ _ _ _ _ _ us hl => (match us, hl with | [_, _], _ => rfl), k1, rfl, s__law_conj, ["p", "c", "row", "x"], 40, F, ⟨rfl, rfl, rfl, by decide +kernel, rfl, by decide +kernel, by decide +kernel⟩, rfl, t__law_conj⟩
theorem t__law_group : trSs (tr 40) (M.sg ["d", "most", "n", "gens", "c", "p"] (defScope s__law_group)) (defBody s__law_group) = some c__law_group := rfl
theorem i__law_group (X : K.In h) (G : h.Ns mainGlobals mg) (a1 : PySem.W.nsIn K mainGlobals "_law_group" = some (some (.ref fa))) (l1 : K.lookup fa = some ⟨oc, od, .func (PySem.W.fnOf "_law_group" "_law_group" (defArgs s__law_group) (defBody s__law_group) (defScope s__law_group) .none kV dc pm an cd ct), sl⟩) (c1 : PySem.W.codeIn K cd "_law_group" = true) (k1 : PySem.W.keepIn K (.ref fa) = true) :
    DefI M K mg "_law_group" ⟨2, 6, c__law_group⟩ fa (PySem.W.fnOf "_law_group" "_law_group" (defArgs s__law_group) (defBody s__law_group) (defScope s__law_group) .none kV dc pm an cd ct) ["d", "most"] :=
  have F := fun_mk (st := s__law_group) l1 c1 k1
  ⟨PySem.W.mg_of X G a1, F.binds (ps := ["d", "most"]) fun _ _ _ _ _ _ us hl => (match us, hl with | [_, _], _ => rfl), k1, rfl, s__law_group, ["d", "most", "n", "gens", "c", "p"], 40, F, ⟨rfl, rfl, rfl, by decide +kernel, rfl, by decide +kernel, by decide +kernel⟩, rfl, t__law_group⟩
theorem t__law_word : trSs (tr 40) (M.sg ["d", "many", "size", "row", "k"] (defScope s__law_word)) (defBody s__law_word) = some c__law_word := rfl
theorem i__law_word (X : K.In h) (G : h.Ns mainGlobals mg) (a1 : PySem.W.nsIn K mainGlobals "_law_word" = some (some (.ref fa))) (l1 : K.lookup fa = some ⟨oc, od, .func (PySem.W.fnOf "_law_word" "_law_word" (defArgs s__law_word) (defBody s__law_word) (defScope s__law_word) .none kV dc pm an cd ct), sl⟩) (c1 : PySem.W.codeIn K cd "_law_word" = true) (k1 : PySem.W.keepIn K (.ref fa) = true) :
    DefI M K mg "_law_word" ⟨3, 5, c__law_word⟩ fa (PySem.W.fnOf "_law_word" "_law_word" (defArgs s__law_word) (defBody s__law_word) (defScope s__law_word) .none kV dc pm an cd ct) ["d", "many", "size"] :=
  have F := fun_mk (st := s__law_word) l1 c1 k1
  ⟨PySem.W.mg_of X G a1, F.binds (ps := ["d", "many", "size"]) fun _ _ _ _ _ _ us hl => (match us, hl with | [_, _, _], _ => rfl), k1, rfl, s__law_word, ["d", "many", "size", "row", "k"], 40, F, ⟨rfl, rfl, rfl, by decide +kernel, rfl, by decide +kernel, by decide +kernel⟩, rfl, t__law_word⟩
theorem t__law_reduced : trSs (tr 40) (M.sg ["word", "row", "at"] (defScope s__law_reduced)) (defBody s__law_reduced) = some c__law_reduced := rfl
theorem i__law_reduced (X : K.In h) (G : h.Ns mainGlobals mg) (a1 : PySem.W.nsIn K mainGlobals "_law_reduced" = some (some (.ref fa))) (l1 : K.lookup fa = some ⟨oc, od, .func (PySem.W.fnOf "_law_reduced" "_law_reduced" (defArgs s__law_reduced) (defBody s__law_reduced) (defScope s__law_reduced) .none kV dc pm an cd ct), sl⟩) (c1 : PySem.W.codeIn K cd "_law_reduced" = true) (k1 : PySem.W.keepIn K (.ref fa) = true) :
    DefI M K mg "_law_reduced" ⟨1, 3, c__law_reduced⟩ fa (PySem.W.fnOf "_law_reduced" "_law_reduced" (defArgs s__law_reduced) (defBody s__law_reduced) (defScope s__law_reduced) .none kV dc pm an cd ct) ["word"] :=
  have F := fun_mk (st := s__law_reduced) l1 c1 k1
  ⟨PySem.W.mg_of X G a1, F.binds (ps := ["word"]) fun _ _ _ _ _ _ us hl => (match us, hl with | [_], _ => rfl), k1, rfl, s__law_reduced, ["word", "row", "at"], 40, F, ⟨rfl, rfl, rfl, by decide +kernel, rfl, by decide +kernel, by decide +kernel⟩, rfl, t__law_reduced⟩
theorem t__law_value : trSs (tr 40) (M.sg ["group", "word", "found", "x", "letter", "p"] (defScope s__law_value)) (defBody s__law_value) = some c__law_value := rfl
theorem i__law_value (X : K.In h) (G : h.Ns mainGlobals mg) (a1 : PySem.W.nsIn K mainGlobals "_law_value" = some (some (.ref fa))) (l1 : K.lookup fa = some ⟨oc, od, .func (PySem.W.fnOf "_law_value" "_law_value" (defArgs s__law_value) (defBody s__law_value) (defScope s__law_value) .none kV dc pm an cd ct), sl⟩) (c1 : PySem.W.codeIn K cd "_law_value" = true) (k1 : PySem.W.keepIn K (.ref fa) = true) :
    DefI M K mg "_law_value" ⟨2, 6, c__law_value⟩ fa (PySem.W.fnOf "_law_value" "_law_value" (defArgs s__law_value) (defBody s__law_value) (defScope s__law_value) .none kV dc pm an cd ct) ["group", "word"] :=
  have F := fun_mk (st := s__law_value) l1 c1 k1
  ⟨PySem.W.mg_of X G a1, F.binds (ps := ["group", "word"]) fun _ _ _ _ _ _ us hl => (match us, hl with | [_, _], _ => rfl), k1, rfl, s__law_value, ["group", "word", "found", "x", "letter", "p"], 40, F, ⟨rfl, rfl, rfl, by decide +kernel, rfl, by decide +kernel, by decide +kernel⟩, rfl, t__law_value⟩
theorem t__law_asked : trSs (tr 40) (M.sg ["group", "word", "e"] (defScope s__law_asked)) (defBody s__law_asked) = some c__law_asked := rfl
theorem i__law_asked (X : K.In h) (G : h.Ns mainGlobals mg) (a1 : PySem.W.nsIn K mainGlobals "_law_asked" = some (some (.ref fa))) (l1 : K.lookup fa = some ⟨oc, od, .func (PySem.W.fnOf "_law_asked" "_law_asked" (defArgs s__law_asked) (defBody s__law_asked) (defScope s__law_asked) .none kV dc pm an cd ct), sl⟩) (c1 : PySem.W.codeIn K cd "_law_asked" = true) (k1 : PySem.W.keepIn K (.ref fa) = true) :
    DefI M K mg "_law_asked" ⟨2, 3, c__law_asked⟩ fa (PySem.W.fnOf "_law_asked" "_law_asked" (defArgs s__law_asked) (defBody s__law_asked) (defScope s__law_asked) .none kV dc pm an cd ct) ["group", "word"] :=
  have F := fun_mk (st := s__law_asked) l1 c1 k1
  ⟨PySem.W.mg_of X G a1, F.binds (ps := ["group", "word"]) fun _ _ _ _ _ _ us hl => (match us, hl with | [_, _], _ => rfl), k1, rfl, s__law_asked, ["group", "word", "e"], 40, F, ⟨rfl, rfl, rfl, by decide +kernel, rfl, by decide +kernel, by decide +kernel⟩, rfl, t__law_asked⟩
theorem t_law : trSs (tr 40) (M.sg ["script", "d", "group", "many", "word", "less", "back", "at", "wrong", "letter"] (defScope s_law)) (defBody s_law) = some c_law := rfl
theorem i_law (X : K.In h) (G : h.Ns mainGlobals mg) (a1 : PySem.W.nsIn K mainGlobals "law" = some (some (.ref fa))) (l1 : K.lookup fa = some ⟨oc, od, .func (PySem.W.fnOf "law" "law" (defArgs s_law) (defBody s_law) (defScope s_law) .none kV dc pm an cd ct), sl⟩) (c1 : PySem.W.codeIn K cd "law" = true) (k1 : PySem.W.keepIn K (.ref fa) = true) :
    DefI M K mg "law" ⟨1, 10, c_law⟩ fa (PySem.W.fnOf "law" "law" (defArgs s_law) (defBody s_law) (defScope s_law) .none kV dc pm an cd ct) ["script"] :=
  have F := fun_mk (st := s_law) l1 c1 k1
  ⟨PySem.W.mg_of X G a1, F.binds (ps := ["script"]) fun _ _ _ _ _ _ us hl => (match us, hl with | [_], _ => rfl), k1, rfl, s_law, ["script", "d", "group", "many", "word", "less", "back", "at", "wrong", "letter"], 40, F, ⟨rfl, rfl, rfl, by decide +kernel, rfl, by decide +kernel, by decide +kernel⟩, rfl, t_law⟩
end
end Mi
theorem Mi.law_true (ns : List Int) (h : ns.length ≤ 63) : ∃ h, Mi.callD Mi.M.T 60 "law" [.fz ns] [] = .ok (.bl true) h := Mi.law_body ns h
namespace Mi
open PySem L2
theorem all_mk {l : PySem.W.OpenLaw} {w : World} {K : PySem.W.Frag} {h : Heap} {mg : Str → Option Value} {fa : Addr} (X : K.In h) (G : h.Ns mainGlobals mg) (hfa : mg "law" = some (.ref fa))
    {f0 : Addr} {od0 an0 : Option Addr} {sl0 : Array (Option Value)} {oc0 kV0 dc0 pm0 cd0 ct0 : Value}
    (a0 : PySem.W.nsIn K mainGlobals "identity" = some (some (.ref f0))) (l0 : K.lookup f0 = some ⟨oc0, od0, .func (PySem.W.fnOf "identity" "identity" (defArgs s_identity) (defBody s_identity) (defScope s_identity) .none kV0 dc0 pm0 an0 cd0 ct0), sl0⟩) (c0 : PySem.W.codeIn K cd0 "identity" = true) (k0 : PySem.W.keepIn K (.ref f0) = true)
    {f1 : Addr} {od1 an1 : Option Addr} {sl1 : Array (Option Value)} {oc1 kV1 dc1 pm1 cd1 ct1 : Value}
    (a1 : PySem.W.nsIn K mainGlobals "times" = some (some (.ref f1))) (l1 : K.lookup f1 = some ⟨oc1, od1, .func (PySem.W.fnOf "times" "times" (defArgs s_times) (defBody s_times) (defScope s_times) .none kV1 dc1 pm1 an1 cd1 ct1), sl1⟩) (c1 : PySem.W.codeIn K cd1 "times" = true) (k1 : PySem.W.keepIn K (.ref f1) = true)
    {f2 : Addr} {od2 an2 : Option Addr} {sl2 : Array (Option Value)} {oc2 kV2 dc2 pm2 cd2 ct2 : Value}
    (a2 : PySem.W.nsIn K mainGlobals "inverse" = some (some (.ref f2))) (l2 : K.lookup f2 = some ⟨oc2, od2, .func (PySem.W.fnOf "inverse" "inverse" (defArgs s_inverse) (defBody s_inverse) (defScope s_inverse) .none kV2 dc2 pm2 an2 cd2 ct2), sl2⟩) (c2 : PySem.W.codeIn K cd2 "inverse" = true) (k2 : PySem.W.keepIn K (.ref f2) = true)
    {f3 : Addr} {od3 an3 : Option Addr} {sl3 : Array (Option Value)} {oc3 kV3 dc3 pm3 cd3 ct3 : Value}
    (a3 : PySem.W.nsIn K mainGlobals "letter_value" = some (some (.ref f3))) (l3 : K.lookup f3 = some ⟨oc3, od3, .func (PySem.W.fnOf "letter_value" "letter_value" (defArgs s_letter_value) (defBody s_letter_value) (defScope s_letter_value) .none kV3 dc3 pm3 an3 cd3 ct3), sl3⟩) (c3 : PySem.W.codeIn K cd3 "letter_value" = true) (k3 : PySem.W.keepIn K (.ref f3) = true)
    {f4 : Addr} {od4 an4 : Option Addr} {sl4 : Array (Option Value)} {oc4 kV4 dc4 pm4 cd4 ct4 : Value}
    (a4 : PySem.W.nsIn K mainGlobals "value_of_word" = some (some (.ref f4))) (l4 : K.lookup f4 = some ⟨oc4, od4, .func (PySem.W.fnOf "value_of_word" "value_of_word" (defArgs s_value_of_word) (defBody s_value_of_word) (defScope s_value_of_word) .none kV4 dc4 pm4 an4 cd4 ct4), sl4⟩) (c4 : PySem.W.codeIn K cd4 "value_of_word" = true) (k4 : PySem.W.keepIn K (.ref f4) = true)
    {f5 : Addr} {od5 an5 : Option Addr} {sl5 : Array (Option Value)} {oc5 kV5 dc5 pm5 cd5 ct5 : Value}
    (a5 : PySem.W.nsIn K mainGlobals "reduced" = some (some (.ref f5))) (l5 : K.lookup f5 = some ⟨oc5, od5, .func (PySem.W.fnOf "reduced" "reduced" (defArgs s_reduced) (defBody s_reduced) (defScope s_reduced) .none kV5 dc5 pm5 an5 cd5 ct5), sl5⟩) (c5 : PySem.W.codeIn K cd5 "reduced" = true) (k5 : PySem.W.keepIn K (.ref f5) = true)
    {f6 : Addr} {od6 an6 : Option Addr} {sl6 : Array (Option Value)} {oc6 kV6 dc6 pm6 cd6 ct6 : Value}
    (a6 : PySem.W.nsIn K mainGlobals "inverse_word" = some (some (.ref f6))) (l6 : K.lookup f6 = some ⟨oc6, od6, .func (PySem.W.fnOf "inverse_word" "inverse_word" (defArgs s_inverse_word) (defBody s_inverse_word) (defScope s_inverse_word) .none kV6 dc6 pm6 an6 cd6 ct6), sl6⟩) (c6 : PySem.W.codeIn K cd6 "inverse_word" = true) (k6 : PySem.W.keepIn K (.ref f6) = true)
    {f7 : Addr} {od7 an7 : Option Addr} {sl7 : Array (Option Value)} {oc7 kV7 dc7 pm7 cd7 ct7 : Value}
    (a7 : PySem.W.nsIn K mainGlobals "_law_take" = some (some (.ref f7))) (l7 : K.lookup f7 = some ⟨oc7, od7, .func (PySem.W.fnOf "_law_take" "_law_take" (defArgs s__law_take) (defBody s__law_take) (defScope s__law_take) .none kV7 dc7 pm7 an7 cd7 ct7), sl7⟩) (c7 : PySem.W.codeIn K cd7 "_law_take" = true) (k7 : PySem.W.keepIn K (.ref f7) = true)
    {f8 : Addr} {od8 an8 : Option Addr} {sl8 : Array (Option Value)} {oc8 kV8 dc8 pm8 cd8 ct8 : Value}
    (a8 : PySem.W.nsIn K mainGlobals "_law_pick" = some (some (.ref f8))) (l8 : K.lookup f8 = some ⟨oc8, od8, .func (PySem.W.fnOf "_law_pick" "_law_pick" (defArgs s__law_pick) (defBody s__law_pick) (defScope s__law_pick) .none kV8 dc8 pm8 an8 cd8 ct8), sl8⟩) (c8 : PySem.W.codeIn K cd8 "_law_pick" = true) (k8 : PySem.W.keepIn K (.ref f8) = true)
    {f9 : Addr} {od9 an9 : Option Addr} {sl9 : Array (Option Value)} {oc9 kV9 dc9 pm9 cd9 ct9 : Value}
    (a9 : PySem.W.nsIn K mainGlobals "_law_begin" = some (some (.ref f9))) (l9 : K.lookup f9 = some ⟨oc9, od9, .func (PySem.W.fnOf "_law_begin" "_law_begin" (defArgs s__law_begin) (defBody s__law_begin) (defScope s__law_begin) .none kV9 dc9 pm9 an9 cd9 ct9), sl9⟩) (c9 : PySem.W.codeIn K cd9 "_law_begin" = true) (k9 : PySem.W.keepIn K (.ref f9) = true)
    {f10 : Addr} {od10 an10 : Option Addr} {sl10 : Array (Option Value)} {oc10 kV10 dc10 pm10 cd10 ct10 : Value}
    (a10 : PySem.W.nsIn K mainGlobals "_law_shuffled" = some (some (.ref f10))) (l10 : K.lookup f10 = some ⟨oc10, od10, .func (PySem.W.fnOf "_law_shuffled" "_law_shuffled" (defArgs s__law_shuffled) (defBody s__law_shuffled) (defScope s__law_shuffled) .none kV10 dc10 pm10 an10 cd10 ct10), sl10⟩) (c10 : PySem.W.codeIn K cd10 "_law_shuffled" = true) (k10 : PySem.W.keepIn K (.ref f10) = true)
    {f11 : Addr} {od11 an11 : Option Addr} {sl11 : Array (Option Value)} {oc11 kV11 dc11 pm11 cd11 ct11 : Value}
    (a11 : PySem.W.nsIn K mainGlobals "_law_cycle" = some (some (.ref f11))) (l11 : K.lookup f11 = some ⟨oc11, od11, .func (PySem.W.fnOf "_law_cycle" "_law_cycle" (defArgs s__law_cycle) (defBody s__law_cycle) (defScope s__law_cycle) .none kV11 dc11 pm11 an11 cd11 ct11), sl11⟩) (c11 : PySem.W.codeIn K cd11 "_law_cycle" = true) (k11 : PySem.W.keepIn K (.ref f11) = true)
    {f12 : Addr} {od12 an12 : Option Addr} {sl12 : Array (Option Value)} {oc12 kV12 dc12 pm12 cd12 ct12 : Value}
    (a12 : PySem.W.nsIn K mainGlobals "_law_disjoint" = some (some (.ref f12))) (l12 : K.lookup f12 = some ⟨oc12, od12, .func (PySem.W.fnOf "_law_disjoint" "_law_disjoint" (defArgs s__law_disjoint) (defBody s__law_disjoint) (defScope s__law_disjoint) .none kV12 dc12 pm12 an12 cd12 ct12), sl12⟩) (c12 : PySem.W.codeIn K cd12 "_law_disjoint" = true) (k12 : PySem.W.keepIn K (.ref f12) = true)
    {f13 : Addr} {od13 an13 : Option Addr} {sl13 : Array (Option Value)} {oc13 kV13 dc13 pm13 cd13 ct13 : Value}
    (a13 : PySem.W.nsIn K mainGlobals "_law_imprimitive" = some (some (.ref f13))) (l13 : K.lookup f13 = some ⟨oc13, od13, .func (PySem.W.fnOf "_law_imprimitive" "_law_imprimitive" (defArgs s__law_imprimitive) (defBody s__law_imprimitive) (defScope s__law_imprimitive) .none kV13 dc13 pm13 an13 cd13 ct13), sl13⟩) (c13 : PySem.W.codeIn K cd13 "_law_imprimitive" = true) (k13 : PySem.W.keepIn K (.ref f13) = true)
    {f14 : Addr} {od14 an14 : Option Addr} {sl14 : Array (Option Value)} {oc14 kV14 dc14 pm14 cd14 ct14 : Value}
    (a14 : PySem.W.nsIn K mainGlobals "_law_affine" = some (some (.ref f14))) (l14 : K.lookup f14 = some ⟨oc14, od14, .func (PySem.W.fnOf "_law_affine" "_law_affine" (defArgs s__law_affine) (defBody s__law_affine) (defScope s__law_affine) .none kV14 dc14 pm14 an14 cd14 ct14), sl14⟩) (c14 : PySem.W.codeIn K cd14 "_law_affine" = true) (k14 : PySem.W.keepIn K (.ref f14) = true)
    {f15 : Addr} {od15 an15 : Option Addr} {sl15 : Array (Option Value)} {oc15 kV15 dc15 pm15 cd15 ct15 : Value}
    (a15 : PySem.W.nsIn K mainGlobals "_law_projective" = some (some (.ref f15))) (l15 : K.lookup f15 = some ⟨oc15, od15, .func (PySem.W.fnOf "_law_projective" "_law_projective" (defArgs s__law_projective) (defBody s__law_projective) (defScope s__law_projective) .none kV15 dc15 pm15 an15 cd15 ct15), sl15⟩) (c15 : PySem.W.codeIn K cd15 "_law_projective" = true) (k15 : PySem.W.keepIn K (.ref f15) = true)
    {f16 : Addr} {od16 an16 : Option Addr} {sl16 : Array (Option Value)} {oc16 kV16 dc16 pm16 cd16 ct16 : Value}
    (a16 : PySem.W.nsIn K mainGlobals "_law_times" = some (some (.ref f16))) (l16 : K.lookup f16 = some ⟨oc16, od16, .func (PySem.W.fnOf "_law_times" "_law_times" (defArgs s__law_times) (defBody s__law_times) (defScope s__law_times) .none kV16 dc16 pm16 an16 cd16 ct16), sl16⟩) (c16 : PySem.W.codeIn K cd16 "_law_times" = true) (k16 : PySem.W.keepIn K (.ref f16) = true)
    {f17 : Addr} {od17 an17 : Option Addr} {sl17 : Array (Option Value)} {oc17 kV17 dc17 pm17 cd17 ct17 : Value}
    (a17 : PySem.W.nsIn K mainGlobals "_law_inverse" = some (some (.ref f17))) (l17 : K.lookup f17 = some ⟨oc17, od17, .func (PySem.W.fnOf "_law_inverse" "_law_inverse" (defArgs s__law_inverse) (defBody s__law_inverse) (defScope s__law_inverse) .none kV17 dc17 pm17 an17 cd17 ct17), sl17⟩) (c17 : PySem.W.codeIn K cd17 "_law_inverse" = true) (k17 : PySem.W.keepIn K (.ref f17) = true)
    {f18 : Addr} {od18 an18 : Option Addr} {sl18 : Array (Option Value)} {oc18 kV18 dc18 pm18 cd18 ct18 : Value}
    (a18 : PySem.W.nsIn K mainGlobals "_law_comm" = some (some (.ref f18))) (l18 : K.lookup f18 = some ⟨oc18, od18, .func (PySem.W.fnOf "_law_comm" "_law_comm" (defArgs s__law_comm) (defBody s__law_comm) (defScope s__law_comm) .none kV18 dc18 pm18 an18 cd18 ct18), sl18⟩) (c18 : PySem.W.codeIn K cd18 "_law_comm" = true) (k18 : PySem.W.keepIn K (.ref f18) = true)
    {f19 : Addr} {od19 an19 : Option Addr} {sl19 : Array (Option Value)} {oc19 kV19 dc19 pm19 cd19 ct19 : Value}
    (a19 : PySem.W.nsIn K mainGlobals "_law_gens_of" = some (some (.ref f19))) (l19 : K.lookup f19 = some ⟨oc19, od19, .func (PySem.W.fnOf "_law_gens_of" "_law_gens_of" (defArgs s__law_gens_of) (defBody s__law_gens_of) (defScope s__law_gens_of) .none kV19 dc19 pm19 an19 cd19 ct19), sl19⟩) (c19 : PySem.W.codeIn K cd19 "_law_gens_of" = true) (k19 : PySem.W.keepIn K (.ref f19) = true)
    {f20 : Addr} {od20 an20 : Option Addr} {sl20 : Array (Option Value)} {oc20 kV20 dc20 pm20 cd20 ct20 : Value}
    (a20 : PySem.W.nsIn K mainGlobals "_law_conj" = some (some (.ref f20))) (l20 : K.lookup f20 = some ⟨oc20, od20, .func (PySem.W.fnOf "_law_conj" "_law_conj" (defArgs s__law_conj) (defBody s__law_conj) (defScope s__law_conj) .none kV20 dc20 pm20 an20 cd20 ct20), sl20⟩) (c20 : PySem.W.codeIn K cd20 "_law_conj" = true) (k20 : PySem.W.keepIn K (.ref f20) = true)
    {f21 : Addr} {od21 an21 : Option Addr} {sl21 : Array (Option Value)} {oc21 kV21 dc21 pm21 cd21 ct21 : Value}
    (a21 : PySem.W.nsIn K mainGlobals "_law_group" = some (some (.ref f21))) (l21 : K.lookup f21 = some ⟨oc21, od21, .func (PySem.W.fnOf "_law_group" "_law_group" (defArgs s__law_group) (defBody s__law_group) (defScope s__law_group) .none kV21 dc21 pm21 an21 cd21 ct21), sl21⟩) (c21 : PySem.W.codeIn K cd21 "_law_group" = true) (k21 : PySem.W.keepIn K (.ref f21) = true)
    {f22 : Addr} {od22 an22 : Option Addr} {sl22 : Array (Option Value)} {oc22 kV22 dc22 pm22 cd22 ct22 : Value}
    (a22 : PySem.W.nsIn K mainGlobals "_law_word" = some (some (.ref f22))) (l22 : K.lookup f22 = some ⟨oc22, od22, .func (PySem.W.fnOf "_law_word" "_law_word" (defArgs s__law_word) (defBody s__law_word) (defScope s__law_word) .none kV22 dc22 pm22 an22 cd22 ct22), sl22⟩) (c22 : PySem.W.codeIn K cd22 "_law_word" = true) (k22 : PySem.W.keepIn K (.ref f22) = true)
    {f23 : Addr} {od23 an23 : Option Addr} {sl23 : Array (Option Value)} {oc23 kV23 dc23 pm23 cd23 ct23 : Value}
    (a23 : PySem.W.nsIn K mainGlobals "_law_reduced" = some (some (.ref f23))) (l23 : K.lookup f23 = some ⟨oc23, od23, .func (PySem.W.fnOf "_law_reduced" "_law_reduced" (defArgs s__law_reduced) (defBody s__law_reduced) (defScope s__law_reduced) .none kV23 dc23 pm23 an23 cd23 ct23), sl23⟩) (c23 : PySem.W.codeIn K cd23 "_law_reduced" = true) (k23 : PySem.W.keepIn K (.ref f23) = true)
    {f24 : Addr} {od24 an24 : Option Addr} {sl24 : Array (Option Value)} {oc24 kV24 dc24 pm24 cd24 ct24 : Value}
    (a24 : PySem.W.nsIn K mainGlobals "_law_value" = some (some (.ref f24))) (l24 : K.lookup f24 = some ⟨oc24, od24, .func (PySem.W.fnOf "_law_value" "_law_value" (defArgs s__law_value) (defBody s__law_value) (defScope s__law_value) .none kV24 dc24 pm24 an24 cd24 ct24), sl24⟩) (c24 : PySem.W.codeIn K cd24 "_law_value" = true) (k24 : PySem.W.keepIn K (.ref f24) = true)
    {f25 : Addr} {od25 an25 : Option Addr} {sl25 : Array (Option Value)} {oc25 kV25 dc25 pm25 cd25 ct25 : Value}
    (a25 : PySem.W.nsIn K mainGlobals "_law_asked" = some (some (.ref f25))) (l25 : K.lookup f25 = some ⟨oc25, od25, .func (PySem.W.fnOf "_law_asked" "_law_asked" (defArgs s__law_asked) (defBody s__law_asked) (defScope s__law_asked) .none kV25 dc25 pm25 an25 cd25 ct25), sl25⟩) (c25 : PySem.W.codeIn K cd25 "_law_asked" = true) (k25 : PySem.W.keepIn K (.ref f25) = true)
    {f26 : Addr} {od26 an26 : Option Addr} {sl26 : Array (Option Value)} {oc26 kV26 dc26 pm26 cd26 ct26 : Value}
    (a26 : PySem.W.nsIn K mainGlobals "law" = some (some (.ref f26))) (l26 : K.lookup f26 = some ⟨oc26, od26, .func (PySem.W.fnOf "law" "law" (defArgs s_law) (defBody s_law) (defScope s_law) .none kV26 dc26 pm26 an26 cd26 ct26), sl26⟩) (c26 : PySem.W.codeIn K cd26 "law" = true) (k26 : PySem.W.keepIn K (.ref f26) = true)
    (z0 : PySem.W.nsIn K mainGlobals "len" = some none)
    (z1 : PySem.W.nsIn K mainGlobals "list" = some none)
    (z2 : PySem.W.nsIn K mainGlobals "tuple" = some none)
    (z3 : PySem.W.nsIn K mainGlobals "min" = some none)
    (z4 : PySem.W.nsIn K mainGlobals "max" = some none)
    (z5 : PySem.W.nsIn K mainGlobals "abs" = some none)
    (z6 : PySem.W.nsIn K mainGlobals "int" = some none)
    (z7 : PySem.W.nsIn K mainGlobals "isinstance" = some none)
    (z8 : PySem.W.nsIn K mainGlobals "range" = some none)
    (z9 : PySem.W.nsIn K mainGlobals "enumerate" = some none)
    (z10 : PySem.W.nsIn K mainGlobals "reversed" = some none)
    {CSymError : Addr} (nSymError : PySem.W.nsIn K mainGlobals "SymError" = some (some (.ref CSymError)))
    {CWordError : Addr} (nWordError : PySem.W.nsIn K mainGlobals "WordError" = some (some (.ref CWordError)))
    (zsuper : PySem.W.nsIn K mainGlobals "super" = some none)
    {nmWordError qWordError : Str} {NWordError : Addr} {bsWordError bmWordError : List Value} {snWordError : List Str} {subWordError : List Value} {abWordError : Bool} {colWordError : Option Bool} {ddWordError : Option Addr} {x0WordError x1WordError x2WordError x3WordError x5WordError : Option Value} (lWordError : K.lookup CWordError = some (excClassObj nmWordError qWordError CWordError NWordError bsWordError bmWordError true snWordError subWordError abWordError colWordError ddWordError x0WordError x1WordError x2WordError x3WordError x5WordError "ValueError.__new__"))
    {fI : Addr} (iWordError : PySem.W.findIn K (.ref CWordError) "__init__" = some (some (.ref fI)))
    {oc : Value} {odI : Option Addr} {docI pmI ctI : Value} {oslI : Array (Option Value)} {cc ca : Addr} (lI : K.lookup fI = some ⟨oc, odI, .func (PySem.W.fnX "__init__" "SymError.__init__" (defArgs (clsDef (topS 1) 0)) (defBody (clsDef (topS 1) 0)) (defScope (clsDef (topS 1) 0)) [("__class__", cc)] .none .none docI pmI none (.ref ca) ctI), oslI⟩)
    {clc : Value} {cldc : Option Addr} {cslc : Array (Option Value)} {D : Addr} (lc : K.lookup cc = some ⟨clc, cldc, .cell (some (.ref D)), cslc⟩)
    {cla : Value} {clda : Option Addr} {csla : Array (Option Value)} {vsa : Array Value} (la : K.lookup ca = some ⟨cla, clda, .fields vsa, csla⟩)
    {file : Str} {tf : Tok} (hv : vsa[2]? = some (.str file tf))
    (hf : ((l.prog.main.file : Str) == file) = true)
    (ST : SymText l.prog (clsDef (topS 1) 0))
    (fb : fiB K fI ca D = true)
    (oWordError : oeB K CWordError bmWordError = true)
    (uWordError : unB K CWordError D = true)
    (knWordError : knB K CWordError = true)
    (pSymError_WordError : prB K CWordError CSymError true = true)
    (pWordError_WordError : prB K CWordError CWordError true = true)
    : ∃ fd : FuncData, (∀ (s : Shared) (v : Value), BindsTo s fd ⟨[v], []⟩ [("script", v)]) ∧ ∀ base : Heap, K.In base → base.Ns mainGlobals mg → FnOk l.prog w K mg base CX0 64 fa fd ["script"] (spL M 60 "law" K) := by
  have e := hfa.symm.trans (PySem.W.mg_of X G a26)
  cases e
  have O : MdOk M K w mg := ⟨List.forall_mem_cons.mpr ⟨PySem.W.mg_none_of X G z0, List.forall_mem_cons.mpr ⟨PySem.W.mg_none_of X G z1, List.forall_mem_cons.mpr ⟨PySem.W.mg_none_of X G z2, List.forall_mem_cons.mpr ⟨PySem.W.mg_none_of X G z3, List.forall_mem_cons.mpr ⟨PySem.W.mg_none_of X G z4, List.forall_mem_cons.mpr ⟨PySem.W.mg_none_of X G z5, List.forall_mem_cons.mpr ⟨PySem.W.mg_none_of X G z6, List.forall_mem_cons.mpr ⟨PySem.W.mg_none_of X G z7, List.forall_mem_cons.mpr ⟨PySem.W.mg_none_of X G z8, List.forall_mem_cons.mpr ⟨PySem.W.mg_none_of X G z9, List.forall_mem_cons.mpr ⟨PySem.W.mg_none_of X G z10, fun _ h => (by cases h)⟩⟩⟩⟩⟩⟩⟩⟩⟩⟩⟩, fun _ h => (by cases h), fun _ h => (by cases h), List.forall_mem_cons.mpr ⟨tab_of (PySem.W.mg_of X G nSymError) (.cons ⟨CWordError, known_of (PySem.W.mg_of X G nWordError) knWordError, pSymError_WordError⟩ .nil), List.forall_mem_cons.mpr ⟨tab_of (PySem.W.mg_of X G nWordError) (.cons ⟨CWordError, known_of (PySem.W.mg_of X G nWordError) knWordError, pWordError_WordError⟩ .nil), fun _ h => (by cases h)⟩⟩⟩
  have A : AllI M K mg := List.forall_mem_cons.mpr ⟨⟨_, _, _, i_identity X G a0 l0 c0 k0⟩, List.forall_mem_cons.mpr ⟨⟨_, _, _, i_times X G a1 l1 c1 k1⟩, List.forall_mem_cons.mpr ⟨⟨_, _, _, i_inverse X G a2 l2 c2 k2⟩, List.forall_mem_cons.mpr ⟨⟨_, _, _, i_letter_value X G a3 l3 c3 k3⟩, List.forall_mem_cons.mpr ⟨⟨_, _, _, i_value_of_word X G a4 l4 c4 k4⟩, List.forall_mem_cons.mpr ⟨⟨_, _, _, i_reduced X G a5 l5 c5 k5⟩, List.forall_mem_cons.mpr ⟨⟨_, _, _, i_inverse_word X G a6 l6 c6 k6⟩, List.forall_mem_cons.mpr ⟨⟨_, _, _, i__law_take X G a7 l7 c7 k7⟩, List.forall_mem_cons.mpr ⟨⟨_, _, _, i__law_pick X G a8 l8 c8 k8⟩, List.forall_mem_cons.mpr ⟨⟨_, _, _, i__law_begin X G a9 l9 c9 k9⟩, List.forall_mem_cons.mpr ⟨⟨_, _, _, i__law_shuffled X G a10 l10 c10 k10⟩, List.forall_mem_cons.mpr ⟨⟨_, _, _, i__law_cycle X G a11 l11 c11 k11⟩, List.forall_mem_cons.mpr ⟨⟨_, _, _, i__law_disjoint X G a12 l12 c12 k12⟩, List.forall_mem_cons.mpr ⟨⟨_, _, _, i__law_imprimitive X G a13 l13 c13 k13⟩, List.forall_mem_cons.mpr ⟨⟨_, _, _, i__law_affine X G a14 l14 c14 k14⟩, List.forall_mem_cons.mpr ⟨⟨_, _, _, i__law_projective X G a15 l15 c15 k15⟩, List.forall_mem_cons.mpr ⟨⟨_, _, _, i__law_times X G a16 l16 c16 k16⟩, List.forall_mem_cons.mpr ⟨⟨_, _, _, i__law_inverse X G a17 l17 c17 k17⟩, List.forall_mem_cons.mpr ⟨⟨_, _, _, i__law_comm X G a18 l18 c18 k18⟩, List.forall_mem_cons.mpr ⟨⟨_, _, _, i__law_gens_of X G a19 l19 c19 k19⟩, List.forall_mem_cons.mpr ⟨⟨_, _, _, i__law_conj X G a20 l20 c20 k20⟩, List.forall_mem_cons.mpr ⟨⟨_, _, _, i__law_group X G a21 l21 c21 k21⟩, List.forall_mem_cons.mpr ⟨⟨_, _, _, i__law_word X G a22 l22 c22 k22⟩, List.forall_mem_cons.mpr ⟨⟨_, _, _, i__law_reduced X G a23 l23 c23 k23⟩, List.forall_mem_cons.mpr ⟨⟨_, _, _, i__law_value X G a24 l24 c24 k24⟩, List.forall_mem_cons.mpr ⟨⟨_, _, _, i__law_asked X G a25 l25 c25 k25⟩, List.forall_mem_cons.mpr ⟨⟨_, _, _, i_law X G a26 l26 c26 k26⟩, fun _ h => (by cases h)⟩⟩⟩⟩⟩⟩⟩⟩⟩⟩⟩⟩⟩⟩⟩⟩⟩⟩⟩⟩⟩⟩⟩⟩⟩⟩⟩
  refine ⟨PySem.W.fnOf "law" "law" (defArgs s_law) (defBody s_law) (defScope s_law) .none kV26 dc26 pm26 an26 cd26 ct26, fun s v => .of_eq rfl, fun base _ _ => ?_⟩
  obtain ⟨fdI, Ff⟩ := sym_fn (P := l.prog) (w := w) (base := base) (mg := mg) ST lI lc la hv hf (PySem.W.mg_none_of X G zsuper) fb
  have J : ∀ p ∈ M.rs, InitOk l.prog w K mg base p.1 p.2 := List.forall_mem_cons.mpr ⟨init_sym (PySem.W.mg_of X G nWordError) Ff iWordError (oex_of lWordError oWordError) uWordError, fun _ h => (by cases h)⟩
  exact law_fn (def_ok O A J 60 "law" ⟨1, 10, c_law⟩ _ _ _ rfl (i_law X G a26 l26 c26 k26))
end Mi
theorem Mi.sym_text : Mi.SymText (PySem.Challenge.rw_symhouse_k05_words_and_their_values).prog (Mi.clsDef (Mi.topS 1) 0) where
  sc := by decide +kernel
  body := ⟨⟨rfl, fun _ => rfl, fun _ => rfl, fun _ => rfl⟩⟩
  par := ⟨_, rfl, rfl⟩
  ks := by decide +kernel
  kc := by decide +kernel
  ka := by decide +kernel
  top := by decide +kernel
  bind := fun _ _ _ _ _ us hl => (match us, hl with | [_, _], _ => rfl)
open PySem PySem.W PyProof.Rows
set_option maxHeartbeats 0 in
theorem PySem.Challenge.cw_symhouse_k05_words_and_their_values_holds : PySem.Challenge.rw_symhouse_k05_words_and_their_values.Holds := by
  w_on; o_law; k_head; (case hw => w_witness2)
  k_fill
  refine L2.walk_ofK (l := PySem.Challenge.rw_symhouse_k05_words_and_their_values) (n := 63) (k := 64) (x := "script") (CX := L2.CX0) (sp := Mi.spL Mi.M 60 "law") rfl (by decide) rfl ⟨rfl, by decide, by decide⟩ (fun w h Y => PySem.W.kIn_of Y) ?F (fun K H a ns hl O S => Mi.law_sp Mi.law_true hl O S) (fun _ _ _ _ h => h)
  case F =>
    intro w mg fa h KX G hmg
    refine' Mi.all_mk KX G hmg ?a0 ?l0 ?c0 ?k0 ?a1 ?l1 ?c1 ?k1 ?a2 ?l2 ?c2 ?k2 ?a3 ?l3 ?c3 ?k3 ?a4 ?l4 ?c4 ?k4 ?a5 ?l5 ?c5 ?k5 ?a6 ?l6 ?c6 ?k6 ?a7 ?l7 ?c7 ?k7 ?a8 ?l8 ?c8 ?k8 ?a9 ?l9 ?c9 ?k9 ?a10 ?l10 ?c10 ?k10 ?a11 ?l11 ?c11 ?k11 ?a12 ?l12 ?c12 ?k12 ?a13 ?l13 ?c13 ?k13 ?a14 ?l14 ?c14 ?k14 ?a15 ?l15 ?c15 ?k15 ?a16 ?l16 ?c16 ?k16 ?a17 ?l17 ?c17 ?k17 ?a18 ?l18 ?c18 ?k18 ?a19 ?l19 ?c19 ?k19 ?a20 ?l20 ?c20 ?k20 ?a21 ?l21 ?c21 ?k21 ?a22 ?l22 ?c22 ?k22 ?a23 ?l23 ?c23 ?k23 ?a24 ?l24 ?c24 ?k24 ?a25 ?l25 ?c25 ?k25 ?a26 ?l26 ?c26 ?k26 ?z0 ?z1 ?z2 ?z3 ?z4 ?z5 ?z6 ?z7 ?z8 ?z9 ?z10 ?nSymError ?nWordError ?zsuper ?lWordError ?iWordError ?lI ?lc ?la ?hv ?hf ?ST ?fb ?oWordError ?uWordError ?knWordError ?pSymError_WordError ?pWordError_WordError
    (case a0 => k_is); (case l0 => k_is); (case c0 => k_is); (case k0 => k_is); (case a1 => k_is); (case l1 => k_is); (case c1 => k_is); (case k1 => k_is); (case a2 => k_is); (case l2 => k_is); (case c2 => k_is); (case k2 => k_is); (case a3 => k_is); (case l3 => k_is); (case c3 => k_is); (case k3 => k_is); (case a4 => k_is); (case l4 => k_is); (case c4 => k_is); (case k4 => k_is); (case a5 => k_is); (case l5 => k_is); (case c5 => k_is); (case k5 => k_is); (case a6 => k_is); (case l6 => k_is); (case c6 => k_is); (case k6 => k_is); (case a7 => k_is); (case l7 => k_is); (case c7 => k_is); (case k7 => k_is); (case a8 => k_is); (case l8 => k_is); (case c8 => k_is); (case k8 => k_is); (case a9 => k_is); (case l9 => k_is); (case c9 => k_is); (case k9 => k_is); (case a10 => k_is); (case l10 => k_is); (case c10 => k_is); (case k10 => k_is); (case a11 => k_is); (case l11 => k_is); (case c11 => k_is); (case k11 => k_is); (case a12 => k_is); (case l12 => k_is); (case c12 => k_is); (case k12 => k_is); (case a13 => k_is); (case l13 => k_is); (case c13 => k_is); (case k13 => k_is); (case a14 => k_is); (case l14 => k_is); (case c14 => k_is); (case k14 => k_is); (case a15 => k_is); (case l15 => k_is); (case c15 => k_is); (case k15 => k_is); (case a16 => k_is); (case l16 => k_is); (case c16 => k_is); (case k16 => k_is); (case a17 => k_is); (case l17 => k_is); (case c17 => k_is); (case k17 => k_is); (case a18 => k_is); (case l18 => k_is); (case c18 => k_is); (case k18 => k_is); (case a19 => k_is); (case l19 => k_is); (case c19 => k_is); (case k19 => k_is); (case a20 => k_is); (case l20 => k_is); (case c20 => k_is); (case k20 => k_is); (case a21 => k_is); (case l21 => k_is); (case c21 => k_is); (case k21 => k_is); (case a22 => k_is); (case l22 => k_is); (case c22 => k_is); (case k22 => k_is); (case a23 => k_is); (case l23 => k_is); (case c23 => k_is); (case k23 => k_is); (case a24 => k_is); (case l24 => k_is); (case c24 => k_is); (case k24 => k_is); (case a25 => k_is); (case l25 => k_is); (case c25 => k_is); (case k25 => k_is); (case a26 => k_is); (case l26 => k_is); (case c26 => k_is); (case k26 => k_is); (case z0 => k_is); (case z1 => k_is); (case z2 => k_is); (case z3 => k_is); (case z4 => k_is); (case z5 => k_is); (case z6 => k_is); (case z7 => k_is); (case z8 => k_is); (case z9 => k_is); (case z10 => k_is); (case nSymError => k_is); (case nWordError => k_is); (case zsuper => k_is); (case lWordError => k_is); (case iWordError => k_is); (case lI => k_is); (case lc => k_is); (case la => k_is); (case hv => exact rfl); (case hf => decide +kernel); (case ST => exact Mi.sym_text); (case fb => kernel_rfl); (case oWordError => kernel_rfl); (case uWordError => kernel_rfl); (case knWordError => kernel_rfl); (case pSymError_WordError => kernel_rfl); (case pWordError_WordError => kernel_rfl)
