import PyProof.Rows.All
import HandS.ForMost
import HandS.Conv
import HandS.Rev
import HandS.Style
import HandS.TupAny
import HandS.IsInst
import HandS.Flow
import HandS.SortInts
import KE.GoesEnum
import KE.GoesMore
import HandS.Walk
import HandS.Ends
import HandS.Words
import Open.Row
import PySem.Challenge.RW_symhouse_k01_products_and_cycles
set_option Elab.async false
set_option linter.all false
set_option maxRecDepth 100000
set_option maxHeartbeats 4000000
namespace Mi
open PySem

/-! ## data and cells -/
/-- pure data: tuples are values; a ref names a cell of the small heap; fz: the script (a list that nobody writes); kt: a tuple of the module's top -/
inductive D where
  | non | bl (b : Bool) | int (i : Int) | str (x : Str) | tup (xs : List D) | ref (n : Nat) | fz (xs : List Int) | kt (xs : List D)
  deriving Inhabited
mutual
def D.beq : D → D → Bool
  | .non, .non => true
  | .bl a, .bl b => a == b
  | .int a, .int b => decide (a = b)
  | .str a, .str b => decide (a = b)
  | .tup a, .tup b => D.beqs a b
  | .ref a, .ref b => Nat.beq a b
  | .fz a, .fz b => decide (a = b)
  | .kt a, .kt b => D.beqs a b
  | _, _ => false
def D.beqs : List D → List D → Bool
  | [], [] => true
  | a :: r, b :: s => D.beq a b && D.beqs r s
  | _, _ => false
end
mutual
theorem D.beq_eq : ∀ a b : D, D.beq a b = true → a = b
  | .non, b, h => by cases b <;> first | rfl | simp [D.beq] at h
  | .bl a, b, h => by cases b <;> simp_all [D.beq]
  | .int a, b, h => by cases b <;> simp_all [D.beq]
  | .str a, b, h => by cases b <;> simp_all [D.beq]
  | .tup a, b, h => by
    cases b with
    | tup b =>
      have e := D.beqs_eq a b (by simpa [D.beq] using h)
      rw [e]
    | _ => simp [D.beq] at h
  | .ref a, b, h => by
    cases b with
    | ref b =>
      have e : a = b := Nat.eq_of_beq_eq_true (by simpa [D.beq] using h)
      rw [e]
    | _ => simp [D.beq] at h
  | .fz a, b, h => by cases b <;> simp_all [D.beq]
  | .kt a, b, h => by
    cases b with
    | kt b =>
      have e := D.beqs_eq a b (by simpa [D.beq] using h)
      rw [e]
    | _ => simp [D.beq] at h
theorem D.beqs_eq : ∀ a b : List D, D.beqs a b = true → a = b
  | [], b, h => by cases b <;> first | rfl | simp [D.beqs] at h
  | x :: r, b, h => by
    cases b with
    | nil => simp [D.beqs] at h
    | cons y s =>
      simp only [D.beqs, Bool.and_eq_true] at h
      rw [D.beq_eq x y h.1, D.beqs_eq r s h.2]
end
mutual
theorem D.beq_refl : ∀ a : D, D.beq a a = true
  | .non => rfl
  | .bl a => by simp [D.beq]
  | .int a => by simp [D.beq]
  | .str a => by simp [D.beq]
  | .tup a => by simpa [D.beq] using D.beqs_refl a
  | .ref a => by simp [D.beq]
  | .fz a => by simp [D.beq]
  | .kt a => by simpa [D.beq] using D.beqs_refl a
theorem D.beqs_refl : ∀ a : List D, D.beqs a a = true
  | [] => rfl
  | x :: r => by simp [D.beqs, D.beq_refl x, D.beqs_refl r]
end
instance : DecidableEq D := fun a b => if h : D.beq a b = true then isTrue (D.beq_eq a b h) else isFalse fun e => h (e ▸ D.beq_refl a)

inductive Cell where
  | lst (xs : List D)
  | dct (kvs : List (D × D))
  | ins (c : Str) (fs : List (Str × D))
  deriving DecidableEq, Inhabited
abbrev HS := List Cell
abbrev En := List (Option D)

mutual
def D.lo (n : Nat) : D → Bool
  | .ref m => decide (m < n)
  | .tup xs => D.los n xs
  | .kt xs => D.los n xs
  | _ => true
def D.los (n : Nat) : List D → Bool
  | [] => true
  | x :: r => D.lo n x && D.los n r
end
def Cell.lo (n : Nat) : Cell → Bool
  | .lst xs => D.los n xs
  | .dct kvs => kvs.all fun kv => kv.1.lo n && kv.2.lo n
  | .ins _ fs => fs.all fun f => f.2.lo n

/-! ## results -/
inductive R (α : Type) where
  | ok (a : α) (h : HS) | exc (c : Str) (fs : List (Str × D)) (h : HS) | bad
namespace R
def bind {α β : Type} : R α → (α → HS → R β) → R β
  | .ok a h, f => f a h
  | .exc c fs h, _ => .exc c fs h
  | .bad, _ => .bad
@[simp] theorem bind_ok {α β : Type} (a : α) (h : HS) (f : α → HS → R β) : (R.ok a h).bind f = f a h := rfl
@[simp] theorem bind_bad {α β : Type} (f : α → HS → R β) : (R.bad : R α).bind f = .bad := rfl
@[simp] theorem bind_exc {α β : Type} (c fs h) (f : α → HS → R β) : (R.exc c fs h : R α).bind f = .exc c fs h := rfl
end R
def LIM : Nat := 16777216

/-- cells that nobody needs are dropped, a new flat result takes the first new place -/
def trim (n : Nat) (d : D) (h : HS) : R D :=
  if h.length ≤ n then .ok d h
  else if (h.take n).all (Cell.lo n) then
    match d with
    | .ref m => if m < n then .ok d (h.take n) else match h[m]? with
      | some c => if c.lo n then .ok (.ref n) (h.take n ++ [c]) else .ok d h
      | none => .bad
    | d => if d.lo n then .ok d (h.take n) else .ok d h
  else .ok d h
def R.tr (n : Nat) : R D → R D
  | .ok d h => trim n d h
  | r => r

/-! ## syntax -/
inductive Bi where
  | len | any | all | sorted | list | tuple | sum | min | max | abs | int | str | set_
  deriving DecidableEq
inductive Me where
  | append | pop | extend | index | get | setdefault | values | count | remove
  deriving DecidableEq
inductive Ty where
  | int | bool | tuple | str | list
  deriving DecidableEq
/-- the targets of loops and comprehensions -/
inductive NT where
  | nm (i : Nat) | tp (is : List Nat)
mutual
inductive CE where
  | var (i : Nat)
  | lit (d : D)
  | bin (o : Operator) (a b : CE)
  | neg (a : CE)
  | cmp (o : CmpOp) (a b : CE)
  | chain (o o' : CmpOp) (a b c : CE)
  | andv (a b : CE) | orv (a b : CE) | notv (a : CE)
  | ife (c : CB) (a b : CE)
  | tup (es : CL) | lst (es : CL) | dct0
  | ix (a b : CE)
  | slice (a : CE) (lo hi : CO)
  | rev (a : CE)
  | call (f : Str) (es : CL)
  | bi (b : Bi) (es : CL)
  | meth (m : Me) (o : CE) (es : CL)
  | isi (t : Ty) (a : CE)
  | lrg (es : CL) | trg (es : CL)
  | lc (own : List Nat) (tg : NT) (it : CI) (t : CB) (e : CE)
  | lc2 (own own1 : List Nat) (tg : NT) (it : CI) (t : CB) (tg1 : NT) (it1 : CI) (t1 : CB) (e : CE)
inductive CB where
  | tru
  | val (e : CE)
  | cmp (o : CmpOp) (a b : CE)
  | chain (o o' : CmpOp) (a b c : CE)
  | and_ (a b : CB) | or_ (a b : CB) | not_ (a : CB)
inductive CL where
  | nil | cons (e : CE) (r : CL)
inductive CO where
  | no | so (e : CE)
inductive CI where
  | seq (e : CE) | rng (es : CL) | enum (e : CE) | zip (a b : CE) | rev (e : CE)
end
inductive AT where
  | nm (i : Nat) | sub (o i : CE) | fld (o : CE) (f : Str)
mutual
inductive CS where
  | asg (t : AT) (e : CE)
  | asgT (ts : List AT) (e : CE)
  | par (is : List Nat) (es : CL)
  | aug (i : Nat) (o : Operator) (e : CE)
  | augS (o i : CE) (op : Operator) (e : CE)
  | ex (e : CE)
  | ret (e : CE) | retn
  | ifs (c : CB) (a b : CSs)
  | for_ (t : NT) (it : CI) (b : CSs)
  | while_ (c : CB) (b : CSs)
  | brk | cont | pass
inductive CSs where
  | nil | cons (s : CS) (r : CSs)
end

/-! ## operations by values -/
def mkL (xs : List D) (h : HS) : R D := if xs.length ≤ LIM then .ok (.ref h.length) (h ++ [.lst xs]) else .bad
def mkT (xs : List D) (h : HS) : R D := if xs.length ≤ LIM then .ok (.tup xs) h else .bad
def ofO {α : Type} (o : Option α) (h : HS) : R α := match o with | some a => .ok a h | none => .bad

mutual
/-- data without cells, as the library's data -/
def D.py0 : D → Option PyData
  | .non => some .none
  | .bl b => some (.bool b)
  | .int i => some (.int i)
  | .str x => some (.str x)
  | .tup xs => (D.py0s xs).map .tuple
  | .fz ns => some (.list (ns.map .int))
  | .kt xs => (D.py0s xs).map .tuple
  | .ref _ => none
def D.py0s : List D → Option (List PyData)
  | [] => some []
  | x :: r => match D.py0 x, D.py0s r with
    | some y, some s => some (y :: s)
    | _, _ => none
end
def D.py (h : HS) : D → Option PyData
  | .ref n => match h[n]? with
    | some (.lst xs) => (D.py0s xs).map .list
    | _ => none
  | d => d.py0
def eqD (h : HS) (a b : D) : Option Bool := match a.py h, b.py h with
  | some x, some y => if SeqAt.shaped x && SeqAt.shaped y then some (PyData.eqv x y) else none
  | _, _ => none
/-- the items of a list, a tuple -/
def itemsD (h : HS) : D → Option (List D)
  | .tup xs => some xs
  | .kt xs => some xs
  | .fz ns => some (ns.map .int)
  | .ref n => match h[n]? with
    | some (.lst xs) => some xs
    | _ => none
  | _ => none
def flatD : D → Bool
  | .non | .bl _ | .int _ | .str _ => true
  | _ => false
def eqF : D → D → Bool
  | .non, .non => true
  | .bl a, .bl b => a == b
  | .bl a, .int b => (if a then 1 else 0) == b
  | .int a, .bl b => a == (if b then 1 else 0)
  | .int a, .int b => a == b
  | .str a, .str b => a == b
  | _, _ => false
def D.int? : D → Option Int
  | .int i => some i
  | _ => none
def D.bl? : D → Option Bool
  | .bl i => some i
  | _ => none
def intsD : List D → Option (List Int)
  | [] => some []
  | .int i :: r => (intsD r).map (i :: ·)
  | _ :: _ => none
def blsD : List D → Option (List Bool)
  | [] => some []
  | .bl i :: r => (blsD r).map (i :: ·)
  | _ :: _ => none
/-- may be a key of a dict of ints and texts -/
def keyD : D → Bool
  | .int _ | .str _ => true
  | _ => false
/-- .. of a dict of tuples -/
def tkeyD : D → Bool
  | .tup xs => xs.all keyD
  | _ => false
def keyOk (kvs : List (D × D)) (k : D) : Bool :=
  (keyD k && kvs.all (fun kv => keyD kv.1)) || (tkeyD k && kvs.all (fun kv => tkeyD kv.1))
def getK (kvs : List (D × D)) (k : D) : Option D := (kvs.find? fun kv => decide (kv.1 = k)).map (·.2)
def putK (kvs : List (D × D)) (k v : D) : List (D × D) :=
  if kvs.any (fun kv => decide (kv.1 = k)) then kvs.map fun kv => if kv.1 = k then (kv.1, v) else kv else kvs ++ [(k, v)]

def truD (h : HS) : D → Option Bool
  | .non => some false
  | .bl b => some b
  | .int i => some (i != 0)
  | .str x => if x.length ≤ LIM then some ((x.length : Int) != 0) else none
  | .tup xs => some (!xs.isEmpty)
  | .kt xs => some (!xs.isEmpty)
  | .fz xs => some (!xs.isEmpty)
  | .ref n => match h[n]? with
    | some (.lst xs) => some (!xs.isEmpty)
    | _ => none
def cmpF (o : CmpOp) (x y : D) (h : HS) : Option Bool := match o with
  | .Eq => eqD h x y
  | .NotEq => (eqD h x y).map (!·)
  | .Lt => match x, y with
    | .int i, .int j => some (decide (i < j))
    | .tup xs, .tup ys => match intsD xs, intsD ys with
      | some ns, some ms => some (HT.lexLt ns ms)
      | _, _ => none
    | _, _ => none
  | .LtE => match x, y with
    | .int i, .int j => some (decide (i ≤ j))
    | _, _ => none
  | .Gt => match x, y with
    | .int i, .int j => some (decide (j < i))
    | _, _ => none
  | .GtE => match x, y with
    | .int i, .int j => some (decide (j ≤ i))
    | _, _ => none
  | .Is => match x, y with
    | x, .non => some (decide (x = .non))
    | .bl a, .bl b => some (decide (a = b))
    | _, _ => none
  | .IsNot => match x, y with
    | x, .non => some (!decide (x = .non))
    | .bl a, .bl b => some (!decide (a = b))
    | _, _ => none
  | .In => inF x y h
  | .NotIn => (inF x y h).map (!·)
where
  inF (x y : D) (h : HS) : Option Bool := match y with
    | .str b => match x with
      | .str a => some (!(Builtin.Str.occurrences b a 0 b.length 1).isEmpty)
      | _ => none
    | .ref n => match h[n]? with
      | some (.lst xs) => if flatD x && xs.all flatD then some (xs.any fun z => eqF z x) else none
      | some (.dct kvs) => if keyOk kvs x then some (getK kvs x).isSome else none
      | _ => none
    | .tup xs => if flatD x && xs.all flatD then some (xs.any fun z => eqF z x) else none
    | .kt xs => if flatD x && xs.all flatD then some (xs.any fun z => eqF z x) else none
    | _ => none
def mulOk (i j : Int) : Bool := (decide (-(2 ^ 64) < i) && decide (i < 2 ^ 64)) || (decide (-(2 ^ 64) < j) && decide (j < 2 ^ 64))
def binF (o : Operator) (x y : D) (h : HS) : R D := match o, x, y with
  | .Add, .int i, .int j => .ok (.int (i + j)) h
  | .Add, .str i, .str j => if i.length + j.length ≤ LIM then .ok (.str (i ++ j)) h else .bad
  | .Add, .tup xs, .tup ys => mkT (xs ++ ys) h
  | .Add, .ref a, .ref b => match h[a]?, h[b]? with
    | some (.lst xs), some (.lst ys) => mkL (xs ++ ys) h
    | _, _ => .bad
  | .Sub, .int i, .int j => .ok (.int (i - j)) h
  | .Mult, .int i, .int j => if mulOk i j then .ok (.int (i * j)) h else .bad
  | .Mult, .ref a, .int k => match h[a]? with
    | some (.lst xs) => if decide (-(2 ^ 63) ≤ k) && decide (k < 2 ^ 63) && decide (xs.length * k.toNat ≤ LIM) then .ok (.ref h.length) (h ++ [.lst (List.replicate k.toNat xs).flatten]) else .bad
    | _ => .bad
  | .FloorDiv, .int i, .int j => if decide (0 < j) && decide (j < 1073741824) then .ok (.int (i / j)) h else .bad
  | .Mod, .int i, .int j => if decide (0 < j) then .ok (.int (i % j)) h else .bad
  | .Pow, .int i, .int j => if decide (0 ≤ j) && decide (j ≤ 1000000) && decide (i.natAbs < 2 ^ 64) then .ok (.int (i ^ j.toNat)) h else .bad
  | .BitXor, .int i, .int j => .ok (.int (Builtin.bitXor i j)) h
  | _, _, _ => .bad
/-- x op= y -/
def augF (o : Operator) (x y : D) (h : HS) : R D := match o, x, y with
  | .Add, .int i, .int j => .ok (.int (i + j)) h
  | .Add, .str i, .str j => if i.length + j.length ≤ LIM then .ok (.str (i ++ j)) h else .bad
  | .Add, .ref a, .ref b => match h[a]?, h[b]? with
    | some (.lst xs), some (.lst ys) => if xs.length + ys.length ≤ LIM then .ok (.ref a) (h.set a (.lst (xs ++ ys))) else .bad
    | _, _ => .bad
  | .Sub, .int i, .int j => .ok (.int (i - j)) h
  | .Mult, .int i, .int j => if mulOk i j then .ok (.int (i * j)) h else .bad
  | .FloorDiv, .int i, .int j => if decide (0 < j) && decide (j < 1073741824) then .ok (.int (i / j)) h else .bad
  | .Mod, .int i, .int j => if decide (0 < j) then .ok (.int (i % j)) h else .bad
  | .BitXor, .int i, .int j => .ok (.int (Builtin.bitXor i j)) h
  | _, _, _ => .bad
def ixF (x y : D) (h : HS) : R D := match x with
  | .ref n => match h[n]? with
    | some (.lst xs) => match y with
      | .int i => ofO (L2.atI xs i) h
      | _ => .bad
    | some (.dct kvs) => if keyOk kvs y then ofO (getK kvs y) h else .bad
    | _ => .bad
  | .tup xs => match y with
    | .int i => ofO (L2.atI xs i) h
    | _ => .bad
  | .fz xs => match y with
    | .int i => ofO ((L2.atI xs i).map .int) h
    | _ => .bad
  | .kt xs => match y with
    | .int i => ofO (L2.atI xs i) h
    | _ => .bad
  | .str z => match y with
    | .int i => if z.length ≤ LIM then ofO ((L2.atI z.cps.toList i).map fun c => .str ⟨#[c]⟩) h else .bad
    | _ => .bad
  | _ => .bad
def cutD (xs : List D) (lo hi : Option Int) : List D := (xs.drop (HT.sIx xs.length 0 lo)).take (HT.sIx xs.length xs.length hi - HT.sIx xs.length 0 lo)
def slF (x : D) (lo hi : Option Int) (h : HS) : R D := match x with
  | .tup xs => .ok (.tup (cutD xs lo hi)) h
  | .ref n => match h[n]? with
    | some (.lst xs) => .ok (.ref h.length) (h ++ [.lst (cutD xs lo hi)])
    | _ => .bad
  | _ => .bad
/-- o[i] = v -/
def setF (x i v : D) (h : HS) : R Unit := match x with
  | .ref n => match h[n]? with
    | some (.lst xs) => match i with
      | .int k => match L2.ixN xs.length k with
        | some j => .ok () (h.set n (.lst (xs.set j v)))
        | none => .bad
      | _ => .bad
    | some (.dct kvs) => if keyOk kvs i && decide (kvs.length < LIM) then .ok () (h.set n (.dct (putK kvs i v))) else .bad
    | _ => .bad
  | _ => .bad
def leastI : List Int → Int
  | [] => 0
  | [i] => i
  | i :: r => let m := leastI r; if m < i then m else i
def greatI : List Int → Int
  | [] => 0
  | [i] => i
  | i :: r => let m := greatI r; if i < m then m else i
def biF (b : Bi) (xs : List D) (h : HS) : R D := match b, xs with
  | .len, [.str x] => if x.length ≤ LIM then .ok (.int x.length) h else .bad
  | .len, [.ref n] => match h[n]? with
    | some (.lst xs) => .ok (.int xs.length) h
    | some (.dct kvs) => if kvs.all (fun kv => keyD kv.1) then .ok (.int kvs.length) h else .bad
    | _ => .bad
  | .len, [x] => match itemsD h x with
    | some ys => .ok (.int ys.length) h
    | none => .bad
  | .any, [.ref n] => match h[n]? with
    | some (.lst xs) => match blsD xs with
      | some bs => .ok (.bl (bs.any id)) h
      | none => .bad
    | _ => .bad
  | .all, [.ref n] => match h[n]? with
    | some (.lst xs) => match blsD xs with
      | some bs => .ok (.bl (bs.all id)) h
      | none => .bad
    | _ => .bad
  | .sorted, [x] => match itemsD h x with
    | some ys => match intsD ys with
      | some ns => mkL ((ns.mergeSort (fun a b => decide (a ≤ b))).map .int) h
      | none => .bad
    | none => .bad
  | .list, [x] => match itemsD h x with
    | some ys => mkL ys h
    | none => .bad
  | .tuple, [.kt _] => .bad
  | .tuple, [x] => match itemsD h x with
    | some ys => mkT ys h
    | none => .bad
  | .sum, [.ref n] => match h[n]? with
    | some (.lst ys) => match intsD ys with
      | some ns => .ok (.int ns.sum) h
      | none => .bad
    | _ => .bad
  | .min, [.int i, .int j] => .ok (.int (if j < i then j else i)) h
  | .max, [.int i, .int j] => .ok (.int (if j > i then j else i)) h
  | .min, [.ref n] => match h[n]? with
    | some (.lst ys) => match intsD ys with
      | some ns => if ns.isEmpty then .bad else .ok (.int (leastI ns)) h
      | none => .bad
    | _ => .bad
  | .max, [.ref n] => match h[n]? with
    | some (.lst ys) => match intsD ys with
      | some ns => if ns.isEmpty then .bad else .ok (.int (greatI ns)) h
      | none => .bad
    | _ => .bad
  | .abs, [.int i] => .ok (.int (if i < 0 then -i else i)) h
  | .int, [.int i] => .ok (.int i) h
  | .int, [.bl k] => .ok (.int (if k then 1 else 0)) h
  | _, _ => .bad
def lstMe (m : Me) (n : Nat) (ys xs : List D) (h : HS) : R D := match m, xs with
  | .append, [y] => if ys.length < LIM then .ok .non (h.set n (.lst (ys ++ [y]))) else .bad
  | .pop, [] => match ys[ys.length - 1]? with
    | some y => .ok y (h.set n (.lst ys.dropLast))
    | none => .bad
  | .pop, [.int i] => if decide (-(2 ^ 63) ≤ i) && decide (i < 2 ^ 63) then match L2.ixN ys.length i with
      | some k => match ys[k]? with
        | some y => .ok y (h.set n (.lst (ys.eraseIdx k)))
        | none => .bad
      | none => .bad
    else .bad
  | .extend, [.ref b] => match h[b]? with
    | some (.lst zs) => if ys.length + zs.length ≤ LIM then .ok .non (h.set n (.lst (ys ++ zs))) else .bad
    | _ => .bad
  | _, _ => .bad
def meF (m : Me) (x : D) (xs : List D) (h : HS) : R D := match x with
  | .ref n => match h[n]? with
    | some (.lst ys) => lstMe m n ys xs h
    | _ => .bad
  | _ => .bad
/-- the receiver is of the method's type -/
def rcvOk (m : Me) (x : D) (h : HS) : Bool := match x with
  | .ref n => match h[n]? with
    | some (.lst _) => match m with
      | .append | .pop | .extend => true
      | _ => false
    | _ => false
  | _ => false
def isiF (t : Ty) (x : D) (h : HS) : Option Bool := match t, x with
  | _, .fz _ => none
  | _, .kt _ => none
  | .int, .int _ | .int, .bl _ | .bool, .bl _ | .tuple, .tup _ | .str, .str _ => some true
  | .list, .ref n => match h[n]? with
    | some (.lst _) => some true
    | some (.dct _) => some false
    | _ => none
  | _, .ref n => match h[n]? with
    | some (.lst _) => some false
    | some (.dct _) => some false
    | _ => none
  | _, _ => some false
/-- lo, hi of a range's arguments -/
def rngF : List D → Option (Int × Int)
  | [.int b] => if b.natAbs ≤ LIM then some (0, b) else none
  | [.int a, .int b] => if a.natAbs ≤ LIM ∧ b.natAbs ≤ LIM ∧ (b - a).toNat ≤ LIM then some (a, b) else none
  | _ => none
def rngL (p : Int × Int) : List D := (List.range (p.2 - p.1).toNat).map fun i => .int (p.1 + (i : Nat))
/-- what a loop walks: its items; the cell that must stay as it is -/
structure Its where
  items : List D
  live : Option (Nat × List D)
def liveOk (l : Option (Nat × List D)) (h : HS) : Bool := match l with
  | none => true
  | some (c, xs) => decide (h[c]? = some (.lst xs))
/-- a list is walked: a new one is nobody else's -/
def walkD (n : Nat) (d : D) (h : HS) : R Its := match d with
  | .tup xs => .ok ⟨xs, none⟩ h
  | .kt xs => .ok ⟨xs, none⟩ h
  | .fz ns => .ok ⟨ns.map .int, none⟩ h
  | .ref c => match h[c]? with
    | some (.lst xs) => if decide (n ≤ c) && (h.take n).all (Cell.lo n) && D.los n xs then .ok ⟨xs, none⟩ (h.take n) else .ok ⟨xs, some (c, xs)⟩ h
    | _ => .bad
  | _ => .bad
def enumL (i : Nat) : List D → List D
  | [] => []
  | x :: r => .tup [.int i, x] :: enumL (i + 1) r
def zipL : List D → List D → List D
  | x :: r, y :: s => .tup [x, y] :: zipL r s
  | _, _ => []
def setAll (δ : En) : List Nat → List D → En
  | i :: is, x :: xs => setAll (δ.set i (some x)) is xs
  | _, _ => δ
def bindN (t : NT) (v : D) (δ : En) : Option En := match t with
  | .nm i => if i < δ.length then some (δ.set i (some v)) else none
  | .tp is => match v with
    | .tup xs => if is.length = xs.length ∧ is.all (· < δ.length) then some (setAll δ is xs) else none
    | .kt xs => if is.length = xs.length ∧ is.all (· < δ.length) then some (setAll δ is xs) else none
    | _ => none
def wipeE (δ : En) : List Nat → En
  | [] => δ
  | v :: vs => (wipeE δ vs).set v none
def compD (live : HS → Bool) (f : D → HS → R (List D)) : List D → HS → R (List D)
  | [], h => if live h then .ok [] h else .bad
  | x :: r, h => if live h then (f x h).bind fun y h1 => (compD live f r h1).bind fun ys h2 => .ok (y ++ ys) h2 else .bad

/-! ## evaluation -/
abbrev Cl := Str → List D → HS → R D
mutual
def evalE (cl : Cl) : CE → En → HS → R D
  | .var i, δ, h => match δ[i]? with
    | some (some d) => .ok d h
    | _ => .bad
  | .lit d, _, h => .ok d h
  | .bin o a b, δ, h => ((evalE cl a δ h).bind fun x h1 => (evalE cl b δ h1).bind fun y h2 => binF o x y h2).tr h.length
  | .neg a, δ, h => (evalE cl a δ h).bind fun x h1 => match x with
    | .int i => .ok (.int (-i)) h1
    | _ => .bad
  | .cmp o a b, δ, h => ((evalE cl a δ h).bind fun x h1 => (evalE cl b δ h1).bind fun y h2 => ofO ((cmpF o x y h2).map .bl) h2).tr h.length
  | .chain o o' a b c, δ, h => ((evalE cl a δ h).bind fun x h1 => (evalE cl b δ h1).bind fun y h2 => match cmpF o x y h2 with
    | some true => (evalE cl c δ h2).bind fun z h3 => ofO ((cmpF o' y z h3).map .bl) h3
    | some false => .ok (.bl false) h2
    | none => .bad).tr h.length
  | .andv a b, δ, h => (evalE cl a δ h).bind fun x h1 => match x with
    | .bl true => evalE cl b δ h1
    | .bl false => .ok (.bl false) h1
    | _ => .bad
  | .orv a b, δ, h => (evalE cl a δ h).bind fun x h1 => match x with
    | .bl false => evalE cl b δ h1
    | .bl true => .ok (.bl true) h1
    | _ => .bad
  | .notv a, δ, h => (evalE cl a δ h).bind fun x h1 => match x with
    | .bl b => .ok (.bl !b) h1
    | _ => .bad
  | .ife c a b, δ, h => (evalB cl c δ h).bind fun t h1 => if t then evalE cl a δ h1 else evalE cl b δ h1
  | .tup es, δ, h => (evalL cl es δ h).bind mkT
  | .lst es, δ, h => (evalL cl es δ h).bind mkL
  | .dct0, δ, h => .ok (.ref h.length) (h ++ [.dct []])
  | .ix a b, δ, h => ((evalE cl a δ h).bind fun x h1 => (evalE cl b δ h1).bind fun y h2 => ixF x y h2).tr h.length
  | .slice a lo hi, δ, h => ((evalE cl a δ h).bind fun x h1 => (evalO cl lo δ h1).bind fun l h2 => (evalO cl hi δ h2).bind fun u h3 => slF x l u h3).tr h.length
  | .rev a, δ, h => ((evalE cl a δ h).bind fun x h1 => match x with
    | .ref n => match h1[n]? with
      | some (.lst xs) => .ok (.ref h1.length) (h1 ++ [.lst xs.reverse])
      | _ => .bad
    | _ => .bad).tr h.length
  | .call f es, δ, h => ((evalL cl es δ h).bind fun xs h1 => cl f xs h1).tr h.length
  | .bi b es, δ, h => ((evalL cl es δ h).bind fun xs h1 => biF b xs h1).tr h.length
  | .meth m o es, δ, h => ((evalE cl o δ h).bind fun x h1 => if rcvOk m x h1 then (evalL cl es δ h1).bind fun xs h2 => meF m x xs h2 else .bad).tr h.length
  | .isi t a, δ, h => ((evalE cl a δ h).bind fun x h1 => ofO ((isiF t x h1).map .bl) h1).tr h.length
  | .lrg es, δ, h => ((evalL cl es δ h).bind fun xs h1 => match rngF xs with
    | some p => mkL (rngL p) h1
    | none => .bad).tr h.length
  | .trg es, δ, h => ((evalL cl es δ h).bind fun xs h1 => match rngF xs with
    | some p => mkT (rngL p) h1
    | none => .bad).tr h.length
  | .lc own tg it t e, δ, h => ((evalI cl it δ h).bind fun w h1 => (compD (liveOk w.live) (fun x h2 => match bindN tg x (wipeE δ own) with
      | some δ1 => (evalB cl t δ1 h2).bind fun b h3 => if b then (evalE cl e δ1 h3).bind fun y h4 => .ok [y] h4 else .ok [] h3
      | none => .bad) w.items h1).bind mkL).tr h.length
  | .lc2 own own1 tg it t tg1 it1 t1 e, δ, h => ((evalI cl it δ h).bind fun w h1 => (compD (liveOk w.live) (fun x h2 => match bindN tg x (wipeE δ own) with
      | some δ1 => (evalB cl t δ1 h2).bind fun b h3 => if b then (evalI cl it1 δ1 h3).bind fun w1 h4 => compD (liveOk w1.live) (fun x1 h5 => match bindN tg1 x1 (wipeE δ1 own1) with
          | some δ2 => (evalB cl t1 δ2 h5).bind fun b1 h6 => if b1 then (evalE cl e δ2 h6).bind fun y h7 => .ok [y] h7 else .ok [] h6
          | none => .bad) w1.items h4 else .ok [] h3
      | none => .bad) w.items h1).bind mkL).tr h.length
def evalB (cl : Cl) : CB → En → HS → R Bool
  | .tru, _, h => .ok true h
  | .val e, δ, h => (evalE cl e δ h).bind fun x h1 => ofO (truD h1 x) h1
  | .cmp o a b, δ, h => (evalE cl a δ h).bind fun x h1 => (evalE cl b δ h1).bind fun y h2 => match cmpF o x y h2 with
    | some k => match trim h.length (.bl k) h2 with
      | .ok _ h3 => .ok k h3
      | _ => .bad
    | none => .bad
  | .chain o o' a b c, δ, h => (evalE cl a δ h).bind fun x h1 => (evalE cl b δ h1).bind fun y h2 => match cmpF o x y h2 with
    | some true => (evalE cl c δ h2).bind fun z h3 => match cmpF o' y z h3 with
      | some k => match trim h.length (.bl k) h3 with
        | .ok _ h4 => .ok k h4
        | _ => .bad
      | none => .bad
    | some false => .ok false h2
    | none => .bad
  | .and_ a b, δ, h => (evalB cl a δ h).bind fun x h1 => if x then evalB cl b δ h1 else .ok false h1
  | .or_ a b, δ, h => (evalB cl a δ h).bind fun x h1 => if x then .ok true h1 else evalB cl b δ h1
  | .not_ a, δ, h => (evalB cl a δ h).bind fun x h1 => .ok (!x) h1
def evalL (cl : Cl) : CL → En → HS → R (List D)
  | .nil, _, h => .ok [] h
  | .cons e r, δ, h => (evalE cl e δ h).bind fun x h1 => (evalL cl r δ h1).bind fun xs h2 => .ok (x :: xs) h2
def evalO (cl : Cl) : CO → En → HS → R (Option Int)
  | .no, _, h => .ok none h
  | .so e, δ, h => (evalE cl e δ h).bind fun x h1 => match x with
    | .int i => .ok (some i) h1
    | _ => .bad
def evalI (cl : Cl) : CI → En → HS → R Its
  | .seq e, δ, h => (evalE cl e δ h).bind fun x h1 => walkD h.length x h1
  | .rng es, δ, h => (evalL cl es δ h).bind fun xs h1 => match rngF xs with
    | some p => .ok ⟨rngL p, none⟩ h1
    | none => .bad
  | .enum e, δ, h => (evalE cl e δ h).bind fun x h1 => (walkD h.length x h1).bind fun w h2 => .ok ⟨enumL 0 w.items, w.live⟩ h2
  | .zip a b, δ, h => .bad
  | .rev e, δ, h => (evalE cl e δ h).bind fun x h1 => (walkD h.length x h1).bind fun w h2 => .ok ⟨w.items.reverse, w.live⟩ h2
end

/-! ## statements -/
inductive Fl where
  | next (δ : En) (h : HS) | ret (d : D) (h : HS) | brk (δ : En) (h : HS) | cont (δ : En) (h : HS)
  | exc (c : Str) (fs : List (Str × D)) (h : HS) | bad
def R.fl {α : Type} : R α → (α → HS → Fl) → Fl
  | .ok a h, f => f a h
  | .exc c fs h, _ => .exc c fs h
  | .bad, _ => .bad
def Fl.then_ : Fl → (En → HS → Fl) → Fl
  | .next δ h, f => f δ h
  | r, _ => r
@[simp] theorem R.fl_ok {α : Type} (a : α) (h : HS) (f : α → HS → Fl) : (R.ok a h).fl f = f a h := rfl
@[simp] theorem Fl.then_next (δ h f) : (Fl.next δ h).then_ f = f δ h := rfl
@[simp] theorem Fl.then_ret (δ h f) : (Fl.ret δ h).then_ f = .ret δ h := rfl
def asgA (cl : Cl) (t : AT) (v : D) (δ : En) (h : HS) : R En := match t with
  | .nm i => if i < δ.length then .ok (δ.set i (some v)) h else .bad
  | .sub o i => (evalE cl o δ h).bind fun x h1 => (evalE cl i δ h1).bind fun y h2 => (setF x y v h2).bind fun _ h3 => .ok δ h3
  | .fld o f => .bad
def asgAs (cl : Cl) : List AT → List D → En → HS → R En
  | [], [], δ, h => .ok δ h
  | t :: ts, v :: vs, δ, h => (asgA cl t v δ h).bind fun δ1 h1 => asgAs cl ts vs δ1 h1
  | _, _, _, _ => .bad
def forD (live : HS → Bool) (f : D → En → HS → Fl) : List D → En → HS → Fl
  | [], δ, h => if live h then .next δ h else .bad
  | x :: r, δ, h => if live h then match f x δ h with
    | .next δ1 h1 => forD live f r δ1 h1
    | .cont δ1 h1 => forD live f r δ1 h1
    | .brk δ1 h1 => .next δ1 h1
    | o => o
    else .bad
def whileD (c : En → HS → R Bool) (f : En → HS → Fl) : Nat → En → HS → Fl
  | 0, _, _ => .bad
  | n + 1, δ, h => (c δ h).fl fun t h1 => if t then match f δ h1 with
    | .next δ1 h2 => whileD c f n δ1 h2
    | .cont δ1 h2 => whileD c f n δ1 h2
    | .brk δ1 h2 => .next δ1 h2
    | o => o
    else .next δ h1
/-- how many turns a while may take -/
def FUEL : Nat := 2 ^ 64
mutual
def execS (cl : Cl) : CS → En → HS → Fl
  | .asg t e, δ, h => (evalE cl e δ h).fl fun v h1 => (asgA cl t v δ h1).fl fun δ1 h2 => .next δ1 h2
  | .asgT ts e, δ, h => (evalE cl e δ h).fl fun v h1 => match v with
    | .tup xs => if xs.length = ts.length then (asgAs cl ts xs δ h1).fl fun δ1 h2 => .next δ1 h2 else .bad
    | .kt xs => if xs.length = ts.length then (asgAs cl ts xs δ h1).fl fun δ1 h2 => .next δ1 h2 else .bad
    | _ => .bad
  | .par is es, δ, h => (evalL cl es δ h).fl fun xs h1 => match bindN (.tp is) (.tup xs) δ with
    | some δ1 => .next δ1 h1
    | none => .bad
  | .aug i o e, δ, h => match δ[i]? with
    | some (some x) => (((evalE cl e δ h).bind fun y h1 => augF o x y h1).tr h.length).fl fun z h2 => .next (δ.set i (some z)) h2
    | _ => .bad
  | .augS o i op e, δ, h => .bad
  | .ex e, δ, h => (evalE cl e δ h).fl fun _ h1 => .next δ h1
  | .ret e, δ, h => (evalE cl e δ h).fl fun v h1 => .ret v h1
  | .retn, _, h => .ret .non h
  | .ifs c a b, δ, h => (evalB cl c δ h).fl fun t h1 => if t then execB cl a δ h1 else execB cl b δ h1
  | .for_ t it b, δ, h => (evalI cl it δ h).fl fun w h1 => forD (liveOk w.live) (fun x δ1 h2 => match bindN t x δ1 with
    | some δ2 => execB cl b δ2 h2
    | none => .bad) w.items δ h1
  | .while_ c b, δ, h => whileD (evalB cl c) (execB cl b) FUEL δ h
  | .brk, δ, h => .brk δ h
  | .cont, δ, h => .cont δ h
  | .pass, δ, h => .next δ h
def execB (cl : Cl) : CSs → En → HS → Fl
  | .nil, δ, h => .next δ h
  | .cons s r, δ, h => (execS cl s δ h).then_ fun δ1 h1 => execB cl r δ1 h1
end

/-! ## calls -/
structure Df where
  np : Nat
  n : Nat
  body : CSs
abbrev Tb := Str → Option Df
def startE (n : Nat) (args : List D) : En := args.map some ++ List.replicate (n - args.length) none
def callD (T : Tb) : Nat → Cl
  | 0, _, _, _ => .bad
  | k + 1, f, args, h => match T f with
    | none => .bad
    | some d => if args.length = d.np then match execB (callD T k) d.body (startE d.n args) h with
        | .ret v h1 => trim h.length v h1
        | .next _ h1 => trim h.length .non h1
        | .exc c fs h1 => .exc c fs h1
        | _ => .bad
      else .bad
end Mi

namespace Mi
open PySem L2

/-! ## the relation of the small heap to the abstract heap -/
def FzL (K : PySem.W.Frag) (H : Hp) (a : Addr) (xs : List V) : Prop :=
  (∃ o, H a = some (.frz o (.lst xs))) ∨
    ∃ (o : Obj) (its : Array Value) (n : Nat), K.lookup a = some o ∧ o.cls = .type "list" ∧ o.dict = none ∧ o.data = .seq its n ∧ its.size ≤ sizeLine ∧ Vals xs its.toList
theorem FzL.sq {K : PySem.W.Frag} {H : Hp} {a : Addr} {xs : List V} (h : FzL K H a xs) : SqL K H a xs := by
  rcases h with ⟨o, h⟩ | h
  · exact .inl (.inr ⟨o, h⟩)
  · exact .inr h
def KtT (K : PySem.W.Frag) (a : Addr) (xs : List V) : Prop := ∃ (o : Obj) (its : Array Value) (n : Nat), K.lookup a = some o ∧ o.cls = .type "tuple" ∧ o.data = .seq its n ∧ its.size ≤ sizeLine ∧ Vals xs its.toList
theorem KtT.sq {K : PySem.W.Frag} {H : Hp} {a : Addr} {xs : List V} (h : KtT K a xs) : SqT K H a xs := .inr h
mutual
inductive Rp (K : PySem.W.Frag) (ι : List Addr) (H : Hp) : D → V → Prop
  | non : Rp K ι H .non .non
  | bl (b : Bool) : Rp K ι H (.bl b) (.bl b)
  | int (i : Int) : Rp K ι H (.int i) (.int i)
  | str (x : Str) : Rp K ι H (.str x) (.str x)
  | tup {xs : List D} {a : Addr} {vs : List V} : H a = some (.tup vs) → RpL K ι H xs vs → Rp K ι H (.tup xs) (.ref a)
  | kt {xs : List D} {a : Addr} {vs : List V} : KtT K a vs → RpL K ι H xs vs → Rp K ι H (.kt xs) (.ref a)
  | ref {n : Nat} {a : Addr} : ι[n]? = some a → Rp K ι H (.ref n) (.ref a)
  | fz {ns : List Int} {a : Addr} : FzL K H a (ns.map V.int) → Rp K ι H (.fz ns) (.ref a)
inductive RpL (K : PySem.W.Frag) (ι : List Addr) (H : Hp) : List D → List V → Prop
  | nil : RpL K ι H [] []
  | cons {x : D} {v : V} {xs : List D} {vs : List V} : Rp K ι H x v → RpL K ι H xs vs → RpL K ι H (x :: xs) (v :: vs)
end
def keyOf : D → Option Key
  | .int i => some (.inl i)
  | .str x => some (.inr x)
  | _ => none
def keysOf : List D → Option (List Key)
  | [] => some []
  | x :: r => match keyOf x, keysOf r with
    | some y, some s => some (y :: s)
    | _, _ => none
def tkeyOf : D → Option (List Key)
  | .tup xs => keysOf xs
  | _ => none
def DctR (K : PySem.W.Frag) (ι : List Addr) (H : Hp) (kvs : List (D × D)) (a : Addr) : Prop :=
  (∃ ks : List (Key × V), H a = some (.dK ks) ∧ Paired (fun p q => keyOf p.1 = some q.1 ∧ Rp K ι H p.2 q.2) kvs ks) ∨
  (∃ ks : List (List Key × V), H a = some (.dT ks) ∧ Paired (fun p q => tkeyOf p.1 = some q.1 ∧ Rp K ι H p.2 q.2) kvs ks)
def CellRel (K : PySem.W.Frag) (ι : List Addr) (H : Hp) : Cell → Addr → Prop
  | .lst xs, a => ∃ vs, H a = some (.lst vs) ∧ RpL K ι H xs vs
  | .dct kvs, a => DctR K ι H kvs a
  | .ins _ _, _ => False
def isM : HO → Bool
  | .lst _ | .dK _ | .dT _ | .ins _ _ _ => true
  | _ => false
structure RelH (K : PySem.W.Frag) (ι : List Addr) (h : HS) (H : Hp) : Prop where
  len : ι.length = h.length
  nd : ι.Nodup
  cell : ∀ (n : Nat) (c : Cell) (a : Addr), h[n]? = some c → ι[n]? = some a → CellRel K ι H c a
/-- every cell's address is of a thing that may be written -/
def MutI (ι : List Addr) (H : Hp) : Prop := ∀ a ∈ ι, ∃ o, H a = some o ∧ isM o = true
structure Ext (ι : List Addr) (H : Hp) (ι1 : List Addr) (H1 : Hp) : Prop where
  pre : ∃ ex, ι1 = ι ++ ex ∧ ∀ a ∈ ex, H a = none
  fr : ∀ a o, H a = some o → a ∉ ι → H1 a = some o
section
variable {K : PySem.W.Frag} {ι ι1 ι2 : List Addr} {H H1 H2 : Hp} {h h1 : HS} {d : D} {v : V} {xs : List D} {vs : List V} {a p : Addr}
theorem CellRel.mut {c : Cell} (r : CellRel K ι H c a) : ∃ o, H a = some o ∧ isM o = true := by
  cases c with
  | lst xs => obtain ⟨vs, e, _⟩ := r; exact ⟨_, e, rfl⟩
  | dct kvs =>
    rcases r with ⟨ks, e, _⟩ | ⟨ks, e, _⟩
    · exact ⟨_, e, rfl⟩
    · exact ⟨_, e, rfl⟩
  | ins c fs => exact r.elim
theorem RelH.mut (r : RelH K ι h H) : MutI ι H := fun a ha => by
  obtain ⟨n, hn, e⟩ := List.mem_iff_getElem.mp ha
  have hn' : n < h.length := by rw [← r.len]; exact hn
  exact (r.cell n h[n] a (List.getElem?_eq_getElem hn') (by rw [List.getElem?_eq_getElem hn, e])).mut
theorem RelH.at {n : Nat} {c : Cell} (r : RelH K ι h H) (e : h[n]? = some c) : ∃ a, ι[n]? = some a ∧ CellRel K ι H c a := by
  obtain ⟨hn, _⟩ := List.getElem?_eq_some_iff.mp e
  have hn' : n < ι.length := by rw [r.len]; exact hn
  exact ⟨ι[n], List.getElem?_eq_getElem hn', r.cell n c _ e (List.getElem?_eq_getElem hn')⟩
theorem Ext.refl : Ext ι H ι H := ⟨⟨[], by simp, by simp⟩, fun _ _ e _ => e⟩
theorem Ext.same (s : Same H H1) : Ext ι H ι H1 := ⟨⟨[], by simp, by simp⟩, fun b o e _ => s b o e⟩
theorem Ext.trans (e1 : Ext ι H ι1 H1) (m : MutI ι1 H1) (e2 : Ext ι1 H1 ι2 H2) : Ext ι H ι2 H2 := by
  obtain ⟨ex, rfl, n1⟩ := e1.pre
  obtain ⟨ex2, rfl, n2⟩ := e2.pre
  refine ⟨⟨ex ++ ex2, by simp, fun a ha => ?_⟩, fun a o q hn => ?_⟩
  · rcases List.mem_append.mp ha with ha | ha
    · exact n1 a ha
    · cases q : H a with
      | none => rfl
      | some o =>
        have z := n2 a ha
        by_cases hi : a ∈ ι
        · obtain ⟨o', e', _⟩ := m a (List.mem_append_left _ hi)
          rw [z] at e'; cases e'
        · rw [e1.fr a o q hi] at z; cases z
  · refine e2.fr a o (e1.fr a o q hn) fun hi => ?_
    rcases List.mem_append.mp hi with hi | hi
    · exact hn hi
    · rw [n1 a hi] at q; cases q
theorem Ext.tup {xs : List V} (e : Ext ι H ι1 H1) (m : MutI ι H) (r : H a = some (.tup xs)) : H1 a = some (.tup xs) := e.fr a _ r fun hi => by
  obtain ⟨o', e', z'⟩ := m a hi
  rw [r] at e'; cases e'; cases z'
theorem FzL.ext {xs : List V} (e : Ext ι H ι1 H1) (m : MutI ι H) (r : FzL K H a xs) : FzL K H1 a xs := by
  rcases r with ⟨o, r⟩ | r
  · refine .inl ⟨o, e.fr a _ r fun hi => ?_⟩
    obtain ⟨o', e', z'⟩ := m a hi
    rw [r] at e'; cases e'; cases z'
  · exact .inr r
theorem Ext.get (e : Ext ι H ι1 H1) {n : Nat} (q : ι[n]? = some a) : ι1[n]? = some a := by
  obtain ⟨ex, rfl, _⟩ := e.pre
  obtain ⟨hn, _⟩ := List.getElem?_eq_some_iff.mp q
  rw [List.getElem?_append_left hn]; exact q
mutual
theorem Rp.ext (e : Ext ι H ι1 H1) (m : MutI ι H) : ∀ {d : D} {v : V}, Rp K ι H d v → Rp K ι1 H1 d v
  | _, _, .non => .non
  | _, _, .bl b => .bl b
  | _, _, .int i => .int i
  | _, _, .str x => .str x
  | _, _, .tup s r => .tup (e.tup m s) (RpL.ext e m r)
  | _, _, .kt s r => .kt s (RpL.ext e m r)
  | _, _, .ref q => .ref (e.get q)
  | _, _, .fz r => .fz (r.ext e m)
theorem RpL.ext (e : Ext ι H ι1 H1) (m : MutI ι H) : ∀ {xs : List D} {vs : List V}, RpL K ι H xs vs → RpL K ι1 H1 xs vs
  | _, _, .nil => .nil
  | _, _, .cons r s => .cons (Rp.ext e m r) (RpL.ext e m s)
end
theorem RpL.length : ∀ {xs : List D} {vs : List V}, RpL K ι H xs vs → xs.length = vs.length
  | _, _, .nil => rfl
  | _, _, .cons _ s => congrArg (· + 1) (RpL.length s)
theorem RpL.get : ∀ {xs : List D} {vs : List V} {i : Nat} {x : D}, RpL K ι H xs vs → xs[i]? = some x → ∃ v, vs[i]? = some v ∧ Rp K ι H x v
  | _, _, _, _, .nil, e => by simp at e
  | _, _, 0, _, .cons r _, e => by simp at e; subst e; exact ⟨_, rfl, r⟩
  | _, _, i + 1, x, .cons _ s, e => by
    obtain ⟨v, e1, r⟩ := RpL.get (i := i) (x := x) s (by simpa using e)
    exact ⟨v, by simpa using e1, r⟩
theorem RpL.getV : ∀ {xs : List D} {vs : List V} {i : Nat} {v : V}, RpL K ι H xs vs → vs[i]? = some v → ∃ x, xs[i]? = some x ∧ Rp K ι H x v
  | _, _, _, _, .nil, e => by simp at e
  | _, _, 0, _, .cons r _, e => by simp at e; subst e; exact ⟨_, rfl, r⟩
  | _, _, i + 1, x, .cons _ s, e => by
    obtain ⟨v, e1, r⟩ := RpL.getV (i := i) (v := x) s (by simpa using e)
    exact ⟨v, by simpa using e1, r⟩
theorem RpL.append : ∀ {xs ys : List D} {vs ws : List V}, RpL K ι H xs vs → RpL K ι H ys ws → RpL K ι H (xs ++ ys) (vs ++ ws)
  | _, _, _, _, .nil, s => s
  | _, _, _, _, .cons r t, s => .cons r (RpL.append t s)
theorem RpL.set {x : D} {v : V} (r : Rp K ι H x v) : ∀ {xs : List D} {vs : List V} (i : Nat), RpL K ι H xs vs → RpL K ι H (xs.set i x) (vs.set i v)
  | _, _, _, .nil => .nil
  | _, _, 0, .cons _ t => .cons r t
  | _, _, i + 1, .cons q t => .cons q (RpL.set r i t)
theorem RpL.take : ∀ {xs : List D} {vs : List V} (n : Nat), RpL K ι H xs vs → RpL K ι H (xs.take n) (vs.take n)
  | _, _, 0, _ => .nil
  | _, _, _ + 1, .nil => .nil
  | _, _, n + 1, .cons r t => .cons r (RpL.take n t)
theorem RpL.drop : ∀ {xs : List D} {vs : List V} (n : Nat), RpL K ι H xs vs → RpL K ι H (xs.drop n) (vs.drop n)
  | _, _, 0, r => r
  | _, _, _ + 1, .nil => .nil
  | _, _, n + 1, .cons _ t => RpL.drop n t
theorem RpL.dropLast {xs : List D} {vs : List V} (r : RpL K ι H xs vs) : RpL K ι H xs.dropLast vs.dropLast := by
  rw [List.dropLast_eq_take, List.dropLast_eq_take, ← r.length]; exact r.take _
theorem RpL.eraseIdx : ∀ {xs : List D} {vs : List V} (n : Nat), RpL K ι H xs vs → RpL K ι H (xs.eraseIdx n) (vs.eraseIdx n)
  | _, _, _, .nil => .nil
  | _, _, 0, .cons _ t => t
  | _, _, n + 1, .cons r t => .cons r (RpL.eraseIdx n t)
theorem RpL.reverse : ∀ {xs : List D} {vs : List V}, RpL K ι H xs vs → RpL K ι H xs.reverse vs.reverse
  | _, _, .nil => .nil
  | _, _, .cons r t => by
    rw [List.reverse_cons, List.reverse_cons]
    exact RpL.append (RpL.reverse t) (.cons r .nil)
theorem RpL.rep {xs : List D} {vs : List V} (r : RpL K ι H xs vs) : ∀ k : Nat, RpL K ι H (List.replicate k xs).flatten (List.replicate k vs).flatten
  | 0 => .nil
  | k + 1 => by
    rw [List.replicate_succ, List.replicate_succ, List.flatten_cons, List.flatten_cons]
    exact r.append (RpL.rep r k)
theorem RpL.ints : ∀ {ns : List Int}, RpL K ι H (ns.map D.int) (ns.map V.int)
  | [] => .nil
  | i :: r => .cons (.int i) (RpL.ints)
theorem RpL.intsD : ∀ {xs : List D} {vs : List V} {ns : List Int}, RpL K ι H xs vs → intsD xs = some ns → vs = ns.map V.int ∧ xs = ns.map D.int
  | _, _, ns, .nil, e => by simp [Mi.intsD] at e; subst e; exact ⟨rfl, rfl⟩
  | _, _, ns, .cons (x := x) r t, e => by
    cases r with
    | int i =>
      simp only [Mi.intsD, Option.map_eq_some_iff] at e
      obtain ⟨ms, e1, rfl⟩ := e
      obtain ⟨e2, e3⟩ := RpL.intsD t e1
      rw [e2, e3]; exact ⟨rfl, rfl⟩
    | _ => simp [Mi.intsD] at e
theorem RpL.blsD : ∀ {xs : List D} {vs : List V} {ns : List Bool}, RpL K ι H xs vs → blsD xs = some ns → vs = ns.map V.bl
  | _, _, ns, .nil, e => by simp [Mi.blsD] at e; subst e; rfl
  | _, _, ns, .cons (x := x) r t, e => by
    cases r with
    | bl i =>
      simp only [Mi.blsD, Option.map_eq_some_iff] at e
      obtain ⟨ms, e1, rfl⟩ := e
      rw [RpL.blsD t e1]; rfl
    | _ => simp [Mi.blsD] at e
theorem Paired.mapX {α β : Type} {F G : α → β → Prop} (f : ∀ a b, F a b → G a b) : ∀ {l₁ : List α} {l₂ : List β}, Paired F l₁ l₂ → Paired G l₁ l₂
  | _, _, .nil => .nil
  | _, _, .cons r t => .cons (f _ _ r) (Paired.mapX f t)
theorem CellRel.ext {c : Cell} (e : Ext ι H ι1 H1) (m : MutI ι H) (k : ∀ o, H a = some o → H1 a = some o) (r : CellRel K ι H c a) : CellRel K ι1 H1 c a := by
  cases c with
  | lst xs => obtain ⟨vs, q, r⟩ := r; exact ⟨vs, k _ q, r.ext e m⟩
  | dct kvs =>
    rcases r with ⟨ks, q, r⟩ | ⟨ks, q, r⟩
    · exact .inl ⟨ks, k _ q, Paired.mapX (fun _ _ z => ⟨z.1, z.2.ext e m⟩) r⟩
    · exact .inr ⟨ks, k _ q, Paired.mapX (fun _ _ z => ⟨z.1, z.2.ext e m⟩) r⟩
  | ins c fs => exact r.elim
/-- more is tracked -/
theorem RelH.same (r : RelH K ι h H) (s : Same H H1) : RelH K ι h H1 :=
  ⟨r.len, r.nd, fun n c a e1 e2 => (r.cell n c a e1 e2).ext (Ext.same s) r.mut (s a)⟩
theorem same_new {o : HO} (n : H p = none) : Same H (upd H p o) := fun b u e => by
  rw [upd_ne (ne_of_none e n)]; exact e
/-- a new cell -/
theorem RelH.new {c : Cell} {o : HO} (r : RelH K ι h H) (n : H p = none) (rc : CellRel K (ι ++ [p]) (upd H p o) c p) : RelH K (ι ++ [p]) (h ++ [c]) (upd H p o) := by
  have pn : p ∉ ι := fun hi => by obtain ⟨_, e, _⟩ := r.mut p hi; rw [n] at e; cases e
  have e : Ext ι H (ι ++ [p]) (upd H p o) := ⟨⟨[p], rfl, fun a ha => by simp at ha; subst ha; exact n⟩, fun a u q _ => same_new n a u q⟩
  refine ⟨by simp [r.len], ?_, fun m c' a e1 e2 => ?_⟩
  · rw [List.nodup_append]
    refine ⟨r.nd, by simp, fun a ha b hb => ?_⟩
    simp at hb; subst hb; exact fun z => pn (z ▸ ha)
  · by_cases hm : m < h.length
    · rw [List.getElem?_append_left hm] at e1
      rw [List.getElem?_append_left (by rw [r.len]; exact hm)] at e2
      exact (r.cell m c' a e1 e2).ext e r.mut (same_new n a)
    · have hm' : m = h.length := by
        have := (List.getElem?_eq_some_iff.mp e1).1
        simp at this; omega
      subst hm'
      rw [List.getElem?_append_right (Nat.le_refl _)] at e1
      rw [← r.len, List.getElem?_append_right (Nat.le_refl _)] at e2
      simp at e1 e2; subst e1; subst e2
      exact rc
theorem Ext.new {o : HO} (n : H p = none) : Ext ι H (ι ++ [p]) (upd H p o) :=
  ⟨⟨[p], rfl, fun a ha => by simp at ha; subst ha; exact n⟩, fun a u q _ => same_new n a u q⟩
/-- a cell is written -/
theorem RelH.write {n : Nat} {c : Cell} {o : HO} (r : RelH K ι h H) (ha : ι[n]? = some a) (rc : CellRel K ι (upd H a o) c a) : RelH K ι (h.set n c) (upd H a o) := by
  have ai : a ∈ ι := List.mem_of_getElem? ha
  have e : Ext ι H ι (upd H a o) := ⟨⟨[], by simp, by simp⟩, fun b u q hb => by
    rw [upd_ne (fun z : b = a => hb (by rw [z]; exact ai))]; exact q⟩
  refine ⟨by simp [r.len], r.nd, fun m c' b e1 e2 => ?_⟩
  by_cases hm : m = n
  · subst hm
    rw [ha] at e2; cases e2
    have hl : m < h.length := by
      have := (List.getElem?_eq_some_iff.mp e1).1
      simpa using this
    rw [List.getElem?_set_self hl] at e1; cases e1
    exact rc
  · rw [List.getElem?_set_ne (Ne.symm hm)] at e1
    refine (r.cell m c' b e1 e2).ext e r.mut fun u q => ?_
    rw [upd_ne fun z => hm ?_]
    · exact q
    · subst z
      obtain ⟨h1, q1⟩ := List.getElem?_eq_some_iff.mp e2
      obtain ⟨h2, q2⟩ := List.getElem?_eq_some_iff.mp ha
      exact (List.getElem_inj r.nd).mp (q1.trans q2.symm)
theorem Ext.write {n : Nat} {o : HO} (ha : ι[n]? = some a) : Ext ι H ι (upd H a o) := ⟨⟨[], by simp, by simp⟩, fun b u q hb => by
    rw [upd_ne (fun z : b = a => hb (by rw [z]; exact List.mem_of_getElem? ha))]; exact q⟩
mutual
theorem Rp.more {ex : List Addr} : ∀ {d : D} {v : V}, Rp K ι H d v → Rp K (ι ++ ex) H d v
  | _, _, .non => .non
  | _, _, .bl b => .bl b
  | _, _, .int i => .int i
  | _, _, .str x => .str x
  | _, _, .tup s r => .tup s (RpL.more r)
  | _, _, .kt s r => .kt s (RpL.more r)
  | _, _, .ref q => .ref (by rw [List.getElem?_append_left (List.getElem?_eq_some_iff.mp q).1]; exact q)
  | _, _, .fz r => .fz r
theorem RpL.more {ex : List Addr} : ∀ {xs : List D} {vs : List V}, RpL K ι H xs vs → RpL K (ι ++ ex) H xs vs
  | _, _, .nil => .nil
  | _, _, .cons r s => .cons (Rp.more r) (RpL.more s)
end
theorem CellRel.more {ex : List Addr} {c : Cell} (r : CellRel K ι H c a) : CellRel K (ι ++ ex) H c a := by
  cases c with
  | lst xs => obtain ⟨vs, q, r⟩ := r; exact ⟨vs, q, r.more⟩
  | dct kvs =>
    rcases r with ⟨ks, q, r⟩ | ⟨ks, q, r⟩
    · exact .inl ⟨ks, q, Paired.mapX (fun _ _ z => ⟨z.1, z.2.more⟩) r⟩
    · exact .inr ⟨ks, q, Paired.mapX (fun _ _ z => ⟨z.1, z.2.more⟩) r⟩
  | ins c fs => exact r.elim
/-! ### what lies below -/
mutual
theorem Rp.low {n : Nat} : ∀ {d : D} {v : V}, Rp K ι H d v → d.lo n = true → Rp K (ι.take n) H d v
  | _, _, .non, _ => .non
  | _, _, .bl b, _ => .bl b
  | _, _, .int i, _ => .int i
  | _, _, .str x, _ => .str x
  | _, _, .tup s r, e => .tup s (RpL.low r (by simpa [D.lo] using e))
  | _, _, .kt s r, e => .kt s (RpL.low r (by simpa [D.lo] using e))
  | _, _, .ref (n := m) q, e => .ref (by
      have : m < n := by simpa [D.lo] using e
      rw [List.getElem?_take_of_lt this]; exact q)
  | _, _, .fz r, _ => .fz r
theorem RpL.low {n : Nat} : ∀ {xs : List D} {vs : List V}, RpL K ι H xs vs → D.los n xs = true → RpL K (ι.take n) H xs vs
  | _, _, .nil, _ => .nil
  | _, _, .cons r s, e => by
    simp only [D.los, Bool.and_eq_true] at e
    exact .cons (Rp.low r e.1) (RpL.low s e.2)
end
theorem Paired.low {n : Nat} {κ : Type} {F : D → κ → Prop} : ∀ {kvs : List (D × D)} {ks : List (κ × V)}, Paired (fun p q => F p.1 q.1 ∧ Rp K ι H p.2 q.2) kvs ks → (kvs.all fun kv => kv.1.lo n && kv.2.lo n) = true →
    Paired (fun p q => F p.1 q.1 ∧ Rp K (ι.take n) H p.2 q.2) kvs ks
  | _, _, .nil, _ => .nil
  | _, _, .cons r s, e => by
    simp only [List.all_cons, Bool.and_eq_true] at e
    exact .cons ⟨r.1, r.2.low e.1.2⟩ (Paired.low s e.2)
theorem CellRel.low {n : Nat} {c : Cell} (r : CellRel K ι H c a) (e : c.lo n = true) : CellRel K (ι.take n) H c a := by
  cases c with
  | lst xs => obtain ⟨vs, q, r⟩ := r; exact ⟨vs, q, r.low e⟩
  | dct kvs =>
    rcases r with ⟨ks, q, r⟩ | ⟨ks, q, r⟩
    · exact .inl ⟨ks, q, Paired.low (F := fun x y => keyOf x = some y) r e⟩
    · exact .inr ⟨ks, q, Paired.low (F := fun x y => tkeyOf x = some y) r e⟩
  | ins c fs => exact r.elim
theorem RelH.take {n : Nat} (r : RelH K ι h H) (e : (h.take n).all (Cell.lo n) = true) : RelH K (ι.take n) (h.take n) H := by
  refine ⟨by simp [r.len], (List.take_sublist n ι).nodup r.nd, fun m c a e1 e2 => ?_⟩
  have hm : m < n := by
    have := (List.getElem?_eq_some_iff.mp e1).1
    simp at this; omega
  have hc := List.all_eq_true.mp e c (List.mem_of_getElem? e1)
  rw [List.getElem?_take_of_lt hm] at e1 e2
  exact (r.cell m c a e1 e2).low hc
theorem Ext.take {n : Nat} (e : Ext ι H ι1 H1) (hn : ι.length = n) : ι1.take n = ι := by
  obtain ⟨ex, rfl, _⟩ := e.pre
  rw [← hn, List.take_left']; rfl
theorem Ext.cut (e : Ext ι H ι1 H1) : Ext ι H ι H1 := ⟨⟨[], by simp, by simp⟩, e.fr⟩
theorem trim_ok {n : Nat} {h' : HS} {d' : D} (e : Ext ι H ι1 H1) (hn : ι.length = n) (r : RelH K ι1 h1 H1) (rp : Rp K ι1 H1 d v) (t : trim n d h1 = .ok d' h') :
    ∃ ι2, Ext ι H ι2 H1 ∧ RelH K ι2 h' H1 ∧ Rp K ι2 H1 d' v := by
  unfold trim at t
  by_cases c1 : h1.length ≤ n
  · rw [if_pos c1] at t; cases t; exact ⟨ι1, e, r, rp⟩
  rw [if_neg c1] at t
  by_cases hall : (h1.take n).all (Cell.lo n) = true
  case neg => rw [if_neg hall] at t; cases t; exact ⟨ι1, e, r, rp⟩
  rw [if_pos hall] at t
  have rt := r.take hall
  rw [e.take hn] at rt
  have other : ∀ d0 : D, d0 = d → (if d0.lo n = true then R.ok d0 (h1.take n) else R.ok d0 h1) = R.ok d' h' → ∃ ι2, Ext ι H ι2 H1 ∧ RelH K ι2 h' H1 ∧ Rp K ι2 H1 d' v := fun d0 ed t0 => by
    clear t
    subst ed
    by_cases hl : d0.lo n = true
    · rw [if_pos hl] at t0
      cases t0
      refine ⟨ι, e.cut, rt, ?_⟩
      have := rp.low hl
      rw [e.take hn] at this; exact this
    · rw [if_neg hl] at t0; cases t0; exact ⟨ι1, e, r, rp⟩
  cases d with
  | ref m =>
    have t : (if m < n then R.ok (.ref m) (h1.take n) else match h1[m]? with
      | some c => if c.lo n = true then .ok (.ref n) (h1.take n ++ [c]) else .ok (.ref m) h1
      | none => .bad) = R.ok d' h' := t
    by_cases hm : m < n
    · rw [if_pos hm] at t
      cases t
      refine ⟨ι, e.cut, rt, ?_⟩
      have := rp.low (n := n) (by simpa [D.lo] using hm)
      rw [e.take hn] at this; exact this
    rw [if_neg hm] at t
    cases hc : h1[m]? with
    | none => rw [hc] at t; cases t
    | some c =>
      rw [hc] at t
      have t : (if c.lo n = true then R.ok (.ref n) (h1.take n ++ [c]) else .ok (.ref m) h1) = R.ok d' h' := t
      by_cases hl : c.lo n = true
      case neg => rw [if_neg hl] at t; cases t; exact ⟨ι1, e, r, rp⟩
      rw [if_pos hl] at t
      cases t
      cases rp with
      | ref q =>
        rename_i b
        have rc := (r.cell m c b hc q).low hl
        rw [e.take hn] at rc
        obtain ⟨ex, rfl, hx⟩ := e.pre
        have bx : b ∈ ex := by
          rw [List.getElem?_append_right (by omega)] at q
          exact List.mem_of_getElem? q
        have bn : b ∉ ι := fun hb => by
          have := (List.nodup_append.mp r.nd).2.2 b hb b bx
          exact this rfl
        have e2 : Ext ι H (ι ++ [b]) H1 := ⟨⟨[b], rfl, fun a ha => by simp at ha; subst ha; exact hx _ bx⟩, e.fr⟩
        refine ⟨ι ++ [b], e2, ⟨by simp [rt.len], ?_, fun k c' a e1 e3 => ?_⟩, .ref (by rw [← hn]; simp)⟩
        · rw [List.nodup_append]
          refine ⟨rt.nd, by simp, fun a ha b' hb => ?_⟩
          simp at hb; subst hb; exact fun z => bn (z ▸ ha)
        · by_cases hk : k < n
          · rw [List.getElem?_append_left (by rw [← rt.len, hn]; exact hk)] at e1
            rw [List.getElem?_append_left (by rw [hn]; exact hk)] at e3
            exact (rt.cell k c' a e1 e3).more
          · have hk' : k = n := by
              have := (List.getElem?_eq_some_iff.mp e3).1
              simp at this; omega
            subst hk'
            rw [List.getElem?_append_right (by rw [← rt.len, hn]; exact Nat.le_refl _)] at e1
            rw [List.getElem?_append_right (by rw [hn]; exact Nat.le_refl _)] at e3
            rw [← rt.len, hn] at e1
            rw [hn] at e3
            simp at e1 e3; subst e1; subst e3
            exact rc.more
  | non => exact other _ rfl t
  | bl b => exact other _ rfl t
  | int b => exact other _ rfl t
  | str b => exact other _ rfl t
  | tup b => exact other _ rfl t
  | fz b => exact other _ rfl t
  | kt b => exact other _ rfl t
end
end Mi

namespace Mi
open PySem L2

theorem LIM_line : LIM = sizeLine := by rw [sizeLine_eq]; rfl
/-- what is wanted behind an evaluation that began at ι, H -/
def Post {α β : Type} (RR : List Addr → Hp → α → β → Prop) (K : PySem.W.Frag) (ι : List Addr) (H : Hp) (r : R α) (Q : β → Hp → Prop) : Prop := match r with
  | .ok d h1 => ∀ ι1 v H1, Ext ι H ι1 H1 → RelH K ι1 h1 H1 → RR ι1 H1 d v → Q v H1
  | _ => False
abbrev PostE (K : PySem.W.Frag) (ι : List Addr) (H : Hp) (r : R D) (Q : VK) : Prop := Post (Rp K) K ι H r Q
theorem Post.bind {α β γ : Type} {RR : List Addr → Hp → α → β → Prop} {K : PySem.W.Frag} {ι : List Addr} {H : Hp} {r : R γ} {f : γ → HS → R α} {Q : β → Hp → Prop} (q : Post RR K ι H (r.bind f) Q) :
    ∃ a h1, r = .ok a h1 ∧ Post RR K ι H (f a h1) Q := by
  cases r with
  | ok a h1 => exact ⟨a, h1, rfl, q⟩
  | exc _ _ _ => exact q.elim
  | bad => exact q.elim
section
variable {K : PySem.W.Frag} {ι ι1 ι2 : List Addr} {H H1 H2 : Hp} {h h1 : HS} {d : D} {v : V} {xs ys : List D} {vs ws : List V} {a p : Addr} {r : R D} {Q : VK}
theorem Post.shift {α β : Type} {RR : List Addr → Hp → α → β → Prop} {r : R α} {Q : β → Hp → Prop} (e : Ext ι H ι1 H1) (m : MutI ι1 H1) (q : Post RR K ι H r Q) : Post RR K ι1 H1 r Q := by
  cases r with
  | ok d h2 => exact fun ι2 v H2 e2 r2 rp => q ι2 v H2 (e.trans m e2) r2 rp
  | exc _ _ _ => exact q
  | bad => exact q
theorem PostE.tr {n : Nat} (q : PostE K ι H (r.tr n) Q) (hn : ι.length = n) : PostE K ι H r Q := by
  cases r with
  | ok d h1 =>
    have q : PostE K ι H (trim n d h1) Q := q
    intro ι1 v H1 e r1 rp
    cases t : trim n d h1 with
    | ok d' h' =>
      rw [t] at q
      obtain ⟨ι2, e2, r2, rp2⟩ := trim_ok e hn r1 rp t
      exact q ι2 v H1 e2 r2 rp2
    | exc _ _ _ => rw [t] at q; exact q.elim
    | bad => rw [t] at q; exact q.elim
  | exc _ _ _ => exact q
  | bad => exact q
theorem PostE.val (q : PostE K ι H (.ok d h) Q) (r : RelH K ι h H) (rp : Rp K ι H d v) : Q v H := q ι v H Ext.refl r rp
theorem PostE.newT (q : PostE K ι H (.ok (.tup xs) h) Q) (r : RelH K ι h H) (rp : RpL K ι H xs vs) : ∀ p, H p = none → Q (.ref p) (upd H p (.tup vs)) := fun p n => by
  have e : Ext ι H ι (upd H p (.tup vs)) := Ext.same (same_new n)
  exact q ι _ _ e (r.same (same_new n)) (.tup upd_same (rp.ext e r.mut))
theorem PostE.newL (q : PostE K ι H (.ok (.ref h.length) (h ++ [.lst xs])) Q) (r : RelH K ι h H) (rp : RpL K ι H xs vs) : ∀ p, H p = none → Q (.ref p) (upd H p (.lst vs)) := fun p n => by
  have e : Ext ι H (ι ++ [p]) (upd H p (.lst vs)) := Ext.new n
  exact q _ _ _ e (r.new n ⟨vs, upd_same, rp.ext e r.mut⟩) (.ref (by rw [← r.len]; simp))
theorem PostE.setL {n : Nat} {d : D} {v : V} (q : PostE K ι H (.ok d (h.set n (.lst xs))) Q) (r : RelH K ι h H) (ha : ι[n]? = some a) (rp : RpL K ι H xs vs) (rd : Rp K ι H d v) : Q v (upd H a (.lst vs)) := by
  have e : Ext ι H ι (upd H a (.lst vs)) := Ext.write ha
  exact q _ _ _ e (r.write ha ⟨vs, upd_same, rp.ext e r.mut⟩) (rd.ext e r.mut)
theorem mkL_some (q : PostE K ι H (mkL xs h) Q) : xs.length ≤ LIM ∧ PostE K ι H (.ok (.ref h.length) (h ++ [.lst xs])) Q := by
  unfold mkL at q
  by_cases c : xs.length ≤ LIM
  · rw [if_pos c] at q; exact ⟨c, q⟩
  · rw [if_neg c] at q; exact q.elim
theorem mkT_some (q : PostE K ι H (mkT xs h) Q) : xs.length ≤ LIM ∧ PostE K ι H (.ok (.tup xs) h) Q := by
  unfold mkT at q
  by_cases c : xs.length ≤ LIM
  · rw [if_pos c] at q; exact ⟨c, q⟩
  · rw [if_neg c] at q; exact q.elim
theorem RelH.lst {n : Nat} (r : RelH K ι h H) (e : h[n]? = some (.lst xs)) : ∃ a vs, ι[n]? = some a ∧ H a = some (.lst vs) ∧ RpL K ι H xs vs := by
  obtain ⟨a, ea, vs, e1, e2⟩ := r.at e
  exact ⟨a, vs, ea, e1, e2⟩
theorem Rp.lstOf {n : Nat} (rp : Rp K ι H (.ref n) v) (r : RelH K ι h H) (e : h[n]? = some (.lst xs)) : ∃ a vs, v = .ref a ∧ ι[n]? = some a ∧ H a = some (.lst vs) ∧ RpL K ι H xs vs := by
  cases rp with
  | ref q =>
    obtain ⟨a, vs, ea, e1, e2⟩ := r.lst e
    rw [q] at ea; cases ea
    exact ⟨_, vs, rfl, q, e1, e2⟩
/-- a list or tuple to be read -/
theorem Rp.itemsOf (rp : Rp K ι H d v) (r : RelH K ι h H) (e : itemsD h d = some xs) : ∃ a vs, v = .ref a ∧ (SqL K H a vs ∨ SqT K H a vs) ∧ RpL K ι H xs vs := by
  cases rp with
  | tup s q => simp [itemsD] at e; subst e; exact ⟨_, _, rfl, .inr (SqT.of s), q⟩
  | kt s q => simp [itemsD] at e; subst e; exact ⟨_, _, rfl, .inr s.sq, q⟩
  | fz f => simp [itemsD] at e; subst e; exact ⟨_, _, rfl, .inl f.sq, RpL.ints⟩
  | ref q =>
    rename_i n a
    simp only [itemsD] at e
    cases hc : h[n]? with
    | none => rw [hc] at e; cases e
    | some c =>
      rw [hc] at e
      cases c with
      | lst ys =>
        have e : some ys = some xs := e
        cases e
        obtain ⟨b, vs, ea, e1, e2⟩ := r.lst hc
        rw [q] at ea; cases ea
        exact ⟨a, vs, rfl, .inl (SqL.of e1), e2⟩
      | dct _ => cases e
      | ins _ _ => cases e
  | non => simp [itemsD] at e
  | bl _ => simp [itemsD] at e
  | int _ => simp [itemsD] at e
  | str _ => simp [itemsD] at e

/-! ## equality -/
mutual
theorem Rp.dp0 : ∀ {d : D} {v : V} {e : PyData}, Rp K ι H d v → d.py0 = some e → Dp K H v e
  | _, _, _, .non, e => by simp [D.py0] at e; subst e; exact .non
  | _, _, _, .bl b, e => by simp [D.py0] at e; subst e; exact .bl b
  | _, _, _, .int b, e => by simp [D.py0] at e; subst e; exact .int b
  | _, _, _, .str b, e => by simp [D.py0] at e; subst e; exact .str b
  | _, _, _, .tup s r, e => by
    simp only [D.py0, Option.map_eq_some_iff] at e
    obtain ⟨ds, e1, rfl⟩ := e
    exact .tup (SqT.of s) (RpL.dp0 r e1)
  | _, _, _, .kt s r, e => by
    simp only [D.py0, Option.map_eq_some_iff] at e
    obtain ⟨ds, e1, rfl⟩ := e
    exact .tup s.sq (RpL.dp0 r e1)
  | _, _, _, .ref _, e => by simp [D.py0] at e
  | _, _, _, .fz (ns := ns) f, e => by
    simp [D.py0] at e; subst e
    exact .lst f.sq (dpInts ns)
theorem RpL.dp0 : ∀ {xs : List D} {vs : List V} {es : List PyData}, RpL K ι H xs vs → D.py0s xs = some es → DpAll K H vs es
  | _, _, _, .nil, e => by simp [D.py0s] at e; subst e; exact .nil
  | _, _, _, .cons (x := x) (xs := xs) r s, e => by
    cases e1 : D.py0 x with
    | none => simp [D.py0s, e1] at e
    | some y =>
      cases e2 : D.py0s xs with
      | none => simp [D.py0s, e1, e2] at e
      | some t =>
        simp [D.py0s, e1, e2] at e
        subst e
        exact .cons (Rp.dp0 r e1) (RpL.dp0 s e2)
theorem dpInts : ∀ ns : List Int, DpAll K H (ns.map V.int) (ns.map PyData.int)
  | [] => .nil
  | i :: r => .cons (.int i) (dpInts r)
end
theorem Rp.dp {e : PyData} (rp : Rp K ι H d v) (r : RelH K ι h H) (q : d.py h = some e) : Dp K H v e := by
  cases rp with
  | ref s =>
    rename_i n a
    simp only [D.py] at q
    cases hc : h[n]? with
    | none => rw [hc] at q; cases q
    | some c =>
      rw [hc] at q
      cases c with
      | lst ys =>
        obtain ⟨b, vs, ea, e1, e2⟩ := r.lst hc
        rw [s] at ea; cases ea
        have q : (D.py0s ys).map .list = some e := q
        rw [Option.map_eq_some_iff] at q
        obtain ⟨ds, q1, rfl⟩ := q
        exact .lst (SqL.of e1) (e2.dp0 q1)
      | dct _ => cases q
      | ins _ _ => cases q
  | non => exact Rp.dp0 .non (ι := ι) q
  | bl b => exact Rp.dp0 (.bl b) (ι := ι) q
  | int b => exact Rp.dp0 (.int b) (ι := ι) q
  | str b => exact Rp.dp0 (.str b) (ι := ι) q
  | tup s t => exact Rp.dp0 (.tup s t) q
  | fz f => exact Rp.dp0 (.fz f) (ι := ι) q
  | kt s t => exact Rp.dp0 (.kt s t) q
theorem eqD_some {b : D} {k : Bool} (e : eqD h d b = some k) : ∃ x y, d.py h = some x ∧ b.py h = some y ∧ SeqAt.shaped x = true ∧ SeqAt.shaped y = true ∧ k = PyData.eqv x y := by
  unfold eqD at e
  cases e1 : d.py h with
  | none => rw [e1] at e; cases e
  | some x =>
    cases e2 : b.py h with
    | none => rw [e1, e2] at e; cases e
    | some y =>
      rw [e1, e2] at e
      have e : (if (SeqAt.shaped x && SeqAt.shaped y) = true then some (PyData.eqv x y) else none) = some k := e
      by_cases c : (SeqAt.shaped x && SeqAt.shaped y) = true
      · rw [if_pos c] at e; cases e
        rw [Bool.and_eq_true] at c
        exact ⟨x, y, rfl, rfl, c.1, c.2, rfl⟩
      · rw [if_neg c] at e; cases e
end

/-! ## operators by values -/
def rM (f : D → D → HS → R D) (K : PySem.W.Frag) : R2 := fun x y H Q => ∃ ι h a b, RelH K ι h H ∧ Rp K ι H a x ∧ Rp K ι H b y ∧ PostE K ι H (f a b h) Q
section
variable {X : Cx}
theorem OpR.imp {f : Value → Value → Sem Value} {r r' : R2} (h : OpR X f r) (i : ∀ x y H Q, r' x y H Q → r x y H Q) : OpR X f r' :=
  fun pins s σ H x y v u Q I rx ry q => h pins s σ H x y v u Q I rx ry (i x y H Q q)
theorem RpL.nilV {K : PySem.W.Frag} {ι : List Addr} {H : Hp} {xs : List D} : RpL K ι H xs [] → xs = [] := fun r => by cases r; rfl
theorem o_add : OpR X (binaryOp .Add) (rM (binF .Add) X.K) := by
  refine OpR.imp (L2.OpR.or op_add (L2.OpR.or op_add_str (L2.OpR.or op_catA op_cat))) ?_
  rintro x y H Q ⟨ι, h, a, b, rh, ra, rb, q⟩
  cases ra with
  | int i =>
    cases rb with
    | int j => exact .inl ⟨i, j, rfl, rfl, q.val rh (.int _)⟩
    | _ => exact q.elim
  | str i =>
    cases rb with
    | str j =>
      have q : PostE X.K ι H (if i.length + j.length ≤ LIM then .ok (.str (i ++ j)) h else .bad) Q := q
      by_cases c : i.length + j.length ≤ LIM
      · rw [if_pos c] at q
        exact .inr (.inl ⟨i, j, rfl, rfl, by rw [← LIM_line]; exact c, q.val rh (.str _)⟩)
      · rw [if_neg c] at q; exact q.elim
    | _ => exact q.elim
  | tup sa r =>
    cases rb with
    | tup sb r' =>
      rename_i xs a vs ys b ws
      obtain ⟨c, q⟩ := mkT_some (K := X.K) (ι := ι) (H := H) (Q := Q) (xs := xs ++ ys) (h := h) q
      refine .inr (.inr (.inl ⟨a, b, vs, ws, rfl, rfl, SqT.of sa, SqT.of sb, ?_, ?_, ?_, ?_⟩))
      · rw [← LIM_line, ← r.length, ← r'.length, ← List.length_append]; exact c
      · intro z; subst z
        have := r.nilV; subst this
        exact q.val rh (.tup sb r')
      · intro _ z; subst z
        have := r'.nilV; subst this
        rw [List.append_nil] at q
        exact q.val rh (.tup sa r)
      · intro _ _; exact q.newT rh (r.append r')
    | _ => exact q.elim
  | ref e =>
    rename_i n a
    cases rb with
    | ref e' =>
      rename_i m b
      simp only [binF] at q
      cases h1 : h[n]? with
      | none => rw [h1] at q; exact q.elim
      | some c1 =>
        rw [h1] at q
        cases c1 with
        | lst xs =>
          cases h2 : h[m]? with
          | none => rw [h2] at q; exact q.elim
          | some c2 =>
            rw [h2] at q
            cases c2 with
            | lst ys =>
              obtain ⟨c, q⟩ := mkL_some (K := X.K) (ι := ι) (H := H) (Q := Q) (xs := xs ++ ys) (h := h) q
              obtain ⟨_, vs, z, _, e1, r1⟩ := (Rp.ref e : Rp X.K ι H _ _).lstOf rh h1
              cases z
              obtain ⟨_, ws, z, _, e2, r2⟩ := (Rp.ref e' : Rp X.K ι H _ _).lstOf rh h2
              cases z
              refine .inr (.inr (.inr ⟨a, b, vs, ws, rfl, rfl, e1, e2, ?_, q.newL rh (r1.append r2)⟩))
              rw [← LIM_line, ← r1.length, ← r2.length, ← List.length_append]; exact c
            | _ => exact q.elim
        | _ => exact q.elim
    | _ => exact q.elim
  | non => exact q.elim
  | bl _ => exact q.elim
  | fz _ => exact q.elim
  | kt _ _ => exact q.elim
/-- an operator on two ints -/
theorem o_int {f : Value → Value → Sem Value} {C : Int → Int → Prop} {g : Int → Int → V} (ho : OpR X f (rI C g)) {F : D → D → HS → R D} (hF : ∀ a b h Q H ι, PostE X.K ι H (F a b h) Q → RelH X.K ι h H → ∃ i j, a = .int i ∧ b = .int j ∧ C i j ∧ Q (g i j) H) : OpR X f (rM F X.K) := by
  refine OpR.imp ho ?_
  rintro x y H Q ⟨ι, h, a, b, rh, ra, rb, q⟩
  obtain ⟨i, j, rfl, rfl, c, q⟩ := hF a b h Q H ι q rh
  cases ra; cases rb
  exact ⟨i, j, rfl, rfl, c, q⟩
theorem o_sub : OpR X (binaryOp .Sub) (rM (binF .Sub) X.K) := by
  refine o_int (C := fun _ _ => True) (OpR.imp op_sub fun x y H Q ⟨i, j, e1, e2, _, q⟩ => ⟨i, j, e1, e2, q⟩) ?_
  intro a b h Q H ι q rh
  cases a <;> first | exact q.elim | skip
  cases b <;> first | exact q.elim | skip
  exact ⟨_, _, rfl, rfl, trivial, q.val rh (.int _)⟩
end
end Mi

namespace Mi
open PySem L2
section
variable {X : Cx}
theorem o_mul : OpR X (binaryOp .Mult) (rM (binF .Mult) X.K) := by
  refine OpR.imp (L2.OpR.or op_mul op_rep) ?_
  rintro x y H Q ⟨ι, h, a, b, rh, ra, rb, q⟩
  cases ra with
  | int i =>
    cases rb with
    | int j =>
      have q : PostE X.K ι H (if mulOk i j = true then .ok (.int (i * j)) h else .bad) Q := q
      by_cases c : mulOk i j = true
      · rw [if_pos c] at q
        refine .inl ⟨i, j, rfl, rfl, ?_, q.val rh (.int _)⟩
        simpa [mulOk, CMul] using c
      · rw [if_neg c] at q; exact q.elim
    | _ => exact q.elim
  | ref e =>
    rename_i n a
    cases rb with
    | int k =>
      simp only [binF] at q
      cases h1 : h[n]? with
      | none => rw [h1] at q; exact q.elim
      | some c1 =>
        rw [h1] at q
        cases c1 with
        | lst xs =>
          have q : PostE X.K ι H (if (decide (-(2 ^ 63) ≤ k) && decide (k < 2 ^ 63) && decide (xs.length * k.toNat ≤ LIM)) = true then .ok (.ref h.length) (h ++ [.lst (List.replicate k.toNat xs).flatten]) else .bad) Q := q
          by_cases c : (decide (-(2 ^ 63) ≤ k) && decide (k < 2 ^ 63) && decide (xs.length * k.toNat ≤ LIM)) = true
          · rw [if_pos c] at q
            simp only [Bool.and_eq_true, decide_eq_true_eq] at c
            obtain ⟨_, vs, z, _, e1, r1⟩ := (Rp.ref e : Rp X.K ι H _ _).lstOf rh h1
            cases z
            exact .inr ⟨a, k, vs, rfl, rfl, e1, c.1.1, c.1.2, by rw [← LIM_line, ← r1.length]; exact c.2, q.newL rh (r1.rep k.toNat)⟩
          · rw [if_neg c] at q; exact q.elim
        | _ => exact q.elim
    | _ => exact q.elim
  | _ => exact q.elim
theorem o_fdiv : OpR X (binaryOp .FloorDiv) (rM (binF .FloorDiv) X.K) := by
  refine o_int op_fdiv ?_
  intro a b h Q H ι q rh
  cases a <;> first | exact q.elim | skip
  cases b <;> first | exact q.elim | skip
  rename_i i j
  have q : PostE X.K ι H (if (decide (0 < j) && decide (j < 1073741824)) = true then .ok (.int (i / j)) h else .bad) Q := q
  by_cases c : (decide (0 < j) && decide (j < 1073741824)) = true
  · rw [if_pos c] at q
    simp only [Bool.and_eq_true, decide_eq_true_eq] at c
    exact ⟨i, j, rfl, rfl, c, q.val rh (.int _)⟩
  · rw [if_neg c] at q; exact q.elim
theorem o_mod : OpR X (binaryOp .Mod) (rM (binF .Mod) X.K) := by
  refine o_int op_mod ?_
  intro a b h Q H ι q rh
  cases a <;> first | exact q.elim | skip
  cases b <;> first | exact q.elim | skip
  rename_i i j
  have q : PostE X.K ι H (if decide (0 < j) = true then .ok (.int (i % j)) h else .bad) Q := q
  by_cases c : decide (0 < j) = true
  · rw [if_pos c] at q
    exact ⟨i, j, rfl, rfl, of_decide_eq_true c, q.val rh (.int _)⟩
  · rw [if_neg c] at q; exact q.elim
theorem o_pow : OpR X (binaryOp .Pow) (rM (binF .Pow) X.K) := by
  refine o_int op_pow ?_
  intro a b h Q H ι q rh
  cases a <;> first | exact q.elim | skip
  cases b <;> first | exact q.elim | skip
  rename_i i j
  have q : PostE X.K ι H (if (decide (0 ≤ j) && decide (j ≤ 1000000) && decide (i.natAbs < 2 ^ 64)) = true then .ok (.int (i ^ j.toNat)) h else .bad) Q := q
  by_cases c : (decide (0 ≤ j) && decide (j ≤ 1000000) && decide (i.natAbs < 2 ^ 64)) = true
  · rw [if_pos c] at q
    simp only [Bool.and_eq_true, decide_eq_true_eq] at c
    exact ⟨i, j, rfl, rfl, ⟨c.1.1, c.1.2, c.2⟩, q.val rh (.int _)⟩
  · rw [if_neg c] at q; exact q.elim
theorem o_xor : OpR X (binaryOp .BitXor) (rM (binF .BitXor) X.K) := by
  refine o_int (C := fun _ _ => True) (OpR.imp op_xor fun x y H Q ⟨i, j, e1, e2, _, q⟩ => ⟨i, j, e1, e2, q⟩) ?_
  intro a b h Q H ι q rh
  cases a <;> first | exact q.elim | skip
  cases b <;> first | exact q.elim | skip
  exact ⟨_, _, rfl, rfl, trivial, q.val rh (.int _)⟩
/-- the operators that are served -/
def opOk : Operator → Bool
  | .Add | .Sub | .Mult | .FloorDiv | .Mod | .Pow | .BitXor => true
  | _ => false
theorem o_bin {o : Operator} (e : opOk o = true) : OpR X (binaryOp o) (rM (binF o) X.K) := by
  cases o <;> first | exact o_add | exact o_sub | exact o_mul | exact o_fdiv | exact o_mod | exact o_pow | exact o_xor | cases e

/-! ## comparisons by values -/
def cmpR (o : CmpOp) (x y : D) (h : HS) : R D := ofO ((cmpF o x y h).map .bl) h
theorem cmpR_val {K : PySem.W.Frag} {o : CmpOp} {a b : D} {h : HS} {ι : List Addr} {H : Hp} {Q : VK} (q : PostE K ι H (cmpR o a b h) Q) (rh : RelH K ι h H) : ∃ k, cmpF o a b h = some k ∧ Q (.bl k) H := by
  unfold cmpR at q
  cases e : cmpF o a b h with
  | none => rw [e] at q; exact q.elim
  | some k =>
    rw [e] at q
    have q : PostE K ι H (.ok (.bl k) h) Q := q
    exact ⟨k, rfl, q.val rh (.bl k)⟩
theorem c_eq (hu : X.A.units + 64 < cLine) : OpR X (compareOp .Eq) (rM (cmpR .Eq) X.K) := by
  refine OpR.imp (op_eqD hu) ?_
  rintro x y H Q ⟨ι, h, a, b, rh, ra, rb, q⟩
  obtain ⟨k, e, q⟩ := cmpR_val q rh
  obtain ⟨d, e', e1, e2, s1, s2, rfl⟩ := eqD_some (show eqD h a b = some k from e)
  exact ⟨d, e', ra.dp rh e1, rb.dp rh e2, s1, s2, q⟩
theorem c_ne (hu : X.A.units + 64 < cLine) : OpR X (compareOp .NotEq) (rM (cmpR .NotEq) X.K) := by
  refine OpR.imp (op_neD hu) ?_
  rintro x y H Q ⟨ι, h, a, b, rh, ra, rb, q⟩
  obtain ⟨k, e, q⟩ := cmpR_val q rh
  have e0 : (eqD h a b).map (!·) = some k := e
  rw [Option.map_eq_some_iff] at e0
  obtain ⟨k', e3, rfl⟩ := e0
  obtain ⟨d, e', e1, e2, s1, s2, rfl⟩ := eqD_some e3
  exact ⟨d, e', ra.dp rh e1, rb.dp rh e2, s1, s2, q⟩
theorem c_int {o : CmpOp} {g : Int → Int → Bool} (ho : OpR X (compareOp o) (rI0 fun i j => .bl (g i j))) (hg : ∀ a b h k, cmpF o a b h = some k → ∃ i j, a = .int i ∧ b = .int j ∧ k = g i j) : OpR X (compareOp o) (rM (cmpR o) X.K) := by
  refine OpR.imp ho ?_
  rintro x y H Q ⟨ι, h, a, b, rh, ra, rb, q⟩
  obtain ⟨k, e, q⟩ := cmpR_val q rh
  obtain ⟨i, j, rfl, rfl, rfl⟩ := hg a b h k e
  cases ra; cases rb
  exact ⟨i, j, rfl, rfl, q⟩
theorem c_le : OpR X (compareOp .LtE) (rM (cmpR .LtE) X.K) := c_int op_le fun a b h k e => by
  cases a <;> cases b <;> simp [cmpF] at e
  exact ⟨_, _, rfl, rfl, e.symm⟩
theorem c_gt : OpR X (compareOp .Gt) (rM (cmpR .Gt) X.K) := c_int op_gt fun a b h k e => by
  cases a <;> cases b <;> simp [cmpF] at e
  exact ⟨_, _, rfl, rfl, e.symm⟩
theorem c_ge : OpR X (compareOp .GtE) (rM (cmpR .GtE) X.K) := c_int op_ge fun a b h k e => by
  cases a <;> cases b <;> simp [cmpF] at e
  exact ⟨_, _, rfl, rfl, e.symm⟩
theorem c_lt (hu : X.A.units < cLine) : OpR X (compareOp .Lt) (rM (cmpR .Lt) X.K) := by
  refine OpR.imp (L2.OpR.or op_lt (op_ltT hu)) ?_
  rintro x y H Q ⟨ι, h, a, b, rh, ra, rb, q⟩
  obtain ⟨k, e, q⟩ := cmpR_val q rh
  cases ra with
  | int i =>
    cases rb <;> simp [cmpF] at e
    subst e
    exact .inl ⟨_, _, rfl, rfl, q⟩
  | tup s r =>
    cases rb with
    | tup s' r' =>
      rename_i xs a vs ys b ws
      simp only [cmpF] at e
      cases e1 : intsD xs with
      | none => rw [e1] at e; cases e
      | some ns =>
        cases e2 : intsD ys with
        | none => rw [e1, e2] at e; cases e
        | some ms =>
          rw [e1, e2] at e
          have e : some (HT.lexLt ns ms) = some k := e
          cases e
          obtain ⟨z1, _⟩ := r.intsD e1
          obtain ⟨z2, _⟩ := r'.intsD e2
          subst z1; subst z2
          exact .inr ⟨a, b, ns, ms, rfl, rfl, SqT.of s, SqT.of s', q⟩
    | _ => simp [cmpF] at e
  | _ => simp [cmpF] at e
theorem Rp.non_iff {K : PySem.W.Frag} {ι : List Addr} {H : Hp} {d : D} {v : V} (r : Rp K ι H d v) : decide (v = .non) = decide (d = .non) := by
  cases r <;> simp
theorem c_is : OpR X (compareOp .Is) (rM (cmpR .Is) X.K) := by
  refine OpR.imp (L2.OpR.or op_isN op_isBl) ?_
  rintro x y H Q ⟨ι, h, a, b, rh, ra, rb, q⟩
  obtain ⟨k, e, q⟩ := cmpR_val q rh
  cases rb with
  | non =>
    have e : some (decide (a = .non)) = some k := by cases a <;> exact e
    cases e
    rw [← ra.non_iff] at q
    exact .inl ⟨rfl, q⟩
  | bl t =>
    cases ra <;> simp [cmpF] at e
    subst e
    refine .inr ⟨_, _, rfl, rfl, ?_⟩
    simpa using q
  | _ => cases ra <;> simp [cmpF] at e
theorem c_isnot : OpR X (compareOp .IsNot) (rM (cmpR .IsNot) X.K) := by
  refine OpR.imp (L2.OpR.or op_notN op_notBl) ?_
  rintro x y H Q ⟨ι, h, a, b, rh, ra, rb, q⟩
  obtain ⟨k, e, q⟩ := cmpR_val q rh
  cases rb with
  | non =>
    have e : some (!decide (a = .non)) = some k := by cases a <;> exact e
    cases e
    rw [← ra.non_iff] at q
    exact .inl ⟨rfl, q⟩
  | bl t =>
    cases ra <;> first | (simp [cmpF] at e; done) | skip
    rename_i u
    have e : some (!decide (u = t)) = some k := e
    cases e
    exact .inr ⟨_, _, rfl, rfl, q⟩
  | _ => cases ra <;> simp [cmpF] at e
/-! ### dicts -/
variable {pins : List (Addr × Obj)} {σ : St} {H : Hp} {s : Shared} {K : PySem.W.Frag} {ι : List Addr} {h : HS}
theorem Inv.retagT {a : Addr} (I : Inv X pins σ H s) (e : H a = some (.dK [])) : Inv X pins σ (upd H a (.dT [])) s := by
  have h0 := I.hok a _ e
  obtain ⟨_, hs, vs, rel, o, es, ep, q1, q2, q3, q4, q5, q6⟩ := h0
  cases rel
  have el : es.toList = [] := by
    cases hh : es.toList with
    | nil => rfl
    | cons x r => rw [hh] at q5; cases q5
  exact d_write (t' := s.toks) I (by rw [e]; exact True.intro) ⟨rfl, fun _ _ => rfl⟩ ⟨o, q1⟩ ⟨Nat.zero_le _, hs, [], .nil, o, es, ep, q1, q2, q3, by rw [el]; rfl, List.nodup_nil⟩
theorem Inv.retagK {a : Addr} (I : Inv X pins σ H s) (e : H a = some (.dT [])) : Inv X pins σ (upd H a (.dK [])) s := by
  have h0 := I.hok a _ e
  obtain ⟨_, hs, xs, rel, o, es, ep, q1, q2, q3, q4, q5⟩ := h0
  cases rel
  have el : es.toList = [] := by rw [q4]; rfl
  have ee : es = #[] := Array.toList_inj.mp (by rw [el])
  subst ee
  exact d_write (t' := s.toks) I (by rw [e]; exact True.intro) ⟨rfl, fun _ _ => rfl⟩ ⟨o, q1⟩ ⟨Nat.zero_le _, hs, [], .nil, o, #[], ep, q1, q2, q3, fun e he => absurd he (by simp), .nil, List.nodup_nil⟩
end
end Mi

namespace Mi
open PySem L2
section
variable {K : PySem.W.Frag} {ι : List Addr} {H : Hp} {h : HS} {a : Addr} {y v : V} {k d : D} {kvs : List (D × D)}
theorem keyD_of (e : keyD k = true) : ∃ kk, keyOf k = some kk := by
  cases k <;> first | exact ⟨_, rfl⟩ | (simp [keyD] at e)
theorem keyOf_D {kk : Key} (e : keyOf k = some kk) : keyD k = true := by
  cases k <;> first | rfl | (simp [keyOf] at e)
theorem keyOf_inj {k' : D} {kk : Key} (e : keyOf k = some kk) (e' : keyOf k' = some kk) : k = k' := by
  cases k <;> simp [keyOf] at e <;> cases k' <;> simp [keyOf] at e' <;> subst e <;> simp at e' <;> subst e' <;> rfl
theorem keyOf_rp {kk : Key} (e : keyOf k = some kk) (r : Rp K ι H k y) : y = kV kk := by
  cases r <;> simp [keyOf] at e <;> subst e <;> rfl
theorem keysD_of : ∀ {xs : List D}, xs.all keyD = true → ∃ ks, keysOf xs = some ks
  | [], _ => ⟨[], rfl⟩
  | x :: r, e => by
    simp only [List.all_cons, Bool.and_eq_true] at e
    obtain ⟨kk, e1⟩ := keyD_of e.1
    obtain ⟨ks, e2⟩ := keysD_of e.2
    exact ⟨kk :: ks, by simp [keysOf, e1, e2]⟩
theorem keysOf_cons {x : D} {r : List D} {ks : List Key} (e : keysOf (x :: r) = some ks) : ∃ a b, keyOf x = some a ∧ keysOf r = some b ∧ ks = a :: b := by
  cases e1 : keyOf x with
  | none => simp [keysOf, e1] at e
  | some a =>
    cases e2 : keysOf r with
    | none => simp [keysOf, e1, e2] at e
    | some b => simp [keysOf, e1, e2] at e; exact ⟨a, b, rfl, rfl, e.symm⟩
theorem keysOf_inj : ∀ {xs ys : List D} {ks : List Key}, keysOf xs = some ks → keysOf ys = some ks → xs = ys
  | [], [], _, _, _ => rfl
  | [], y :: s, ks, e, e' => by
    obtain ⟨_, _, _, _, rfl⟩ := keysOf_cons e'
    simp [keysOf] at e
  | x :: r, [], ks, e, e' => by
    obtain ⟨_, _, _, _, rfl⟩ := keysOf_cons e
    simp [keysOf] at e'
  | x :: r, y :: s, ks, e, e' => by
    obtain ⟨a, b, h1, h2, rfl⟩ := keysOf_cons e
    obtain ⟨a', b', h1', h2', z⟩ := keysOf_cons e'
    cases z
    rw [keyOf_inj h1 h1', keysOf_inj h2 h2']
theorem keysOf_rp : ∀ {xs : List D} {vs : List V} {ks : List Key}, keysOf xs = some ks → RpL K ι H xs vs → vs = ks.map kV
  | [], _, ks, e, .nil => by simp [keysOf] at e; subst e; rfl
  | x :: r, _, ks, e, .cons q s => by
    obtain ⟨a, b, h1, h2, rfl⟩ := keysOf_cons e
    rw [keyOf_rp h1 q, keysOf_rp h2 s]; rfl
theorem tkeyD_of (e : tkeyD k = true) : ∃ kk, tkeyOf k = some kk := by
  cases k <;> first | (simp [tkeyD] at e; done) | exact keysD_of e
theorem tkeyOf_inj {k' : D} {kk : List Key} (e : tkeyOf k = some kk) (e' : tkeyOf k' = some kk) : k = k' := by
  cases k <;> first | (simp [tkeyOf] at e; done) | skip
  cases k' <;> first | (simp [tkeyOf] at e'; done) | skip
  exact congrArg D.tup (keysOf_inj e e')
theorem tkeyOf_rp {kk : List Key} (e : tkeyOf k = some kk) (r : Rp K ι H k y) : ∃ b, y = .ref b ∧ H b = some (.tup (kk.map kV)) := by
  cases r <;> first | (simp [tkeyOf] at e; done) | skip
  rename_i s r
  rw [keysOf_rp e r] at s
  exact ⟨_, rfl, s⟩
/-- the value at a key -/
def OptR (K : PySem.W.Frag) (ι : List Addr) (H : Hp) : Option D → Option V → Prop
  | none, none => True
  | some d, some v => Rp K ι H d v
  | _, _ => False
theorem get_rel {κ : Type} [DecidableEq κ] {F : D → Option κ} (inj : ∀ a b x, F a = some x → F b = some x → a = b) {kk : κ} (e : F k = some kk) :
    ∀ {kvs : List (D × D)} {ks : List (κ × V)}, Paired (fun p q => F p.1 = some q.1 ∧ Rp K ι H p.2 q.2) kvs ks → OptR K ι H (getK kvs k) (valV ks kk)
  | _, _, .nil => trivial
  | _, _, .cons (b := q) (a := p) (l₁ := r) (l₂ := s) z t => by
    have ih := get_rel inj e t
    by_cases c : p.1 = k
    · have c' : q.1 = kk := by have := z.1; rw [c, e] at this; exact (Option.some.inj this).symm
      rw [valV_pos c']
      have : getK (p :: r) k = some p.2 := by simp [getK, List.find?_cons, c]
      rw [this]; exact z.2
    · have c' : ¬ q.1 = kk := fun w => c (inj _ _ _ z.1 (by rw [w]; exact e))
      rw [valV_neg c']
      have : getK (p :: r) k = getK r k := by simp [getK, List.find?_cons, c]
      rw [this]; exact ih
theorem any_rel {κ : Type} [DecidableEq κ] {F : D → Option κ} (inj : ∀ a b x, F a = some x → F b = some x → a = b) {kk : κ} (e : F k = some kk) :
    ∀ {kvs : List (D × D)} {ks : List (κ × V)}, Paired (fun p q => F p.1 = some q.1 ∧ Rp K ι H p.2 q.2) kvs ks → (kvs.any fun kv => decide (kv.1 = k)) = ks.any fun kv => decide (kv.1 = kk)
  | _, _, .nil => rfl
  | _, _, .cons (b := q) (a := p) (l₁ := r) (l₂ := s) z t => by
    rw [List.any_cons, List.any_cons, any_rel inj e t]
    congr 1
    by_cases c : p.1 = k
    · have c' : q.1 = kk := by have := z.1; rw [c, e] at this; exact (Option.some.inj this).symm
      simp [c, c']
    · have c' : ¬ q.1 = kk := fun w => c (inj _ _ _ z.1 (by rw [w]; exact e))
      simp [c, c']
theorem map_rel {κ : Type} [DecidableEq κ] {F : D → Option κ} (inj : ∀ a b x, F a = some x → F b = some x → a = b) {kk : κ} (e : F k = some kk) (rd : Rp K ι H d v) :
    ∀ {kvs : List (D × D)} {ks : List (κ × V)}, Paired (fun p q => F p.1 = some q.1 ∧ Rp K ι H p.2 q.2) kvs ks →
      Paired (fun p q => F p.1 = some q.1 ∧ Rp K ι H p.2 q.2) (kvs.map fun kv => if kv.1 = k then (kv.1, d) else kv) (ks.map fun kv => if kv.1 = kk then (kv.1, v) else kv)
  | _, _, .nil => .nil
  | _, _, .cons (b := q) (a := p) (l₁ := r) (l₂ := s) z t => by
    refine .cons ?_ (map_rel inj e rd t)
    by_cases c : p.1 = k
    · have c' : q.1 = kk := by have := z.1; rw [c, e] at this; exact (Option.some.inj this).symm
      dsimp only; rw [if_pos c, if_pos c']; exact ⟨z.1, rd⟩
    · have c' : ¬ q.1 = kk := fun w => c (inj _ _ _ z.1 (by rw [w]; exact e))
      dsimp only; rw [if_neg c, if_neg c']; exact z
theorem Paired.snoc {α β : Type} {F : α → β → Prop} {x : α} {y : β} (r : F x y) : ∀ {l : List α} {m : List β}, Paired F l m → Paired F (l ++ [x]) (m ++ [y])
  | _, _, .nil => .cons r .nil
  | _, _, .cons q t => .cons q (Paired.snoc r t)
theorem put_rel {κ : Type} [DecidableEq κ] {F : D → Option κ} (inj : ∀ a b x, F a = some x → F b = some x → a = b) {kk : κ} (e : F k = some kk) (rd : Rp K ι H d v) {kvs : List (D × D)} {ks : List (κ × V)}
    (r : Paired (fun p q => F p.1 = some q.1 ∧ Rp K ι H p.2 q.2) kvs ks) : Paired (fun p q => F p.1 = some q.1 ∧ Rp K ι H p.2 q.2) (putK kvs k d) (L2.putK ks kk v) := by
  unfold putK L2.putK
  rw [any_rel inj e r]
  split
  · exact map_rel inj e rd r
  · exact Paired.snoc ⟨e, rd⟩ r
theorem Paired.len {α β : Type} {F : α → β → Prop} : ∀ {l : List α} {m : List β}, Paired F l m → l.length = m.length
  | _, _, .nil => rfl
  | _, _, .cons _ t => congrArg (· + 1) (Paired.len t)
theorem tkey_not {k : D} (e : tkeyD k = true) : keyOf k = none := by cases k <;> first | rfl | (simp [tkeyD] at e)
theorem key_not {k : D} (e : keyD k = true) : tkeyOf k = none := by cases k <;> first | rfl | (simp [keyD] at e)
end
section
variable {X : Cx} {pins : List (Addr × Obj)} {σ : St} {H : Hp} {s : Shared} {ι : List Addr} {h : HS} {a : Addr} {y : V} {k : D} {kvs : List (D × D)} {n : Nat}
/-- a dict of a kind that fits the key -/
def DctK (X : Cx) (ι : List Addr) (H : Hp) (kvs : List (D × D)) (a : Addr) (k : D) : Prop :=
  (∃ ks kk, H a = some (.dK ks) ∧ Paired (fun p q => keyOf p.1 = some q.1 ∧ Rp X.K ι H p.2 q.2) kvs ks ∧ keyOf k = some kk) ∨
  (∃ ks kk, H a = some (.dT ks) ∧ Paired (fun p q => tkeyOf p.1 = some q.1 ∧ Rp X.K ι H p.2 q.2) kvs ks ∧ tkeyOf k = some kk)
/-- (an empty dict may be either kind) -/
theorem dct_fit (I : Inv X pins σ H s) (rh : RelH X.K ι h H) (ha : ι[n]? = some a) (hc : h[n]? = some (.dct kvs)) (ok : keyOk kvs k = true) :
    ∃ H', Inv X pins σ H' s ∧ Ext ι H ι H' ∧ RelH X.K ι h H' ∧ DctK X ι H' kvs a k := by
  have rc : DctR X.K ι H kvs a := rh.cell n _ a hc ha
  unfold keyOk at ok
  rw [Bool.or_eq_true, Bool.and_eq_true, Bool.and_eq_true] at ok
  have hset : h.set n (.dct kvs) = h := by
    obtain ⟨hn, e⟩ := List.getElem?_eq_some_iff.mp hc
    rw [← e]; exact List.set_getElem_self hn
  rcases rc with ⟨ks, e, r⟩ | ⟨ks, e, r⟩
  · rcases ok with ⟨o1, o2⟩ | ⟨o1, o2⟩
    · obtain ⟨kk, e1⟩ := keyD_of o1
      exact ⟨H, I, Ext.refl, rh, .inl ⟨ks, kk, e, r, e1⟩⟩
    · cases r with
      | nil =>
        obtain ⟨kk, e1⟩ := tkeyD_of o1
        refine ⟨_, Inv.retagT I e, Ext.write ha, ?_, .inr ⟨[], kk, upd_same, .nil, e1⟩⟩
        have := rh.write (o := .dT []) (c := .dct []) ha (.inr ⟨[], upd_same, .nil⟩)
        rw [hset] at this; exact this
      | cons z t =>
        rw [List.all_cons, Bool.and_eq_true] at o2
        rw [tkey_not o2.1] at z; cases z.1
  · rcases ok with ⟨o1, o2⟩ | ⟨o1, o2⟩
    · cases r with
      | nil =>
        obtain ⟨kk, e1⟩ := keyD_of o1
        refine ⟨_, Inv.retagK I e, Ext.write ha, ?_, .inl ⟨[], kk, upd_same, .nil, e1⟩⟩
        have := rh.write (o := .dK []) (c := .dct []) ha (.inl ⟨[], upd_same, .nil⟩)
        rw [hset] at this; exact this
      | cons z t =>
        rw [List.all_cons, Bool.and_eq_true] at o2
        rw [key_not o2.1] at z; cases z.1
    · obtain ⟨kk, e1⟩ := tkeyD_of o1
      exact ⟨H, I, Ext.refl, rh, .inr ⟨ks, kk, e, r, e1⟩⟩
theorem DctK.get (r : DctK X ι H kvs a k) (rk : Rp X.K ι H k y) : ∃ o, DGet H a y o ∧ OptR X.K ι H (getK kvs k) o := by
  rcases r with ⟨ks, kk, e, r, e1⟩ | ⟨ks, kk, e, r, e1⟩
  · have := keyOf_rp e1 rk; subst this
    exact ⟨_, DGet.k e, get_rel (fun a b x => keyOf_inj) e1 r⟩
  · obtain ⟨b, rfl, eb⟩ := tkeyOf_rp e1 rk
    exact ⟨_, DGet.t e eb, get_rel (fun a b x => tkeyOf_inj) e1 r⟩
theorem OptR.some {K : PySem.W.Frag} {o : Option D} {o' : Option V} (r : OptR K ι H o o') : o'.isSome = o.isSome := by
  cases o <;> cases o' <;> first | rfl | exact r.elim
theorem DctK.put {d : D} {v : V} (r : DctK X ι H kvs a k) (rk : Rp X.K ι H k y) (rd : Rp X.K ι H d v) (rh : RelH X.K ι h H) (ha : ι[n]? = Option.some a) (hl : kvs.length < LIM) :
    ∃ o, DPut H a y v (upd H a o) ∧ RelH X.K ι (h.set n (.dct (putK kvs k d))) (upd H a o) := by
  have ew : ∀ o, Ext ι H ι (upd H a o) := fun o => Ext.write ha
  rcases r with ⟨ks, kk, e, r, e1⟩ | ⟨ks, kk, e, r, e1⟩
  · have := keyOf_rp e1 rk; subst this
    refine ⟨_, DPut.k e (by rw [← LIM_line, ← Paired.len r]; exact hl), rh.write ha (.inl ⟨_, upd_same, ?_⟩)⟩
    exact Paired.mapX (fun p q z => ⟨z.1, z.2.ext (ew _) rh.mut⟩) (put_rel (fun a b x => keyOf_inj) e1 rd r)
  · obtain ⟨b, rfl, eb⟩ := tkeyOf_rp e1 rk
    refine ⟨_, DPut.t e eb (by rw [← LIM_line, ← Paired.len r]; exact hl), rh.write ha (.inr ⟨_, upd_same, ?_⟩)⟩
    exact Paired.mapX (fun p q z => ⟨z.1, z.2.ext (ew _) rh.mut⟩) (put_rel (fun a b x => tkeyOf_inj) e1 rd r)
end
end Mi

namespace Mi
open PySem L2
section
variable {K : PySem.W.Frag} {ι : List Addr} {H : Hp} {h : HS}
theorem flat_rp {d : D} {v : V} (e : flatD d = true) (r : Rp K ι H d v) : flatV v = true := by
  cases r <;> first | rfl | (simp [flatD] at e)
theorem flats_rp : ∀ {xs : List D} {vs : List V}, xs.all flatD = true → RpL K ι H xs vs → vs.all flatV = true
  | _, _, _, .nil => rfl
  | _, _, e, .cons r t => by
    rw [List.all_cons, Bool.and_eq_true] at e
    rw [List.all_cons, flat_rp e.1 r, flats_rp e.2 t]; rfl
theorem eqF_rp {a b : D} {v w : V} (ea : flatD a = true) (eb : flatD b = true) (ra : Rp K ι H a v) (rb : Rp K ι H b w) : eqV v w = eqF a b := by
  cases ra <;> first | (simp [flatD] at ea; done) | skip
  all_goals (cases rb <;> first | (simp [flatD] at eb; done) | rfl)
theorem in_rp {x : D} {v : V} (ex : flatD x = true) (rx : Rp K ι H x v) : ∀ {xs : List D} {vs : List V}, xs.all flatD = true → RpL K ι H xs vs → inV v vs = xs.any fun z => eqF z x
  | _, _, _, .nil => rfl
  | _, _, e, .cons r t => by
    rw [List.all_cons, Bool.and_eq_true] at e
    have ih := in_rp ex rx e.2 t
    unfold inV at ih ⊢
    rw [List.any_cons, List.any_cons, ih, eqF_rp e.1 ex r rx]
end
section
variable {X : Cx}
theorem c_inG (hu : X.A.units + 64 < cLine) (neg : Bool) : OpR X (compareOp (if neg then .NotIn else .In)) (rM (cmpR (if neg then .NotIn else .In)) X.K) := by
  intro pins s σ H x y v u Q I rx ry hq
  obtain ⟨ι, h, a, b, rh, ra, rb, q⟩ := hq
  obtain ⟨k, ek, qk⟩ := cmpR_val q rh
  have e : ∃ k', cmpF.inF a b h = some k' ∧ k = (if neg then !k' else k') := by
    cases neg
    · exact ⟨k, ek, rfl⟩
    · have e0 : (cmpF.inF a b h).map (!·) = some k := ek
      rw [Option.map_eq_some_iff] at e0
      obtain ⟨k', e3, rfl⟩ := e0
      exact ⟨k', e3, rfl⟩
  clear ek
  obtain ⟨k', e, rfl⟩ := e
  have seq : ∀ (xs : List D) (p : Addr) (vs : List V), (if flatD a && xs.all flatD then some (xs.any fun z => eqF z a) else none) = some k' → y = .ref p → (SqL X.K H p vs ∨ SqT X.K H p vs) → RpL X.K ι H xs vs →
      wpAny (model X.prog X.w) X.A (compareOp (if neg then .NotIn else .In) v u) (EP X pins σ Q) X.xe s := by
    intro xs p vs e ey sq r
    by_cases c : (flatD a && xs.all flatD) = true
    · rw [if_pos c] at e; cases e
      rw [Bool.and_eq_true] at c
      have hi := in_rp c.1 ra c.2 r
      cases neg
      · exact op_in_seq pins s σ H x y v u Q I rx ry ⟨p, vs, ey, sq, flat_rp c.1 ra, flats_rp c.2 r, by rw [hi]; exact qk⟩
      · exact op_notIn_seq pins s σ H x y v u Q I rx ry ⟨p, vs, ey, sq, flat_rp c.1 ra, flats_rp c.2 r, by rw [hi]; exact qk⟩
    · rw [if_neg c] at e; cases e
  cases rb with
  | str j =>
    cases ra with
    | str i =>
      have e : some (!(Builtin.Str.occurrences j i 0 j.length 1).isEmpty) = some k' := e
      cases e
      cases neg
      · exact op_in_str pins s σ H _ _ v u Q I rx ry ⟨i, j, rfl, rfl, qk⟩
      · exact L2.op_notIn_str pins s σ H _ _ v u Q I rx ry ⟨i, j, rfl, rfl, qk⟩
    | _ => cases e
  | tup sb r => exact seq _ _ _ e rfl (.inr (SqT.of sb)) r
  | kt sb r => exact seq _ _ _ e rfl (.inr sb.sq) r
  | ref er =>
    rename_i n p
    have e : (match h[n]? with
      | some (.lst xs) => if flatD a && xs.all flatD then some (xs.any fun z => eqF z a) else none
      | some (.dct kvs) => if keyOk kvs a then some (getK kvs a).isSome else none
      | _ => none) = some k' := e
    cases hc : h[n]? with
    | none => rw [hc] at e; cases e
    | some c =>
      rw [hc] at e
      cases c with
      | lst xs =>
        obtain ⟨_, vs, z, _, e1, r1⟩ := (Rp.ref er : Rp X.K ι H _ _).lstOf rh hc
        cases z
        exact seq xs p vs e rfl (.inl (SqL.of e1)) r1
      | dct kvs =>
        have e : (if keyOk kvs a = true then some (getK kvs a).isSome else none) = some k' := e
        by_cases c : keyOk kvs a = true
        · rw [if_pos c] at e; cases e
          obtain ⟨H', I', ex, rh', dk⟩ := dct_fit I rh er hc c
          obtain ⟨o, g, ro⟩ := dk.get (ra.ext ex rh.mut)
          have qq : ∀ b, Q (.bl b) H → True := fun _ _ => trivial
          have q2 : PostE X.K ι H' (.ok (.bl (if neg then !(getK kvs a).isSome else (getK kvs a).isSome)) h) Q := by
            have : cmpR (if neg then .NotIn else .In) a (.ref n) h = .ok (.bl (if neg then !(getK kvs a).isSome else (getK kvs a).isSome)) h := by
              have hin : cmpF.inF a (.ref n) h = some (getK kvs a).isSome := by
                show (match h[n]? with
                  | some (.lst xs) => if flatD a && xs.all flatD then some (xs.any fun z => eqF z a) else none
                  | some (.dct kvs) => if keyOk kvs a then some (getK kvs a).isSome else none
                  | _ => none) = _
                rw [hc]
                show (if keyOk kvs a = true then some (getK kvs a).isSome else none) = _
                rw [if_pos c]
              cases neg
              · show ofO ((cmpF.inF a (.ref n) h).map D.bl) h = _
                rw [hin]; rfl
              · show ofO (((cmpF.inF a (.ref n) h).map (!·)).map D.bl) h = _
                rw [hin]; rfl
            rw [this] at q
            exact q.shift ex rh'.mut
          have q3 := q2.val rh' (.bl _)
          rw [← ro.some] at q3
          cases ry
          cases neg
          · exact d_in (by omega) I' g rx fun s' I2 => ⟨V.bl o.isSome, H', I2, rfl, q3⟩
          · exact d_notIn (by omega) I' g rx fun s' I2 => ⟨V.bl (!o.isSome), H', I2, rfl, q3⟩
        · rw [if_neg c] at e; cases e
      | ins _ _ => cases e
  | non => cases e
  | bl _ => cases e
  | int _ => cases e
  | fz _ => cases e
theorem c_in (hu : X.A.units + 64 < cLine) : OpR X (compareOp .In) (rM (cmpR .In) X.K) := c_inG hu false
theorem c_notin (hu : X.A.units + 64 < cLine) : OpR X (compareOp .NotIn) (rM (cmpR .NotIn) X.K) := c_inG hu true
theorem c_cmp (hu : X.A.units + 64 < cLine) (o : CmpOp) : OpR X (compareOp o) (rM (cmpR o) X.K) := by
  cases o
  · exact c_eq hu
  · exact c_ne hu
  · exact c_lt (by omega)
  · exact c_le
  · exact c_gt
  · exact c_ge
  · exact c_is
  · exact c_isnot
  · exact c_in hu
  · exact c_notin hu
/-! ## subscripts -/
theorem atI_rp {K : PySem.W.Frag} {ι : List Addr} {H : Hp} {xs : List D} {vs : List V} {i : Int} {d : D} (r : RpL K ι H xs vs) (e : atI xs i = some d) : ∃ v, atI vs i = some v ∧ Rp K ι H d v := by
  unfold atI at e ⊢
  rw [← r.length]
  cases hn : ixN xs.length i with
  | none => rw [hn] at e; cases e
  | some j =>
    rw [hn] at e
    obtain ⟨v, e1, r1⟩ := r.get (i := j) e
    exact ⟨v, e1, r1⟩
theorem ofO_some {K : PySem.W.Frag} {ι : List Addr} {H : Hp} {h : HS} {o : Option D} {Q : VK} (q : PostE K ι H (ofO o h) Q) : ∃ d, o = some d ∧ PostE K ι H (.ok d h) Q := by
  cases o with
  | none => exact q.elim
  | some d => exact ⟨d, rfl, q⟩
theorem x_ix (hu : X.A.units + 64 < cLine) : IxR X (rM ixF X.K) := by
  intro value slice pins s σ H x y v u Q I rx ry hq hs
  obtain ⟨ι, h, a, b, rh, ra, rb, q⟩ := hq
  cases ra with
  | tup sa r =>
    cases rb with
    | int i =>
      obtain ⟨d, e, q⟩ := ofO_some (K := X.K) (ι := ι) (H := H) (h := h) (Q := Q) q
      obtain ⟨w, e1, r1⟩ := atI_rp r e
      exact ix_tup value slice pins s σ H _ _ v u Q I rx ry ⟨_, _, _, w, rfl, rfl, SqT.of sa, e1, q.val rh r1⟩ hs
    | _ => exact q.elim
  | kt sa r =>
    cases rb with
    | int i =>
      obtain ⟨d, e, q⟩ := ofO_some (K := X.K) (ι := ι) (H := H) (h := h) (Q := Q) q
      obtain ⟨w, e1, r1⟩ := atI_rp r e
      exact ix_tup value slice pins s σ H _ _ v u Q I rx ry ⟨_, _, _, w, rfl, rfl, sa.sq, e1, q.val rh r1⟩ hs
    | _ => exact q.elim
  | fz f =>
    rename_i ns p
    cases rb with
    | int i =>
      obtain ⟨d, e, q⟩ := ofO_some (K := X.K) (ι := ι) (H := H) (h := h) (Q := Q) q
      have e : atI (ns.map D.int) i = some d := by
        unfold atI at e ⊢
        rw [List.length_map]
        rw [Option.map_eq_some_iff] at e
        obtain ⟨z, e, rfl⟩ := e
        cases hn : ixN ns.length i with
        | none => rw [hn] at e; cases e
        | some j =>
          rw [hn] at e
          show (ns.map D.int)[j]? = _
          rw [List.getElem?_map]
          have e : ns[j]? = some z := e
          rw [e]; rfl
      obtain ⟨w, e1, r1⟩ := atI_rp (K := X.K) (ι := ι) (H := H) RpL.ints e
      exact ix_list value slice pins s σ H _ _ v u Q I rx ry ⟨_, _, _, w, rfl, rfl, f.sq, e1, q.val rh r1⟩ hs
    | _ => exact q.elim
  | str z =>
    cases rb with
    | int i =>
      have q : PostE X.K ι H (if z.length ≤ LIM then ofO ((atI z.cps.toList i).map fun c => .str ⟨#[c]⟩) h else .bad) Q := q
      by_cases c : z.length ≤ LIM
      · rw [if_pos c] at q
        obtain ⟨d, e, q⟩ := ofO_some q
        rw [Option.map_eq_some_iff] at e
        obtain ⟨w, e, rfl⟩ := e
        exact ix_str value slice pins s σ H _ _ v u Q I rx ry ⟨z, i, w, rfl, rfl, by rw [← LIM_line]; exact c, e, q.val rh (.str _)⟩ hs
      · rw [if_neg c] at q; exact q.elim
    | _ => exact q.elim
  | ref er =>
    rename_i n p
    simp only [ixF] at q
    cases hc : h[n]? with
    | none => rw [hc] at q; exact q.elim
    | some c =>
      rw [hc] at q
      cases c with
      | lst xs =>
        obtain ⟨_, vs, z, _, e1, r1⟩ := (Rp.ref er : Rp X.K ι H _ _).lstOf rh hc
        cases z
        cases rb with
        | int i =>
          obtain ⟨d, e, q⟩ := ofO_some (K := X.K) (ι := ι) (H := H) (h := h) (Q := Q) q
          obtain ⟨w, e2, r2⟩ := atI_rp r1 e
          exact ix_list value slice pins s σ H _ _ v u Q I rx ry ⟨_, _, _, w, rfl, rfl, SqL.of e1, e2, q.val rh r2⟩ hs
        | _ => exact q.elim
      | dct kvs =>
        have q : PostE X.K ι H (if keyOk kvs b = true then ofO (getK kvs b) h else .bad) Q := q
        by_cases c : keyOk kvs b = true
        · rw [if_pos c] at q
          obtain ⟨d, e, q⟩ := ofO_some q
          obtain ⟨H', I', ex, rh', dk⟩ := dct_fit I rh er hc c
          obtain ⟨o, g, ro⟩ := dk.get (rb.ext ex rh.mut)
          rw [e] at ro
          cases o with
          | none => exact ro.elim
          | some w =>
            have q3 := PostE.val (K := X.K) (q.shift ex rh'.mut) rh' ro
            cases rx
            unfold PyProof.Rows.subscriptTail
            refine wpAny_bind ?_
            have hT := dict_typeIs I' g
            rw [getitemInPython_of_ne hT.not_modules]
            refine wpAny_bind (wpAny_specialOf hT PySem.F.slot_dict_getitem.lookup ?_)
            have fin : wpAny (model X.prog X.w) X.A (subscripted slice false (.ref p) u) (fun r s₃ => wpAny (model X.prog X.w) X.A (letTemporaryGo value (.ref p) r >>= fun _ => pure r) (EP X pins σ Q) X.xe s₃) X.xe s := by
              rw [hs]
              exact wpAny_operating (wpAny_mono (d_getItem (Q := fun w' s' => EP X pins σ Q w' s') (by omega) I' g ry fun w' s' I2 rw' => ⟨w, H', I2, rw', q3⟩) (fun r s₃ h₃ => wpAny_bind (wpAny_letTemporaryGo (wpAny_pure h₃))) fun _ _ x => x)
            first
              | exact wpAny_pure (wpAny_bind fin)
              | exact wpAny_bind (wpAny_pure (wpAny_bind fin))
              | exact wpAny_bind fin
        · rw [if_neg c] at q; exact q.elim
      | ins _ _ => exact q.elim
  | non => exact q.elim
  | bl _ => exact q.elim
  | int _ => exact q.elim
/-! ## slices -/
def sM (f : D → Option Int → Option Int → HS → R D) (K : PySem.W.Frag) : V → Option Int → Option Int → Hp → VK → Prop := fun x lo hi H Q => ∃ ι h a, RelH K ι h H ∧ Rp K ι H a x ∧ PostE K ι H (f a lo hi h) Q
theorem RpL.cut {K : PySem.W.Frag} {ι : List Addr} {H : Hp} {xs : List D} {vs : List V} (r : RpL K ι H xs vs) (lo hi : Option Int) : RpL K ι H (cutD xs lo hi) (cutV vs lo hi) := by
  unfold cutD cutV
  rw [← r.length]
  exact (r.drop _).take _
theorem cutD_whole {xs : List D} {lo hi : Option Int} (h : HT.sIx xs.length 0 lo = 0 ∧ HT.sIx xs.length xs.length hi = xs.length) : cutD xs lo hi = xs := by
  unfold cutD
  rw [h.1, h.2]; simp
theorem s_sl : SlR X (sM slF X.K) := by
  intro pins s σ H x v vl vu lo hi sl Q I rx hs pl pu hq
  obtain ⟨ι, h, a, rh, ra, q⟩ := hq
  cases ra with
  | tup sa r =>
    rename_i xs p vs
    refine sl_tupA pins s σ H _ v vl vu lo hi sl Q I rx hs pl pu ⟨p, vs, rfl, SqT.of sa, fun w => ?_, fun _ => ?_⟩
    · rw [← r.length] at w
      have q : PostE X.K ι H (.ok (.tup (cutD xs lo hi)) h) Q := q
      rw [cutD_whole w] at q
      exact q.val rh (.tup sa r)
    · exact PostE.newT (K := X.K) q rh (r.cut lo hi)
  | ref er =>
    rename_i n p
    simp only [slF] at q
    cases hc : h[n]? with
    | none => rw [hc] at q; exact q.elim
    | some c =>
      rw [hc] at q
      cases c with
      | lst xs =>
        obtain ⟨_, vs, z, _, e1, r1⟩ := (Rp.ref er : Rp X.K ι H _ _).lstOf rh hc
        cases z
        exact sl_list pins s σ H _ v vl vu lo hi sl Q I rx hs pl pu ⟨p, vs, rfl, SqL.of e1, PostE.newL (K := X.K) q rh (r1.cut lo hi)⟩
      | _ => exact q.elim
  | _ => exact q.elim
/-! ## stores -/
def setM (K : PySem.W.Frag) : V → V → V → Hp → (Hp → Prop) → Prop := fun o i v H Q => ∃ ι h a b d h1, RelH K ι h H ∧ Rp K ι H a o ∧ Rp K ι H b i ∧ Rp K ι H d v ∧ setF a b d h = .ok () h1 ∧ ∀ H1, Ext ι H ι H1 → RelH K ι h1 H1 → Q H1
theorem set_any (hu : X.A.units + 64 < cLine) : PSet X (setM X.K) := by
  intro pins s σ H o i v ov iv u Q I ro ri rv hq
  obtain ⟨ι, h, a, b, d, h1, rh, ra, rb, rd, e, q⟩ := hq
  cases ra with
  | ref er =>
    rename_i n p
    simp only [setF] at e
    cases hc : h[n]? with
    | none => rw [hc] at e; cases e
    | some c =>
      rw [hc] at e
      cases c with
      | lst xs =>
        obtain ⟨_, vs, z, _, e1, r1⟩ := (Rp.ref er : Rp X.K ι H _ _).lstOf rh hc
        cases z
        cases rb with
        | int k =>
          cases hj : ixN xs.length k with
          | none => simp only [hj] at e; cases e
          | some j =>
            simp only [hj] at e
            cases e
            refine set_list pins s σ H _ _ v ov iv u Q I ro ri rv ⟨p, vs, k, j, rfl, rfl, e1, by rw [← r1.length]; exact hj, ?_⟩
            have ex : Ext ι H ι (upd H p (.lst (vs.set j v))) := Ext.write er
            exact q _ ex (rh.write er ⟨_, upd_same, (RpL.set rd j r1).ext ex rh.mut⟩)
        | _ => cases e
      | dct kvs =>
        have e : (if (keyOk kvs b && decide (kvs.length < LIM)) = true then R.ok () (h.set n (.dct (putK kvs b d))) else .bad) = R.ok () h1 := e
        by_cases c : (keyOk kvs b && decide (kvs.length < LIM)) = true
        · rw [if_pos c] at e; cases e
          rw [Bool.and_eq_true, decide_eq_true_eq] at c
          obtain ⟨H', I', ex, rh', dk⟩ := dct_fit I rh er hc c.1
          obtain ⟨ob, g, rh2⟩ := dk.put (rb.ext ex rh.mut) (rd.ext ex rh.mut) rh' er c.2
          cases ro
          refine d_setItem (by omega) I' g ri rv fun s' I2 => ⟨_, I2, q _ (ex.trans rh'.mut (Ext.write er)) rh2⟩
        · rw [if_neg c] at e; cases e
      | ins _ _ => cases e
  | _ => cases e
end
end Mi

namespace MiS
open PySem PyProof.Rows Srt SrtO
section
variable {prog : Program} {w : World} {A : Around} {E : Value → Shared → Prop} {s : Shared}
theorem collect_tup {l : Addr} {vs : List Value} {Q : List Value → Shared → Prop} (hl : IsTup s.heap l vs.toArray)
    (h : Q vs { s with heap := (s.heap.push (seqObj "list" #[] 0)).update s.heap.objs.size (Obj.mapSeq (· ++ vs.toArray)) }) (hsz : vs.length ≤ sizeLine) :
    wpAny (model prog w) A (collect (.ref l)) Q E s := by
  obtain ⟨o, ho, hc, n, hd⟩ := id hl
  unfold collect
  refine wpAny_bind (wpAny_runValue (codeAny_builtin entry_proto_collect' ?_))
  show wpAny _ _ (do again (.builtin "list.__iadd__" ⟨[← newList [], .ref l], []⟩)) _ _ s
  refine wpAny_bind (wpAny_newList (wpAny_pure ⟨Code.quiet_builtin _ (by decide +kernel), codeAny_builtin entry_list_iadd' ?_⟩))
  show wpAny _ _ (Builtin.List.listExtendWith (.ref s.heap.objs.size) (.ref l) (.ref s.heap.objs.size)) _ _ { s with heap := s.heap.push (seqObj "list" #[] 0) }
  unfold Builtin.List.listExtendWith
  have ho' : (s.heap.push (seqObj "list" #[] 0)).get? l = some o := Heap.get?_push_of_some _ ho
  refine wpAny_bind (wpAny_typeOf (T := "tuple") ⟨o, ho', hc⟩ ?_)
  have ht : (Value.type "tuple" == Value.type "tuple") = true := by rfl
  rw [if_pos (by rw [ht]; simp)]
  refine wpAny_bind (listItems_at ho' hd ?_)
  refine wpAny_bind (listItems_at (xs := #[]) (n := 0) (Heap.get?_push_size _ rfl) rfl ?_)
  rw [if_neg (by simp)]
  refine wpAny_bind (listUpdate_at (xs := #[]) (n := 0) (Heap.get?_push_size _ rfl) rfl ?_ (Nat.zero_le _) (by show (#[] ++ vs.toArray).size ≤ sizeLine + 1; simp only [Array.size_append, List.size_toArray, List.length_nil]; omega))
  refine wpAny_pure ?_
  show wpAny (model prog w) A (do
      let o ← load s.heap.objs.size
      match o.data with
      | .seq xs _ => pure xs.toList
      | _ => unsupported "internal:collect") Q E { s with heap := (s.heap.push (seqObj "list" #[] 0)).update s.heap.objs.size (Obj.mapSeq (· ++ vs.toArray)) }
  refine wpAny_bind (wpAny_load (get?_update_seq (Heap.get?_push_size _ rfl) _) ?_)
  show wpAny _ _ (pure ((#[] : Array Value) ++ vs.toArray).toList) Q E _
  rw [show ((#[] : Array Value) ++ vs.toArray).toList = vs by simp]
  exact wpAny_pure h
theorem sorted_ordT {l : Addr} {vs : List Value} {ltv : Value → Value → Bool} {Q : Value → Shared → Prop} (O : Swo ltv) (hl : IsTup s.heap l vs.toArray) (hz : vs.length ≤ sizeLine)
    (hS : 2 ≤ vs.length → ∀ (h₁ : Heap) (a : Addr), h₁.get? a = some (seqObj "list" vs.toArray 0) → (∀ b o, s.heap.get? b = some o → b ≠ a ∧ h₁.get? b = some o) → SortableO prog w A.in1.in1 { s with heap := h₁ } a vs ltv)
    (h : ∀ out : List Value, Srtd ltv out → Stb ltv out vs → Q (.ref (s.heap.objs.size + 1)) { s with heap := sortedAll s.heap vs out.toArray }) :
    wpAny (model prog w) A (call (.builtin "sorted") [.ref l]) Q E s := by
  refine Calls.call_function_entry kind_sorted plain_sorted entry_sorted (args_sorted1 _) ?_
  unfold Builtin.«sorted»
  refine wpAny_bind (m := checkCount "sorted" 1 1 _) (wpAny_pure ?_)
  refine wpAny_bind (collect_tup hl ?_ hz)
  refine wpAny_bind (wpAny_newList ?_ hz)
  have hsz : ((s.heap.push (seqObj "list" #[] 0)).update s.heap.objs.size (Obj.mapSeq (· ++ vs.toArray))).objs.size = s.heap.objs.size + 1 := by
    rw [Heap.size_update, size_push']
  have hoL : (((s.heap.push (seqObj "list" #[] 0)).update s.heap.objs.size (Obj.mapSeq (· ++ vs.toArray))).push (seqObj "list" vs.toArray 0)).get? (s.heap.objs.size + 1) = some (seqObj "list" vs.toArray 0) := by
    rw [← hsz]; exact Heap.get?_push_size _ rfl
  have keep : ∀ b o, s.heap.get? b = some o → b ≠ s.heap.objs.size + 1 ∧ (((s.heap.push (seqObj "list" #[] 0)).update s.heap.objs.size (Obj.mapSeq (· ++ vs.toArray))).push (seqObj "list" vs.toArray 0)).get? b = some o := fun b o q => by
    have hlt : b < s.heap.objs.size := Heap.lt_size q
    refine ⟨Nat.ne_of_lt (Nat.lt_succ_of_lt hlt), Heap.get?_push_of_some _ ?_⟩
    rw [Heap.get?_update_ne _ _ _ _ (Nat.ne_of_lt hlt)]
    exact Heap.get?_push_of_some _ q
  show wpAny _ _ _ _ _ { s with heap := ((s.heap.push (seqObj "list" #[] 0)).update s.heap.objs.size (Obj.mapSeq (· ++ vs.toArray))).push (seqObj "list" vs.toArray 0) }
  rw [hsz]
  refine wpAny_bind (wpAny_holding (wpAny_call_entry slot_list_sort ⟨_, hoL, rfl⟩ entry_list_sort (list_sort_ord O hoL hz (fun h2 => hS h2 _ _ hoL keep) fun out hs hb => ⟨_, rfl, ?_⟩) (args_list_sort _)))
  exact wpAny_pure ⟨_, rfl, h out hs hb⟩
end
open L2 in
theorem cr_sortedIT {X : Cx} : CallR X (.builtin "sorted") (fun vs H Q => ∃ (a : Addr) (ns : List Int), vs = [V.ref a] ∧ SqT X.K H a (ns.map V.int) ∧ ∀ (ns' : List Int) (p : Addr), ns'.Perm ns → ns'.Pairwise (· ≤ ·) → H p = none → Q (.ref p) (upd H p (.lst (ns'.map V.int)))) := by
  intro pins s σ H vs us Q I r h
  obtain ⟨a, ns, rfl, hs, q⟩ := h
  obtain ⟨its, rv, hl, hz⟩ := I.tuple hs
  rw [Vals.ref1 r]
  have hi := rv.ints
  refine sorted_ordT SrtO.swo_int hl (by rw [← rv.length]; exact hz) (fun h2 h₁ a' _ _ => SrtO.ints_sortable hi h2) fun out h1 h2 => ?_
  obtain ⟨k1, k2, k3⟩ := SrtO.ints_out hi h1 h2
  obtain ⟨ep, he'⟩ := PyProof.Rows.sortedAll_at s.heap its out.toArray
  have hlen : ((out.map SrtO.iv).map V.int).length ≤ sizeLine := by
    rw [List.length_map, k2.length_eq]
    rw [List.length_map] at hz
    exact hz
  exact ⟨.ref _, upd H (s.heap.objs.size + 1) (.lst ((out.map SrtO.iv).map V.int)), I.laid (t' := s.toks) (fun _ _ => PyProof.Rows.sortedAll_old) (Nat.le_succ _) ⟨hlen, out, ep, vals_of_ints k1, he'⟩, rfl, q _ _ k2 k3 (I.hok.fresh (Nat.le_succ _))⟩
end MiS

namespace Mi
open PySem L2
theorem sorted_uniq : ∀ (l m : List Int), l.Perm m → l.Pairwise (· ≤ ·) → m.Pairwise (· ≤ ·) → l = m
  | [], m, p, _, _ => (List.Perm.nil_eq p)
  | a :: l, m, p, s, t => by
    cases m with
    | nil => exact absurd p.length_eq (by simp)
    | cons b m =>
      have hb : b ∈ a :: l := p.mem_iff.mpr List.mem_cons_self
      have ha : a ∈ b :: m := p.mem_iff.mp List.mem_cons_self
      have e1 : a ≤ b := by
        rcases List.mem_cons.mp hb with z | z
        · omega
        · exact List.rel_of_pairwise_cons s z
      have e2 : b ≤ a := by
        rcases List.mem_cons.mp ha with z | z
        · omega
        · exact List.rel_of_pairwise_cons t z
      have e : a = b := by omega
      subst e
      rw [sorted_uniq l m (List.Perm.cons_inv p) (List.pairwise_cons.mp s).2 (List.pairwise_cons.mp t).2]
abbrev srt (ns : List Int) : List Int := ns.mergeSort (fun a b => decide (a ≤ b))
theorem srt_perm (ns : List Int) : (srt ns).Perm ns := List.mergeSort_perm _ _
theorem srt_pw (ns : List Int) : (srt ns).Pairwise (· ≤ ·) := by
  have := List.pairwise_mergeSort (le := fun a b : Int => decide (a ≤ b)) (fun a b c h1 h2 => by simp at *; omega) (fun a b => by simp; omega) ns
  exact this.imp fun h => by simpa using h
theorem srt_eq {ns ns' : List Int} (p : ns'.Perm ns) (s : ns'.Pairwise (· ≤ ·)) : ns' = srt ns :=
  sorted_uniq _ _ (p.trans (srt_perm ns).symm) s (srt_pw ns)
theorem leastI_mem : ∀ {ns : List Int}, ns ≠ [] → leastI ns ∈ ns ∧ ∀ y ∈ ns, leastI ns ≤ y
  | [], h => absurd rfl h
  | [i], _ => by simp [leastI]
  | i :: j :: r, _ => by
    obtain ⟨h1, h2⟩ := leastI_mem (ns := j :: r) (by simp)
    show (let m := leastI (j :: r); if m < i then m else i) ∈ i :: j :: r ∧ ∀ y ∈ i :: j :: r, (let m := leastI (j :: r); if m < i then m else i) ≤ y
    dsimp only
    by_cases c : leastI (j :: r) < i
    · rw [if_pos c]
      refine ⟨List.mem_cons_of_mem _ h1, fun y hy => ?_⟩
      rcases List.mem_cons.mp hy with z | z
      · omega
      · exact h2 y z
    · rw [if_neg c]
      refine ⟨List.mem_cons_self, fun y hy => ?_⟩
      rcases List.mem_cons.mp hy with z | z
      · omega
      · have := h2 y z; omega
theorem greatI_mem : ∀ {ns : List Int}, ns ≠ [] → greatI ns ∈ ns ∧ ∀ y ∈ ns, y ≤ greatI ns
  | [], h => absurd rfl h
  | [i], _ => by simp [greatI]
  | i :: j :: r, _ => by
    obtain ⟨h1, h2⟩ := greatI_mem (ns := j :: r) (by simp)
    show (let m := greatI (j :: r); if i < m then m else i) ∈ i :: j :: r ∧ ∀ y ∈ i :: j :: r, y ≤ (let m := greatI (j :: r); if i < m then m else i)
    dsimp only
    by_cases c : i < greatI (j :: r)
    · rw [if_pos c]
      refine ⟨List.mem_cons_of_mem _ h1, fun y hy => ?_⟩
      rcases List.mem_cons.mp hy with z | z
      · omega
      · exact h2 y z
    · rw [if_neg c]
      refine ⟨List.mem_cons_self, fun y hy => ?_⟩
      rcases List.mem_cons.mp hy with z | z
      · omega
      · have := h2 y z; omega
/-! ## calls of built-ins by values -/
def bM (f : List D → HS → R D) (K : PySem.W.Frag) : List V → Hp → VK → Prop := fun vs H Q => ∃ ι h xs, RelH K ι h H ∧ RpL K ι H xs vs ∧ PostE K ι H (f xs h) Q
theorem CallR.imp {X : Cx} {f : Value} {r r' : List V → Hp → VK → Prop} (h : CallR X f r) (i : ∀ x H Q, r' x H Q → r x H Q) : CallR X f r' :=
  fun pins s σ H x us Q I rx q => h pins s σ H x us Q I rx (i x H Q q)
section
variable {K : PySem.W.Frag} {ι : List Addr} {H : Hp} {h : HS} {Q : VK}
theorem RpL.one {x : D} {vs : List V} (r : RpL K ι H [x] vs) : ∃ v, vs = [v] ∧ Rp K ι H x v := by
  cases r with
  | cons r s => cases s; exact ⟨_, rfl, r⟩
theorem RpL.two {x y : D} {vs : List V} (r : RpL K ι H [x, y] vs) : ∃ v w, vs = [v, w] ∧ Rp K ι H x v ∧ Rp K ι H y w := by
  cases r with
  | cons r s =>
    obtain ⟨w, rfl, r2⟩ := s.one
    exact ⟨_, w, rfl, r, r2⟩
/-- a function of one list that the walk has made or been given -/
theorem lst_arg {vs : List V} {n : Nat} {F : List D → R D} (r : RpL K ι H [D.ref n] vs) (rh : RelH K ι h H) (q : PostE K ι H (match h[n]? with | some (.lst xs) => F xs | _ => .bad) Q) :
    ∃ a xs ws, vs = [.ref a] ∧ h[n]? = some (.lst xs) ∧ H a = some (.lst ws) ∧ RpL K ι H xs ws ∧ PostE K ι H (F xs) Q := by
  obtain ⟨v, rfl, rv⟩ := r.one
  cases hc : h[n]? with
  | none => rw [hc] at q; exact q.elim
  | some c =>
    rw [hc] at q
    cases c with
    | lst xs =>
      obtain ⟨a, ws, rfl, _, e1, r1⟩ := rv.lstOf rh hc
      exact ⟨a, xs, ws, rfl, rfl, e1, r1, q⟩
    | _ => exact q.elim
theorem items_arg {x : D} {vs : List V} {F : List D → R D} (r : RpL K ι H [x] vs) (rh : RelH K ι h H) (q : PostE K ι H (match itemsD h x with | some ys => F ys | none => .bad) Q) :
    ∃ a xs ws, vs = [.ref a] ∧ (SqL K H a ws ∨ SqT K H a ws) ∧ RpL K ι H xs ws ∧ PostE K ι H (F xs) Q := by
  obtain ⟨v, rfl, rv⟩ := r.one
  cases hc : itemsD h x with
  | none => rw [hc] at q; exact q.elim
  | some ys =>
    rw [hc] at q
    obtain ⟨a, ws, rfl, s, r1⟩ := rv.itemsOf rh hc
    exact ⟨a, ys, ws, rfl, s, r1, q⟩
theorem ints_arg {ys : List D} {ws : List V} {F : List Int → R D} (r : RpL K ι H ys ws) (q : PostE K ι H (match intsD ys with | some ns => F ns | none => .bad) Q) : ∃ ns, ws = ns.map V.int ∧ PostE K ι H (F ns) Q := by
  cases hc : intsD ys with
  | none => rw [hc] at q; exact q.elim
  | some ns => rw [hc] at q; exact ⟨ns, (r.intsD hc).1, q⟩
end
section
variable {X : Cx}
theorem b_any (hc : X.calm = true) : CallR X (.builtin "any") (bM (biF .any) X.K) := by
  refine CallR.imp (cr_any hc) ?_
  rintro vs H Q ⟨ι, h, xs, rh, r, q⟩
  match xs, r, q with
  | [.ref n], r, q =>
    obtain ⟨a, ys, ws, rfl, _, e1, r1, q⟩ := lst_arg r rh q
    cases hb : blsD ys with
    | none => simp only [hb] at q; exact q.elim
    | some bs =>
      simp only [hb] at q
      exact ⟨a, bs, rfl, by rw [← r1.blsD hb]; exact SqL.of e1, q.val rh (.bl _)⟩
theorem b_all (hc : X.calm = true) : CallR X (.builtin "all") (bM (biF .all) X.K) := by
  refine CallR.imp (cr_all hc) ?_
  rintro vs H Q ⟨ι, h, xs, rh, r, q⟩
  match xs, r, q with
  | [.ref n], r, q =>
    obtain ⟨a, ys, ws, rfl, _, e1, r1, q⟩ := lst_arg r rh q
    cases hb : blsD ys with
    | none => simp only [hb] at q; exact q.elim
    | some bs =>
      simp only [hb] at q
      exact ⟨a, bs, rfl, by rw [← r1.blsD hb]; exact SqL.of e1, q.val rh (.bl _)⟩
theorem itemsD_ref {h : HS} {n : Nat} {ys : List D} (e : itemsD h (.ref n) = some ys) : h[n]? = some (.lst ys) := by
  simp only [itemsD] at e
  cases hh : h[n]? with
  | none => rw [hh] at e; cases e
  | some c =>
    rw [hh] at e
    cases c with
    | lst zs => cases e; rfl
    | _ => cases e
theorem b_sum (hc : X.calm = true) : CallR X (.builtin "sum") (bM (biF .sum) X.K) := by
  refine CallR.imp (cr_sum hc) ?_
  rintro vs H Q ⟨ι, h, xs, rh, r, q⟩
  match xs, r, q with
  | [.ref n], r, q =>
    obtain ⟨a, ys, ws, rfl, _, e1, r1, q⟩ := lst_arg r rh q
    obtain ⟨ns, rfl, q⟩ := ints_arg r1 q
    exact ⟨a, ns, rfl, SqL.of e1, q.val rh (.int _)⟩
theorem nonE {K : PySem.W.Frag} {ι : List Addr} {H : Hp} {Q : VK} {ns : List Int} {r : R D} (q : PostE K ι H (if ns.isEmpty = true then .bad else r) Q) : ns ≠ [] ∧ PostE K ι H r Q := by
  cases ns with
  | nil => exact q.elim
  | cons a b => exact ⟨by simp, q⟩
theorem b_min (hc : X.calm = true) : CallR X (.builtin "min") (bM (biF .min) X.K) := by
  refine CallR.imp (L2.CallR.or (call_min2 hc) (cr_min hc)) ?_
  rintro vs H Q ⟨ι, h, xs, rh, r, q⟩
  match xs, r, q with
  | [.int i, .int j], r, q =>
    obtain ⟨v, w, rfl, r1, r2⟩ := r.two
    cases r1; cases r2
    exact .inl ⟨i, j, rfl, PostE.val (K := X.K) (h := h) q rh (.int _)⟩
  | [.ref n], r, q =>
    obtain ⟨a, ys, ws, rfl, _, e1, r1, q⟩ := lst_arg r rh q
    obtain ⟨ns, rfl, q⟩ := ints_arg r1 q
    obtain ⟨ne, q⟩ := nonE q
    refine .inr ⟨a, ns, rfl, SqL.of e1, List.length_pos_iff.mpr ne, fun m hm hle => ?_⟩
    obtain ⟨g1, g2⟩ := leastI_mem ne
    have e : m = leastI ns := by
      have := hle _ g1; have := g2 _ hm; omega
    rw [e]; exact q.val rh (.int _)
theorem b_max (hc : X.calm = true) : CallR X (.builtin "max") (bM (biF .max) X.K) := by
  refine CallR.imp (L2.CallR.or (call_max2 hc) (cr_max hc)) ?_
  rintro vs H Q ⟨ι, h, xs, rh, r, q⟩
  match xs, r, q with
  | [.int i, .int j], r, q =>
    obtain ⟨v, w, rfl, r1, r2⟩ := r.two
    cases r1; cases r2
    exact .inl ⟨i, j, rfl, PostE.val (K := X.K) (h := h) q rh (.int _)⟩
  | [.ref n], r, q =>
    obtain ⟨a, ys, ws, rfl, _, e1, r1, q⟩ := lst_arg r rh q
    obtain ⟨ns, rfl, q⟩ := ints_arg r1 q
    obtain ⟨ne, q⟩ := nonE q
    refine .inr ⟨a, ns, rfl, SqL.of e1, List.length_pos_iff.mpr ne, fun m hm hle => ?_⟩
    obtain ⟨g1, g2⟩ := greatI_mem ne
    have e : m = greatI ns := by
      have := hle _ g1; have := g2 _ hm; omega
    rw [e]; exact q.val rh (.int _)
theorem b_sorted : CallR X (.builtin "sorted") (bM (biF .sorted) X.K) := by
  refine CallR.imp (L2.CallR.or cr_sortedI MiS.cr_sortedIT) ?_
  rintro vs H Q ⟨ι, h, xs, rh, r, q⟩
  match xs, r, q with
  | [x], r, q =>
    obtain ⟨a, ys, ws, rfl, sq, r1, q⟩ := items_arg r rh q
    obtain ⟨ns, rfl, q⟩ := ints_arg r1 q
    obtain ⟨c, q⟩ := mkL_some q
    have fin : ∀ (ns' : List Int) (p : Addr), ns'.Perm ns → ns'.Pairwise (· ≤ ·) → H p = none → Q (.ref p) (upd H p (.lst (ns'.map V.int))) := fun ns' p hp hs np => by
      rw [srt_eq hp hs]; exact q.newL rh RpL.ints p np
    rcases sq with sq | sq
    · exact .inl ⟨a, ns, rfl, sq, fin⟩
    · exact .inr ⟨a, ns, rfl, sq, fin⟩
theorem b_list : CallR X (.type "list") (bM (biF .list) X.K) := by
  refine CallR.imp call_list_of ?_
  rintro vs H Q ⟨ι, h, xs, rh, r, q⟩
  match xs, r, q with
  | [x], r, q =>
    obtain ⟨a, ys, ws, rfl, sq, r1, q⟩ := items_arg r rh q
    obtain ⟨c, q⟩ := mkL_some q
    exact ⟨a, ws, rfl, sq, q.newL rh r1⟩
theorem b_tuple : CallR X (.type "tuple") (bM (biF .tuple) X.K) := by
  refine CallR.imp call_tuple_of ?_
  rintro vs H Q ⟨ι, h, xs, rh, r, q⟩
  match xs, r, q with
  | [x], r, q =>
    obtain ⟨v, rfl, rv⟩ := r.one
    cases rv with
    | tup sa r1 =>
      obtain ⟨c, q⟩ := mkT_some (K := X.K) q
      exact ⟨_, _, rfl, .inr ⟨SqT.of sa, q.val rh (.tup sa r1)⟩⟩
    | fz f =>
      obtain ⟨c, q⟩ := mkT_some (K := X.K) q
      exact ⟨_, _, rfl, .inl ⟨f.sq, q.newT rh RpL.ints⟩⟩
    | kt sa r1 => exact q.elim
    | @ref n a e =>
      have q : PostE X.K ι H (match itemsD h (.ref n) with | some ys => mkT ys h | none => .bad) Q := q
      cases hc : itemsD h (.ref n) with
      | none => rw [hc] at q; exact q.elim
      | some ys =>
        rw [hc] at q
        obtain ⟨c, q⟩ := mkT_some (K := X.K) q
        obtain ⟨_, ws, z, _, e1, r1⟩ := (Rp.ref e : Rp X.K ι H _ _).lstOf rh (itemsD_ref hc)
        cases z
        exact ⟨_, _, rfl, .inl ⟨SqL.of e1, q.newT rh r1⟩⟩
    | non => exact q.elim
    | bl _ => exact q.elim
    | int _ => exact q.elim
    | str _ => exact q.elim
  | x :: y :: z, r, q => cases x <;> exact q.elim
theorem b_abs : CallR X (.builtin "abs") (bM (biF .abs) X.K) := by
  refine CallR.imp call_abs ?_
  rintro vs H Q ⟨ι, h, xs, rh, r, q⟩
  match xs, r, q with
  | [.int i], r, q =>
    obtain ⟨v, rfl, rv⟩ := r.one
    cases rv
    exact ⟨i, rfl, PostE.val (K := X.K) (h := h) q rh (.int _)⟩
theorem b_int : CallR X (.type "int") (bM (biF .int) X.K) := by
  refine CallR.imp call_int1 ?_
  rintro vs H Q ⟨ι, h, xs, rh, r, q⟩
  match xs, r, q with
  | [.int i], r, q =>
    obtain ⟨v, rfl, rv⟩ := r.one
    cases rv
    exact .inl ⟨i, rfl, PostE.val (K := X.K) (h := h) q rh (.int _)⟩
  | [.bl i], r, q =>
    obtain ⟨v, rfl, rv⟩ := r.one
    cases rv
    exact .inr ⟨i, rfl, PostE.val (K := X.K) (h := h) q rh (.int _)⟩
  | x :: y :: z, r, q => cases x <;> exact q.elim
theorem b_len : CallR X (.builtin "len") (bM (biF .len) X.K) := by
  intro pins s σ H vs us Q I rx hq
  obtain ⟨ι, h, xs, rh, r, q⟩ := hq
  match xs, r, q with
  | [x], r, q =>
    obtain ⟨v, rfl, rv⟩ := r.one
    cases rv with
    | str z =>
      have q : PostE X.K ι H (if z.length ≤ LIM then .ok (.int z.length) h else .bad) Q := q
      by_cases c : z.length ≤ LIM
      · rw [if_pos c] at q
        exact call_len pins s σ H _ us Q I rx ⟨_, z.length, rfl, ⟨by rw [← LIM_line]; exact c, rfl⟩, q.val rh (.int _)⟩
      · rw [if_neg c] at q; exact q.elim
    | tup sa r1 =>
      have q : PostE X.K ι H (.ok (.int _) h) Q := q
      exact call_len pins s σ H _ us Q I rx ⟨_, _, rfl, .inr ⟨_, SqT.of sa, rfl⟩, by have z := q.val rh (.int _); rw [r1.length] at z; exact z⟩
    | kt sa r1 =>
      have q : PostE X.K ι H (.ok (.int _) h) Q := q
      exact call_len pins s σ H _ us Q I rx ⟨_, _, rfl, .inr ⟨_, sa.sq, rfl⟩, by have z := q.val rh (.int _); rw [r1.length] at z; exact z⟩
    | fz f =>
      have q : PostE X.K ι H (.ok (.int _) h) Q := q
      exact call_len pins s σ H _ us Q I rx ⟨_, _, rfl, .inl ⟨_, f.sq, rfl⟩, by
        have := q.val rh (.int _)
        simpa using this⟩
    | @ref n a e =>
      simp only [biF] at q
      cases hc : h[n]? with
      | none => rw [hc] at q; exact q.elim
      | some c =>
        rw [hc] at q
        cases c with
        | lst ys =>
          obtain ⟨_, ws, z, _, e1, r1⟩ := (Rp.ref e : Rp X.K ι H _ _).lstOf rh hc
          cases z
          exact call_len pins s σ H _ us Q I rx ⟨_, _, rfl, .inl ⟨_, SqL.of e1, rfl⟩, by have z := q.val rh (.int _); rw [r1.length] at z; exact z⟩
        | dct kvs =>
          have q : PostE X.K ι H (if (kvs.all fun kv => keyD kv.1) = true then .ok (.int kvs.length) h else .bad) Q := q
          by_cases c : (kvs.all fun kv => keyD kv.1) = true
          · rw [if_pos c] at q
            obtain ⟨H', I', ex, rh', dk⟩ := dct_fit (k := .int 0) I rh e hc (by unfold keyOk; rw [c]; rfl)
            rcases dk with ⟨ks, kk, e1, r1, _⟩ | ⟨_, _, _, _, e2⟩
            · have q3 := PostE.val (K := X.K) (q.shift ex rh'.mut) rh' (.int _)
              have eu := Vals.ref1 rx
              subst eu
              refine d_len I' (.inl e1) fun t s' I2 => ⟨.int ks.length, H', I2, ⟨t, rfl⟩, ?_⟩
              rw [← Paired.len r1]; exact q3
            · cases e2
          · rw [if_neg c] at q; exact q.elim
        | ins _ _ => exact q.elim
    | non => exact q.elim
    | bl _ => exact q.elim
    | int _ => exact q.elim
  | x :: y :: z, r, q => cases x <;> exact q.elim
end
end Mi

namespace Mi
open PySem L2
/-! ## methods by values -/
section
variable {X : Cx}
def mM (m : Me) (K : PySem.W.Frag) : V → List V → Hp → VK → Prop := fun x vs H Q => ∃ ι h a xs, RelH K ι h H ∧ Rp K ι H a x ∧ RpL K ι H xs vs ∧ PostE K ι H (meF m a xs h) Q
theorem MtR.imp {id : String} {r r' : V → List V → Hp → VK → Prop} (h : MtR X id r) (i : ∀ x vs H Q, r' x vs H Q → r x vs H Q) : MtR X id r' :=
  fun pins s σ H x xs v us Q I rx rs q => h pins s σ H x xs v us Q I rx rs (i x xs H Q q)
theorem me_lst {K : PySem.W.Frag} {ι : List Addr} {H : Hp} {h : HS} {Q : VK} {a : D} {x : V} {m : Me} {xs : List D} (q : PostE K ι H (meF m a xs h) Q) (ra : Rp K ι H a x) (rh : RelH K ι h H) :
    ∃ n p ys ws, a = .ref n ∧ x = .ref p ∧ ι[n]? = some p ∧ h[n]? = some (.lst ys) ∧ H p = some (.lst ws) ∧ RpL K ι H ys ws ∧ PostE K ι H (lstMe m n ys xs h) Q := by
  cases ra with
  | @ref n p e =>
    unfold meF at q
    cases hc : h[n]? with
    | none => simp only [hc] at q; exact q.elim
    | some c =>
      cases c with
      | lst ys =>
        simp only [hc] at q
        obtain ⟨_, ws, z, _, e1, r1⟩ := (Rp.ref e : Rp K ι H _ _).lstOf rh hc
        cases z
        exact ⟨n, p, ys, ws, rfl, rfl, e, hc, e1, r1, q⟩
      | _ => simp only [hc] at q; exact q.elim
  | _ => exact q.elim
theorem m_append : MtR X "list.append" (mM .append X.K) := by
  refine MtR.imp mt_append ?_
  rintro x vs H Q ⟨ι, h, a, xs, rh, ra, rx, q⟩
  obtain ⟨n, p, ys, ws, rfl, rfl, en, hc, e1, r1, q⟩ := me_lst q ra rh
  match xs, rx, q with
  | [y], rx, q =>
    obtain ⟨w, rfl, ry⟩ := rx.one
    have q : PostE X.K ι H (if ys.length < LIM then .ok .non (h.set n (.lst (ys ++ [y]))) else .bad) Q := q
    by_cases c : ys.length < LIM
    · rw [if_pos c] at q
      exact ⟨p, ws, w, rfl, rfl, e1, by rw [← LIM_line, ← r1.length]; exact c, q.setL rh en (r1.append (.cons ry .nil)) .non⟩
    · rw [if_neg c] at q; exact q.elim
theorem m_extend : MtR X "list.extend" (mM .extend X.K) := by
  refine MtR.imp mt_extend ?_
  rintro x vs H Q ⟨ι, h, a, xs, rh, ra, rx, q⟩
  obtain ⟨n, p, ys, ws, rfl, rfl, en, hc, e1, r1, q⟩ := me_lst q ra rh
  match xs, rx, q with
  | [y], rx, q =>
    obtain ⟨w, rfl, ry⟩ := rx.one
    cases ry with
    | @ref b pb eb =>
      simp only [lstMe] at q
      cases hb : h[b]? with
      | none => simp only [hb] at q; exact q.elim
      | some c =>
        cases c with
        | lst zs =>
          simp only [hb] at q
          obtain ⟨_, us, z, _, e2, r2⟩ := (Rp.ref eb : Rp X.K ι H _ _).lstOf rh hb
          cases z
          by_cases c : ys.length + zs.length ≤ LIM
          · rw [if_pos c] at q
            exact ⟨p, pb, ws, us, rfl, rfl, e1, e2, by rw [← LIM_line, ← r1.length, ← r2.length]; exact c, q.setL rh en (r1.append r2) .non⟩
          · rw [if_neg c] at q; exact q.elim
        | _ => simp only [hb] at q; exact q.elim
    | _ => exact q.elim
  | x :: y :: z, rx, q => cases x <;> exact q.elim
theorem m_pop : MtR X "list.pop" (mM .pop X.K) := by
  refine MtR.imp (L2.MtR.or mt_pop mt_popAt) ?_
  rintro x vs H Q ⟨ι, h, a, xs, rh, ra, rx, q⟩
  obtain ⟨n, p, ys, ws, rfl, rfl, en, hc, e1, r1, q⟩ := me_lst q ra rh
  match xs, rx, q with
  | [], rx, q =>
    cases rx
    have q : PostE X.K ι H (match ys[ys.length - 1]? with | some y => .ok y (h.set n (.lst ys.dropLast)) | none => .bad) Q := q
    cases hy : ys[ys.length - 1]? with
    | none => rw [hy] at q; exact q.elim
    | some y =>
      rw [hy] at q
      obtain ⟨w, ew, rw'⟩ := r1.get hy
      exact .inl ⟨p, ws, w, rfl, rfl, e1, by rw [← r1.length]; exact ew, PostE.setL (K := X.K) q rh en r1.dropLast rw'⟩
  | [.int i], rx, q =>
    obtain ⟨w, rfl, ry⟩ := rx.one
    cases ry
    have q : PostE X.K ι H (if (decide (-(2 ^ 63) ≤ i) && decide (i < 2 ^ 63)) = true then (match ixN ys.length i with
          | some k => match ys[k]? with
            | some y => .ok y (h.set n (.lst (ys.eraseIdx k)))
            | none => .bad
          | none => .bad)
        else .bad) Q := q
    by_cases c : (decide (-(2 ^ 63) ≤ i) && decide (i < 2 ^ 63)) = true
    · rw [if_pos c] at q
      rw [Bool.and_eq_true, decide_eq_true_eq, decide_eq_true_eq] at c
      cases hk : ixN ys.length i with
      | none => simp only [hk] at q; exact q.elim
      | some k =>
        simp only [hk] at q
        cases hy : ys[k]? with
        | none => simp only [hy] at q; exact q.elim
        | some y =>
          simp only [hy] at q
          obtain ⟨w, ew, rw'⟩ := r1.get hy
          refine .inr ⟨p, ws, i, k, w, rfl, rfl, e1, c.1, c.2, ?_, ew, q.setL rh en (r1.eraseIdx k) rw'⟩
          rw [← r1.length]; exact (ixN_seq hk).1
    · rw [if_neg c] at q; exact q.elim
  | x :: y :: z, rx, q => cases x <;> exact q.elim
/-! ## truth -/
theorem t_tru : TruR X (fun x H Q => ∃ ι h a k, RelH X.K ι h H ∧ Rp X.K ι H a x ∧ truD h a = some k ∧ Q k H) := by
  intro pins s σ H x v Q I rx hq
  obtain ⟨ι, h, a, k, rh, ra, e, q⟩ := hq
  refine tru_ok pins s σ H x v Q I rx ⟨k, ?_, q⟩
  cases ra with
  | non => cases e; rfl
  | bl b => cases e; rfl
  | int i => cases e; rfl
  | str z =>
    have e : (if z.length ≤ LIM then some ((z.length : Int) != 0) else none) = some k := e
    by_cases c : z.length ≤ LIM
    · rw [if_pos c] at e; cases e; exact ⟨by rw [← LIM_line]; exact c, rfl⟩
    · rw [if_neg c] at e; cases e
  | tup sa r =>
    cases e
    refine .inr (.inl ⟨_, SqT.of sa, ?_⟩)
    cases r <;> rfl
  | kt sa r =>
    cases e
    refine .inr (.inl ⟨_, sa.sq, ?_⟩)
    cases r <;> rfl
  | fz f =>
    cases e
    rename_i ns _
    refine .inl ⟨_, f.sq, ?_⟩
    cases ns <;> rfl
  | @ref n p er =>
    simp only [truD] at e
    cases hc : h[n]? with
    | none => rw [hc] at e; cases e
    | some c =>
      rw [hc] at e
      cases c with
      | lst ys =>
        obtain ⟨_, ws, z, _, e1, r1⟩ := (Rp.ref er : Rp X.K ι H _ _).lstOf rh hc
        cases z
        cases e
        refine .inl ⟨_, SqL.of e1, ?_⟩
        cases r1 <;> rfl
      | _ => cases e
/-! ## isinstance by values -/
def tyS : Ty → String
  | .int => "int" | .bool => "bool" | .tuple => "tuple" | .str => "str" | .list => "list"
theorem kt_all : ∀ a ∈ ["int", "bool", "tuple", "str", "list", "dict", "NoneType"], ∀ t : Ty, kitB a (tyS t) = some (a == tyS t || (a == "bool" && tyS t == "int")) := by
  intro a ha t
  simp only [List.mem_cons, List.not_mem_nil, or_false] at ha
  rcases ha with rfl | rfl | rfl | rfl | rfl | rfl | rfl <;> cases t <;> decide +kernel
end
end Mi

namespace Mi
open PySem L2
/-! ## expressions -/
structure RelE (K : PySem.W.Frag) (ι : List Addr) (δ : En) (h : HS) (σ : St) (H : Hp) : Prop where
  rel : RelH K ι h H
  len : δ.length = σ.length
  env : ∀ (i : Nat) (d : D), δ[i]? = some (some d) → ∃ v, σ[i]? = some (some v) ∧ Rp K ι H d v
theorem RelE.ext {K : PySem.W.Frag} {ι ι1 : List Addr} {δ : En} {h h1 : HS} {σ : St} {H H1 : Hp} (re : RelE K ι δ h σ H) (e : Ext ι H ι1 H1) (r : RelH K ι1 h1 H1) : RelE K ι1 δ h1 σ H1 :=
  ⟨r, re.len, fun i d q => let ⟨v, e1, r1⟩ := re.env i d q; ⟨v, e1, r1.ext e re.rel.mut⟩⟩
def tE (K : PySem.W.Frag) (cl : Cl) (c : CE) : TE := fun σ H Q => ∃ ι δ h, RelE K ι δ h σ H ∧ PostE K ι H (evalE cl c δ h) Q
def tB (K : PySem.W.Frag) (cl : Cl) (c : CB) : TT := fun σ H Q => ∃ ι δ h, RelE K ι δ h σ H ∧ Post (fun _ _ a b => a = b) K ι H (evalB cl c δ h) Q
def tL (K : PySem.W.Frag) (cl : Cl) (c : CL) : TA := fun σ H Q => ∃ ι δ h, RelE K ι δ h σ H ∧ Post (RpL K) K ι H (evalL cl c δ h) Q
def tO (K : PySem.W.Frag) (cl : Cl) (c : CO) : TO := fun σ H Q => ∃ ι δ h, RelE K ι δ h σ H ∧ Post (fun _ _ a b => a = b) K ι H (evalO cl c δ h) Q
section
variable {X : Cx} {cl : Cl} {e a b c : Expr} {t t' : TE} {ca cb cc ce : CE} {pos : Pos}
theorem pe_imp (h : PE X e t) (i : ∀ σ H Q, t' σ H Q → t σ H Q) : PE X e t' := ⟨fun pins s σ H Q I q => h.run pins s σ H Q I (i σ H Q q)⟩
theorem pt_imp {t t' : TT} (h : PT X e t) (i : ∀ σ H Q, t' σ H Q → t σ H Q) : PT X e t' := ⟨fun pins s σ H Q I q => h.run pins s σ H Q I (i σ H Q q)⟩
theorem pa_imp {es : List Expr} {t t' : TA} (h : PA X es t) (i : ∀ σ H Q, t' σ H Q → t σ H Q) : PA X es t' := ⟨fun pos pins s σ H Q I q => h.run pos pins s σ H Q I (i σ H Q q)⟩
theorem po_imp {e : Option Expr} {t t' : TO} (h : PO X e t) (i : ∀ σ H Q, t' σ H Q → t σ H Q) : PO X e t' := ⟨fun pins s σ H Q I q => h.run pins s σ H Q I (i σ H Q q)⟩
section
variable {K : PySem.W.Frag} {ι : List Addr} {δ : En} {h : HS} {σ : St} {H : Hp} {α β : Type} {RR : List Addr → Hp → α → β → Prop} {Q : β → Hp → Prop}
/-- one evaluation, then the rest -/
theorem step_E {f : D → HS → R α} {R' : VK} (re : RelE K ι δ h σ H) (q : Post RR K ι H ((evalE cl ce δ h).bind f) Q)
    (k : ∀ x h1 ι1 v H1, Ext ι H ι1 H1 → RelE K ι1 δ h1 σ H1 → Rp K ι1 H1 x v → Post RR K ι1 H1 (f x h1) Q → R' v H1) : tE K cl ce σ H R' := by
  obtain ⟨x, h1, e1, q1⟩ := Post.bind q
  refine ⟨ι, δ, h, re, ?_⟩
  rw [e1]
  intro ι1 v H1 ex r1 rp
  exact k x h1 ι1 v H1 ex (re.ext ex r1) rp (q1.shift ex r1.mut)
theorem step_L {c : CL} {f : List D → HS → R α} {R' : List V → Hp → Prop} (re : RelE K ι δ h σ H) (q : Post RR K ι H ((evalL cl c δ h).bind f) Q)
    (k : ∀ x h1 ι1 v H1, Ext ι H ι1 H1 → RelE K ι1 δ h1 σ H1 → RpL K ι1 H1 x v → Post RR K ι1 H1 (f x h1) Q → R' v H1) : tL K cl c σ H R' := by
  obtain ⟨x, h1, e1, q1⟩ := Post.bind q
  refine ⟨ι, δ, h, re, ?_⟩
  rw [e1]
  intro ι1 v H1 ex r1 rp
  exact k x h1 ι1 v H1 ex (re.ext ex r1) rp (q1.shift ex r1.mut)
theorem step_B {c : CB} {f : Bool → HS → R α} {R' : Bool → Hp → Prop} (re : RelE K ι δ h σ H) (q : Post RR K ι H ((evalB cl c δ h).bind f) Q)
    (k : ∀ x h1 ι1 H1, Ext ι H ι1 H1 → RelE K ι1 δ h1 σ H1 → Post RR K ι1 H1 (f x h1) Q → R' x H1) : tB K cl c σ H R' := by
  obtain ⟨x, h1, e1, q1⟩ := Post.bind q
  refine ⟨ι, δ, h, re, ?_⟩
  rw [e1]
  intro ι1 v H1 ex r1 rp
  subst rp
  exact k x h1 ι1 H1 ex (re.ext ex r1) (q1.shift ex r1.mut)
theorem step_O {c : CO} {f : Option Int → HS → R α} {R' : Option Int → Hp → Prop} (re : RelE K ι δ h σ H) (q : Post RR K ι H ((evalO cl c δ h).bind f) Q)
    (k : ∀ x h1 ι1 H1, Ext ι H ι1 H1 → RelE K ι1 δ h1 σ H1 → Post RR K ι1 H1 (f x h1) Q → R' x H1) : tO K cl c σ H R' := by
  obtain ⟨x, h1, e1, q1⟩ := Post.bind q
  refine ⟨ι, δ, h, re, ?_⟩
  rw [e1]
  intro ι1 v H1 ex r1 rp
  subst rp
  exact k x h1 ι1 H1 ex (re.ext ex r1) (q1.shift ex r1.mut)
theorem Post.val {a : α} {b : β} (q : Post RR K ι H (.ok a h) Q) (r : RelH K ι h H) (rp : RR ι H a b) : Q b H := q ι b H Ext.refl r rp
theorem trE_ok {r : R D} {Q : VK} (re : RelE K ι δ h σ H) (q : PostE K ι H (r.tr h.length) Q) : PostE K ι H r Q := PostE.tr q re.rel.len
end
theorem p_var {i : Nat} {x : Str} (hN : X.N[i]? = some x) (hv : Vis X.env.scope x) (hd : (x == ("__debug__" : Str)) = false) (hcd : (x == ("__classdict__" : Str)) = false) : PE X (.Name x pos) (tE X.K cl (.var i)) := by
  refine pe_imp (pe_var hN hv hd hcd) ?_
  rintro σ H Q ⟨ι, δ, h, re, q⟩
  cases hi : δ[i]? with
  | none => simp only [evalE, hi] at q; exact q.elim
  | some o =>
    cases o with
    | none => simp only [evalE, hi] at q; exact q.elim
    | some d =>
      simp only [evalE, hi] at q
      obtain ⟨v, e1, rp⟩ := re.env i d hi
      exact ⟨v, e1, q.val re.rel rp⟩
theorem p_lit {d : D} {v : V} (h : PE X e (tC v)) (rp : ∀ ι H, Rp X.K ι H d v) : PE X e (tE X.K cl (.lit d)) := by
  refine pe_imp h ?_
  rintro σ H Q ⟨ι, δ, h, re, q⟩
  simp only [evalE] at q
  exact q.val re.rel (rp _ _)
theorem p_bin {o : Operator} (ho : opOk o = true) (ha : PE X a (tE X.K cl ca)) (hb : PE X b (tE X.K cl cb)) : PE X (.BinOp a o b pos) (tE X.K cl (.bin o ca cb)) := by
  refine pe_imp (pe_op (o_bin ho) ha hb) ?_
  rintro σ H Q ⟨ι, δ, h, re, q⟩
  simp only [evalE] at q
  exact step_E re (trE_ok re q) fun x h1 ι1 v H1 e1 r1 rx q => step_E r1 q fun y h2 ι2 w H2 e2 r2 ry q => ⟨ι2, h2, x, y, r2.rel, rx.ext e2 r1.rel.mut, ry, q⟩
theorem p_neg (ha : PE X a (tE X.K cl ca)) : PE X (.UnaryOp .USub a pos) (tE X.K cl (.neg ca)) := by
  refine pe_imp (pe_un un_neg ha) ?_
  rintro σ H Q ⟨ι, δ, h, re, q⟩
  simp only [evalE] at q
  refine step_E re q fun x h1 ι1 v H1 e1 r1 rx q => ?_
  cases rx <;> first | exact q.elim | skip
  exact ⟨_, rfl, q.val r1.rel (.int _)⟩
theorem p_cmp (hu : X.A.units + 64 < cLine) {o : CmpOp} (hm : behindInMarks o b = false) (ha : PE X a (tE X.K cl ca)) (hb : PE X b (tE X.K cl cb)) : PE X (.Compare a [o] [b] pos) (tE X.K cl (.cmp o ca cb)) := by
  refine pe_imp (pe_cmpR (c_cmp hu o) ha hb hm) ?_
  rintro σ H Q ⟨ι, δ, h, re, q⟩
  simp only [evalE] at q
  exact step_E re (trE_ok re q) fun x h1 ι1 v H1 e1 r1 rx q => step_E r1 q fun y h2 ι2 w H2 e2 r2 ry q => ⟨ι2, h2, x, y, r2.rel, rx.ext e2 r1.rel.mut, ry, q⟩
theorem cmpV {K : PySem.W.Frag} {ι : List Addr} {h : HS} {H : Hp} {o : CmpOp} {x y : D} {v w : V} {k : Bool} {Q : VK} (r : RelH K ι h H) (rx : Rp K ι H x v) (ry : Rp K ι H y w) (e : cmpF o x y h = some k) (q : ∀ ι1 H1, Ext ι H ι1 H1 → RelH K ι1 h H1 → Q (.bl k) H1) :
    rM (cmpR o) K v w H Q := by
  refine ⟨ι, h, x, y, r, rx, ry, ?_⟩
  unfold cmpR
  rw [e]
  intro ι1 v H1 ex r1 rp
  cases rp
  exact q ι1 H1 ex r1
theorem p_andv (ha : PE X a (tE X.K cl ca)) {rest : List Expr} (hb : PE X (.BoolOp .And (b :: rest) pos) (tE X.K cl cb)) : PE X (.BoolOp .And (a :: b :: rest) pos) (tE X.K cl (.andv ca cb)) := by
  refine pe_imp (pe_and ha hb) ?_
  rintro σ H Q ⟨ι, δ, h, re, q⟩
  simp only [evalE] at q
  refine step_E re q fun x h1 ι1 v H1 e1 r1 rx q => ?_
  cases rx <;> first | exact q.elim | skip
  rename_i k
  refine ⟨k, rfl, ?_⟩
  cases k with
  | true => exact ⟨_, _, _, r1, q⟩
  | false => exact q.val r1.rel (.bl _)
theorem p_orv (ha : PE X a (tE X.K cl ca)) {rest : List Expr} (hb : PE X (.BoolOp .Or (b :: rest) pos) (tE X.K cl cb)) : PE X (.BoolOp .Or (a :: b :: rest) pos) (tE X.K cl (.orv ca cb)) := by
  refine pe_imp (pe_or ha hb) ?_
  rintro σ H Q ⟨ι, δ, h, re, q⟩
  simp only [evalE] at q
  refine step_E re q fun x h1 ι1 v H1 e1 r1 rx q => ?_
  cases rx <;> first | exact q.elim | skip
  rename_i k
  refine ⟨k, rfl, ?_⟩
  cases k with
  | false => exact ⟨_, _, _, r1, q⟩
  | true => exact q.val r1.rel (.bl _)
theorem p_notv (ha : PE X a (tE X.K cl ca)) : PE X (.UnaryOp .Not a pos) (tE X.K cl (.notv ca)) := by
  refine pe_imp (pe_not ha) ?_
  rintro σ H Q ⟨ι, δ, h, re, q⟩
  simp only [evalE] at q
  refine step_E re q fun x h1 ι1 v H1 e1 r1 rx q => ?_
  cases rx <;> first | exact q.elim | skip
  exact ⟨_, rfl, q.val r1.rel (.bl _)⟩
theorem p_ife {tc : CB} (hc : PT X c (tB X.K cl tc)) (ha : PE X a (tE X.K cl ca)) (hb : PE X b (tE X.K cl cb)) : PE X (.IfExp c a b pos) (tE X.K cl (.ife tc ca cb)) := by
  refine pe_imp (pe_ifExp hc ha hb) ?_
  rintro σ H Q ⟨ι, δ, h, re, q⟩
  simp only [evalE] at q
  refine step_B re q fun x h1 ι1 H1 e1 r1 q => ?_
  cases x with
  | true => exact ⟨_, _, _, r1, q⟩
  | false => exact ⟨_, _, _, r1, q⟩
theorem p_nil : PA X [] (tL X.K cl .nil) := by
  refine pa_imp pa_nil ?_
  rintro σ H Q ⟨ι, δ, h, re, q⟩
  simp only [evalL] at q
  exact q.val re.rel .nil
theorem p_cons {es : List Expr} {cs : CL} (ha : PE X e (tE X.K cl ce)) (hr : PA X es (tL X.K cl cs)) (hs : starEach (e :: es) X.env = (false, eval e X.env) :: starEach es X.env) : PA X (e :: es) (tL X.K cl (.cons ce cs)) := by
  refine pa_imp (pa_cons ha hr hs) ?_
  rintro σ H Q ⟨ι, δ, h, re, q⟩
  simp only [evalL] at q
  exact step_E re q fun x h1 ι1 v H1 e1 r1 rx q => step_L r1 q fun y h2 ι2 w H2 e2 r2 ry q => q.val r2.rel (.cons (rx.ext e2 r1.rel.mut) ry)
theorem p_tup {es : List Expr} {cs : CL} {x1} (h : PA X es (tL X.K cl cs)) : PE X (.Tuple es x1 pos) (tE X.K cl (.tup cs)) := by
  refine pe_imp (pe_tup h) ?_
  rintro σ H Q ⟨ι, δ, h, re, q⟩
  simp only [evalE] at q
  refine step_L re q fun x h1 ι1 v H1 e1 r1 rx q => ?_
  obtain ⟨c, q⟩ := mkT_some q
  exact ⟨by rw [← LIM_line, ← rx.length]; exact c, PostE.newT q r1.rel rx⟩
theorem p_lst {es : List Expr} {cs : CL} (h : PA X es (tL X.K cl cs)) : PE X (.List es pos) (tE X.K cl (.lst cs)) := by
  refine pe_imp (pe_lst h) ?_
  rintro σ H Q ⟨ι, δ, h, re, q⟩
  simp only [evalE] at q
  refine step_L re q fun x h1 ι1 v H1 e1 r1 rx q => ?_
  obtain ⟨c, q⟩ := mkL_some q
  exact ⟨by rw [← LIM_line, ← rx.length]; exact c, PostE.newL q r1.rel rx⟩
theorem p_dct0 : PE X (.Dict [] [] pos) (tE X.K cl .dct0) := by
  refine pe_imp pe_dnewK ?_
  rintro σ H Q ⟨ι, δ, h, re, q⟩ p np
  simp only [evalE] at q
  exact q _ _ _ (Ext.new np) (re.rel.new np (.inl ⟨[], upd_same, .nil⟩)) (.ref (by rw [← re.rel.len]; simp))
theorem p_ix (hu : X.A.units + 64 < cLine) (hs : PlainIx b) (ha : PE X a (tE X.K cl ca)) (hb : PE X b (tE X.K cl cb)) : PE X (.Subscript a b pos) (tE X.K cl (.ix ca cb)) := by
  refine pe_imp (pe_ix (x_ix hu) ha hb hs) ?_
  rintro σ H Q ⟨ι, δ, h, re, q⟩
  simp only [evalE] at q
  exact step_E re (trE_ok re q) fun x h1 ι1 v H1 e1 r1 rx q => step_E r1 q fun y h2 ι2 w H2 e2 r2 ry q => ⟨ι2, h2, x, y, r2.rel, rx.ext e2 r1.rel.mut, ry, q⟩
theorem p_no : PO X none (tO X.K cl .no) := by
  refine po_imp po_none ?_
  rintro σ H Q ⟨ι, δ, h, re, q⟩
  simp only [evalO] at q
  exact q.val re.rel rfl
theorem p_so (h : PE X e (tE X.K cl ce)) : PO X (some e) (tO X.K cl (.so ce)) := by
  refine po_imp (po_some h) ?_
  rintro σ H Q ⟨ι, δ, h, re, q⟩
  simp only [evalO] at q
  refine step_E re q fun x h1 ι1 v H1 e1 r1 rx q => ?_
  cases rx <;> first | exact q.elim | skip
  exact ⟨_, rfl, q.val r1.rel rfl⟩
theorem p_slice {lo hi : Option Expr} {cl' ch : CO} {p2 : Pos} (he : PE X e (tE X.K cl ce)) (hl : PO X lo (tO X.K cl cl')) (hh : PO X hi (tO X.K cl ch)) : PE X (.Subscript e (.Slice lo hi none p2) pos) (tE X.K cl (.slice ce cl' ch)) := by
  refine pe_imp (pe_slice s_sl he hl hh) ?_
  rintro σ H Q ⟨ι, δ, h, re, q⟩
  simp only [evalE] at q
  exact step_E re (trE_ok re q) fun x h1 ι1 v H1 e1 r1 rx q => step_O r1 q fun l h2 ι2 H2 e2 r2 q => step_O r2 q fun u h3 ι3 H3 e3 r3 q =>
    ⟨ι3, h3, x, r3.rel, (rx.ext e2 r1.rel.mut).ext e3 r2.rel.mut, q⟩
theorem p_rev {k : Nat} {p1 p2 p3 : Pos} (he : PE X e (tE X.K cl ce)) : PE X (.Subscript e (.Slice none none (some (.UnaryOp .USub (.Constant (.int 1) k p1) p2)) p3) pos) (tE X.K cl (.rev ce)) := by
  refine pe_imp (pe_revL he) ?_
  rintro σ H Q ⟨ι, δ, h, re, q⟩
  simp only [evalE] at q
  refine step_E re (trE_ok re q) fun x h1 ι1 v H1 e1 r1 rx q => ?_
  cases rx with
  | @ref n p er =>
    cases hc : h1[n]? with
    | none => simp only [hc] at q; exact q.elim
    | some c =>
      cases c with
      | lst ys =>
        simp only [hc] at q
        obtain ⟨_, ws, z, _, e2, r2⟩ := (Rp.ref er : Rp X.K ι1 H1 _ _).lstOf r1.rel hc
        cases z
        exact ⟨p, ws, rfl, SqL.of e2, PostE.newL q r1.rel r2.reverse⟩
      | _ => simp only [hc] at q; exact q.elim
  | _ => exact q.elim
end
end Mi

namespace Mi
open PySem L2
/-! ## chains, tests -/
section
variable {K : PySem.W.Frag} {ι : List Addr} {δ : En} {h : HS} {σ : St} {H : Hp}
theorem cmp_some {o : CmpOp} {x y : D} {α β : Type} {RR : List Addr → Hp → α → β → Prop} {Q : β → Hp → Prop} {f : Bool → R α} (q : Post RR K ι H (match cmpF o x y h with | some k => f k | none => .bad) Q) : ∃ k, cmpF o x y h = some k ∧ Post RR K ι H (f k) Q := by
  cases e : cmpF o x y h with
  | none => rw [e] at q; exact q.elim
  | some k => rw [e] at q; exact ⟨k, rfl, q⟩
theorem trimB {k : Bool} {n : Nat} {Q : Bool → Hp → Prop} (q : Post (fun _ _ a b => a = b) K ι H (match trim n (.bl k) h with | .ok _ h3 => .ok k h3 | _ => .bad) Q) (hn : ι.length = n) : Post (fun _ _ a b => a = b) K ι H (.ok k h) Q := by
  intro ι1 v H1 e r1 rp
  subst rp
  cases t : trim n (.bl k) h with
  | ok d' h' =>
    rw [t] at q
    obtain ⟨ι2, e2, r2, rp2⟩ := trim_ok e hn r1 (Rp.bl k) t
    exact q ι2 k H1 e2 r2 rfl
  | exc _ _ _ => rw [t] at q; exact q.elim
  | bad => rw [t] at q; exact q.elim
end
section
variable {X : Cx} {cl : Cl} {e a b c : Expr} {t t' : TE} {ca cb cc ce : CE} {pos : Pos}
theorem p_chain (hu : X.A.units + 64 < cLine) {o o' : CmpOp} (hm : lastMarks [o, o'] [b, c] = false) (ha : PE X a (tE X.K cl ca)) (hb : PE X b (tE X.K cl cb)) (hc : PE X c (tE X.K cl cc)) : PE X (.Compare a [o, o'] [b, c] pos) (tE X.K cl (.chain o o' ca cb cc)) := by
  refine pe_imp (pe_chain (c_cmp hu o) (c_cmp hu o') ha hb hc hm) ?_
  rintro σ H Q ⟨ι, δ, h, re, q⟩
  simp only [evalE] at q
  refine step_E re (trE_ok re q) fun x h1 ι1 v H1 e1 r1 rx q => step_E r1 q fun y h2 ι2 w H2 e2 r2 ry q => ?_
  have rx := rx.ext e2 r1.rel.mut
  cases ek : cmpF o x y h2 with
  | none => simp only [ek] at q; exact q.elim
  | some k =>
    refine cmpV r2.rel rx ry ek fun ι3 H3 e3 r3 => ⟨k, rfl, ?_⟩
    have re3 := r2.ext e3 r3
    cases k with
    | false =>
      simp only [ek] at q
      exact (q.shift e3 r3.mut).val r3 (.bl _)
    | true =>
      simp only [ek] at q
      exact step_E re3 (q.shift e3 r3.mut) fun z h4 ι4 u H4 e4 r4 rz q => ⟨ι4, h4, y, z, r4.rel, (ry.ext e3 r2.rel.mut).ext e4 r3.mut, rz, q⟩
theorem p_truth (ha : PE X a (tE X.K cl ca)) (he : ∀ whole, isTrue a X.env whole = (do let v ← whole; standAt a.pos; holding [v] (truthy v))) : PT X a (tB X.K cl (.val ca)) := by
  have base : PT X a (fun σ H Q => tE X.K cl ca σ H fun x H1 => ∃ ι h d k, RelH X.K ι h H1 ∧ Rp X.K ι H1 d x ∧ truD h d = some k ∧ Q k H1) :=
    ⟨fun pins s σ H Q I h => PyProof.Rows.isTrue_plain (thn (ha.run pins s σ H _ I h) fun v s1 ⟨x, H1, I1, r1, q1⟩ => t_tru pins s1 σ H1 x v Q I1 r1 q1) (he _)⟩
  refine pt_imp base ?_
  rintro σ H Q ⟨ι, δ, h, re, q⟩
  simp only [evalB] at q
  refine step_E re q fun x h1 ι1 v H1 e1 r1 rx q => ?_
  cases et : truD h1 x with
  | none => simp only [et] at q; exact q.elim
  | some k =>
    simp only [et] at q
    exact ⟨ι1, h1, x, k, r1.rel, rx, et, q.val r1.rel rfl⟩
theorem p_cmpB (hu : X.A.units + 64 < cLine) {o : CmpOp} (hm : behindInMarks o b = false) (ha : PE X a (tE X.K cl ca)) (hb : PE X b (tE X.K cl cb)) : PT X (.Compare a [o] [b] pos) (tB X.K cl (.cmp o ca cb)) := by
  refine pt_imp (pt_cmpR (c_cmp hu o) ha hb hm) ?_
  rintro σ H Q ⟨ι, δ, h, re, q⟩
  simp only [evalB] at q
  have q : Post (fun _ _ a b => a = b) X.K ι H ((evalE cl ca δ h).bind fun x h1 => (evalE cl cb δ h1).bind fun y h2 => match cmpF o x y h2 with | some k => .ok k h2 | none => .bad) Q := by
    obtain ⟨x, h1, ea, q⟩ := Post.bind q
    obtain ⟨y, h2, eb, q⟩ := Post.bind q
    obtain ⟨k, ek, q⟩ := cmp_some q
    rw [ea, R.bind_ok, eb, R.bind_ok, ek]
    exact trimB q re.rel.len
  refine step_E re q fun x h1 ι1 v H1 e1 r1 rx q => step_E r1 q fun y h2 ι2 w H2 e2 r2 ry q => ?_
  obtain ⟨k, ek, q⟩ := cmp_some q
  exact cmpV r2.rel (rx.ext e2 r1.rel.mut) ry ek fun ι3 H3 e3 r3 => ⟨k, rfl, (q.shift e3 r3.mut).val r3 rfl⟩
theorem p_chainB (hu : X.A.units + 64 < cLine) {o o' : CmpOp} (hm : lastMarks [o, o'] [b, c] = false) (ha : PE X a (tE X.K cl ca)) (hb : PE X b (tE X.K cl cb)) (hc : PE X c (tE X.K cl cc)) : PT X (.Compare a [o, o'] [b, c] pos) (tB X.K cl (.chain o o' ca cb cc)) := by
  refine pt_imp (pt_chain (c_cmp hu o) (c_cmp hu o') ha hb hc hm) ?_
  rintro σ H Q ⟨ι, δ, h, re, q⟩
  simp only [evalB] at q
  have q : Post (fun _ _ a b => a = b) X.K ι H ((evalE cl ca δ h).bind fun x h1 => (evalE cl cb δ h1).bind fun y h2 => match cmpF o x y h2 with
      | some true => (evalE cl cc δ h2).bind fun z h3 => match cmpF o' y z h3 with | some k => .ok k h3 | none => .bad
      | some false => .ok false h2
      | none => .bad) Q := by
    obtain ⟨x, h1, ea, q⟩ := Post.bind q
    obtain ⟨y, h2, eb, q⟩ := Post.bind q
    rw [ea, R.bind_ok, eb, R.bind_ok]
    cases ek : cmpF o x y h2 with
    | none => simp only [ek] at q; exact q.elim
    | some k =>
      cases k with
      | false => simp only [ek] at q ⊢; exact q
      | true =>
        simp only [ek] at q ⊢
        obtain ⟨z, h3, ez, q⟩ := Post.bind q
        obtain ⟨k', ek', q⟩ := cmp_some q
        rw [ez, R.bind_ok, ek']
        exact trimB q re.rel.len
  refine step_E re q fun x h1 ι1 v H1 e1 r1 rx q => step_E r1 q fun y h2 ι2 w H2 e2 r2 ry q => ?_
  have rx := rx.ext e2 r1.rel.mut
  cases ek : cmpF o x y h2 with
  | none => simp only [ek] at q; exact q.elim
  | some k =>
    refine cmpV r2.rel rx ry ek fun ι3 H3 e3 r3 => ⟨k, rfl, ?_⟩
    have re3 := r2.ext e3 r3
    cases k with
    | false =>
      simp only [ek] at q
      exact ⟨false, rfl, (q.shift e3 r3.mut).val r3 rfl⟩
    | true =>
      simp only [ek] at q
      refine step_E re3 (q.shift e3 r3.mut) fun z h4 ι4 u H4 e4 r4 rz q => ?_
      obtain ⟨k', ek', q⟩ := cmp_some q
      exact cmpV r4.rel ((ry.ext e3 r2.rel.mut).ext e4 r3.mut) rz ek' fun ι5 H5 e5 r5 => ⟨k', rfl, (q.shift e5 r5.mut).val r5 rfl⟩
theorem pw_imp {e : Expr} {t t' : TT} (h : PW X e t) (i : ∀ σ H Q, t' σ H Q → t σ H Q) : PW X e t' := ⟨fun wh pins s σ H Q I q => h.run wh pins s σ H Q I (i σ H Q q)⟩
theorem p_and1 {ta : CB} (ha : PT X a (tB X.K cl ta)) : PW X (.BoolOp .And [a] pos) (tB X.K cl ta) := pw_and1 ha
theorem p_or1 {ta : CB} (ha : PT X a (tB X.K cl ta)) : PW X (.BoolOp .Or [a] pos) (tB X.K cl ta) := pw_or1 ha
theorem p_and {ta tb : CB} {rest : List Expr} (ha : PT X a (tB X.K cl ta)) (hb : PW X (.BoolOp .And (b :: rest) pos) (tB X.K cl tb)) : PW X (.BoolOp .And (a :: b :: rest) pos) (tB X.K cl (.and_ ta tb)) := by
  refine pw_imp (pw_and ha hb) ?_
  rintro σ H Q ⟨ι, δ, h, re, q⟩
  simp only [evalB] at q
  refine step_B re q fun x h1 ι1 H1 e1 r1 q => ?_
  cases x with
  | true => exact ⟨_, _, _, r1, q⟩
  | false => exact q.val r1.rel rfl
theorem p_or {ta tb : CB} {rest : List Expr} (ha : PT X a (tB X.K cl ta)) (hb : PW X (.BoolOp .Or (b :: rest) pos) (tB X.K cl tb)) : PW X (.BoolOp .Or (a :: b :: rest) pos) (tB X.K cl (.or_ ta tb)) := by
  refine pw_imp (pw_or ha hb) ?_
  rintro σ H Q ⟨ι, δ, h, re, q⟩
  simp only [evalB] at q
  refine step_B re q fun x h1 ι1 H1 e1 r1 q => ?_
  cases x with
  | false => exact ⟨_, _, _, r1, q⟩
  | true => exact q.val r1.rel rfl
theorem p_notB {ta : CB} (ha : PT X a (tB X.K cl ta)) : PT X (.UnaryOp .Not a pos) (tB X.K cl (.not_ ta)) := by
  refine pt_imp (pt_not ha) ?_
  rintro σ H Q ⟨ι, δ, h, re, q⟩
  simp only [evalB] at q
  exact step_B re q fun x h1 ι1 H1 e1 r1 q => q.val r1.rel rfl
/-! ## calls -/
/-- what a def of the text promises: its own evaluation -/
def spD (K : PySem.W.Frag) (cl : Cl) (f : Str) (np : Nat) : Sp := fun vs H Q _ => ∃ ι h args, RelH K ι h H ∧ RpL K ι H args vs ∧ args.length = np ∧ PostE K ι H (cl f args h) Q
theorem p_call {f : Str} {np k : Nat} {fa : Addr} {fd : FuncData} {ps : List Str} {es : List Expr} {cs : CL} {p : Pos} (F : FnOk X.prog X.w X.K X.mg X.base CX0 k fa fd ps (spD X.K cl f np)) (hr : Room k X.A) (hg : Gl X f) (hm : X.mg f = some (.ref fa))
    (hk : PySem.W.keepIn X.K (.ref fa) = true) (hb : Binds X.K fd ps []) (ar : ∀ args h, args.length ≠ np → cl f args h = .bad) (ha : PA X (e :: es) (tL X.K cl cs)) (hdb : (f == ("__debug__" : Str)) = false) (he : starEach (e :: es) X.env = (false, eval e X.env) :: starEach es X.env)
    (hpl : (backTo pos (starEach es X.env)).any (·.1) = false) : PE X (.Call (.Name f p) (e :: es) [] pos) (tE X.K cl (.call f cs)) := by
  refine pe_imp (pe_call F hr hg hm hk hb .nil pass0 ha hdb he hpl) ?_
  rintro σ H Q ⟨ι, δ, h, re, q⟩
  simp only [evalE] at q
  refine step_L re (trE_ok re q) fun x h1 ι1 v H1 e1 r1 rx q => ?_
  rw [List.append_nil]
  refine ⟨ι1, h1, x, r1.rel, rx, ?_, q⟩
  by_cases c : x.length = np
  · exact c
  · rw [ar x h1 c] at q; exact q.elim
theorem p_call0 {f : Str} {np k : Nat} {fa : Addr} {fd : FuncData} {ps : List Str} {p : Pos} (F : FnOk X.prog X.w X.K X.mg X.base CX0 k fa fd ps (spD X.K cl f np)) (hr : Room k X.A) (hg : Gl X f) (hm : X.mg f = some (.ref fa))
    (hk : PySem.W.keepIn X.K (.ref fa) = true) (hb : Binds X.K fd ps []) (ar : ∀ args h, args.length ≠ np → cl f args h = .bad) (hdb : (f == ("__debug__" : Str)) = false) : PE X (.Call (.Name f p) [] [] pos) (tE X.K cl (.call f .nil)) := by
  refine pe_imp (pe_call0 F hr hg hm hk hb .nil pass0 hdb) ?_
  rintro σ H Q ⟨ι, δ, h, re, q⟩
  simp only [evalE, evalL, R.bind_ok] at q
  have q := trE_ok re q
  refine ⟨ι, h, [], re.rel, .nil, ?_, q⟩
  by_cases c : ([] : List D).length = np
  · exact c
  · rw [ar [] h c] at q; exact q.elim
theorem p_biB {b : Bi} {id : String} {x : Str} {es : List Expr} {cs : CL} {p : Pos} (hc : CallR X (.builtin id) (bM (biF b) X.K)) (hg : Gl X x) (hm : X.mg x = none) (hv : bootBuiltins x = some (.builtin id)) (ha : PA X (e :: es) (tL X.K cl cs)) (hn : x ≠ "__name__") (hdb : (x == ("__debug__" : Str)) = false)
    (he : starEach (e :: es) X.env = (false, eval e X.env) :: starEach es X.env) (hpl : (backTo pos (starEach es X.env)).any (·.1) = false) : PE X (.Call (.Name x p) (e :: es) [] pos) (tE X.K cl (.bi b cs)) := by
  refine pe_imp (pe_callB hc hg hm hv ha hn hdb he hpl) ?_
  rintro σ H Q ⟨ι, δ, h, re, q⟩
  simp only [evalE] at q
  exact step_L re (trE_ok re q) fun x h1 ι1 v H1 e1 r1 rx q => ⟨ι1, h1, x, r1.rel, rx, q⟩
theorem p_biT {b : Bi} {T : String} {x : Str} {es : List Expr} {cs : CL} {p : Pos} (hc : CallR X (.type T) (bM (biF b) X.K)) (hg : Gl X x) (hm : X.mg x = none) (hv : bootBuiltins x = some (.type T)) (ha : PA X (e :: es) (tL X.K cl cs)) (hn : x ≠ "__name__") (hdb : (x == ("__debug__" : Str)) = false)
    (he : starEach (e :: es) X.env = (false, eval e X.env) :: starEach es X.env) (hpl : (backTo pos (starEach es X.env)).any (·.1) = false) : PE X (.Call (.Name x p) (e :: es) [] pos) (tE X.K cl (.bi b cs)) := by
  refine pe_imp (pe_callTy hc hg hm hv ha hn hdb he hpl) ?_
  rintro σ H Q ⟨ι, δ, h, re, q⟩
  simp only [evalE] at q
  exact step_L re (trE_ok re q) fun x h1 ι1 v H1 e1 r1 rx q => ⟨ι1, h1, x, r1.rel, rx, q⟩
/-! ## methods -/
theorem rcv_lst {K : PySem.W.Frag} {ι : List Addr} {h : HS} {H : Hp} {m : Me} {x : D} {v : V} (ok : rcvOk m x h = true) (rh : RelH K ι h H) (rx : Rp K ι H x v) : tyV K "list" v H := by
  cases rx with
  | @ref n p er =>
    simp only [rcvOk] at ok
    cases hc : h[n]? with
    | none => rw [hc] at ok; cases ok
    | some c =>
      rw [hc] at ok
      cases c with
      | lst ys =>
        obtain ⟨_, ws, z, _, e2, r2⟩ := (Rp.ref er : Rp K ι H _ _).lstOf rh hc
        cases z
        exact .inl ⟨rfl, _, SqL.of e2⟩
      | _ => cases ok
  | _ => cases ok
theorem p_meth {m : Me} {o : Expr} {co : CE} {es : List Expr} {cs : CL} {name : Str} {apos cpos : Pos} {id : String} (slot : Slot "list" name id) (hty : typeOf (.builtin id) = pure (.type "method_descriptor")) (hm : MtR X id (mM m X.K)) (ho : PE X o (tE X.K cl co)) (ha : PA X (e :: es) (tL X.K cl cs))
    (hbase : attributeBase o name X.env (eval o X.env) = eval o X.env)
    (hfew : ((backTo cpos (starEach (e :: es) X.env)).all (fun x => !x.1) && (backToKw cpos (keywordEach [] X.env)).all (fun x => x.1.isSome)
      && decide ((e :: es).length + ([] : List Keyword).length + (if ([] : List Keyword).isEmpty then 0 else 1) < 30)) = true)
    (hline : (apos.endLine == cpos.line) = true) (hs : starEach (e :: es) X.env = (false, eval e X.env) :: starEach es X.env) (hplain : (backTo cpos (starEach es X.env)).any (·.1) = false) :
    PE X (.Call (.Attribute o name apos) (e :: es) [] cpos) (tE X.K cl (.meth m co cs)) := by
  refine pe_imp (pe_bm PySem.F.plainAttrs_list slot hty hm ho ha hbase hfew hline hs hplain) ?_
  rintro σ H Q ⟨ι, δ, h, re, q⟩
  simp only [evalE] at q
  refine step_E re (trE_ok re q) fun x h1 ι1 v H1 e1 r1 rx q => ?_
  by_cases c : rcvOk m x h1 = true
  · rw [if_pos c] at q
    exact ⟨rcv_lst c r1.rel rx, step_L r1 q fun y h2 ι2 w H2 e2 r2 ry q => ⟨ι2, h2, x, y, r2.rel, rx.ext e2 r1.rel.mut, ry, q⟩⟩
  · rw [if_neg c] at q; exact q.elim
theorem p_meth0 {m : Me} {o : Expr} {co : CE} {name : Str} {apos cpos : Pos} {id : String} (slot : Slot "list" name id) (hty : typeOf (.builtin id) = pure (.type "method_descriptor")) (hm : MtR X id (mM m X.K)) (ho : PE X o (tE X.K cl co))
    (hbase : attributeBase o name X.env (eval o X.env) = eval o X.env) (hline : (apos.endLine == cpos.line) = true) :
    PE X (.Call (.Attribute o name apos) [] [] cpos) (tE X.K cl (.meth m co .nil)) := by
  refine pe_imp (pe_bm0 PySem.F.plainAttrs_list slot hty hm ho hbase hline) ?_
  rintro σ H Q ⟨ι, δ, h, re, q⟩
  simp only [evalE] at q
  refine step_E re (trE_ok re q) fun x h1 ι1 v H1 e1 r1 rx q => ?_
  by_cases c : rcvOk m x h1 = true
  · rw [if_pos c] at q
    exact ⟨rcv_lst c r1.rel rx, ι1, h1, x, [], r1.rel, rx, .nil, q⟩
  · rw [if_neg c] at q; exact q.elim
/-! ## isinstance -/
theorem isi_ok {K : PySem.W.Frag} {ι : List Addr} {h : HS} {H : Hp} {t : Ty} {x : D} {v : V} {k : Bool} (e : isiF t x h = some k) (rh : RelH K ι h H) (rx : Rp K ι H x v) :
    ∃ a, TyX K H v (.type a) ∧ kitB a (tyS t) = some k := by
  have fin : ∀ a, a ∈ ["int", "bool", "tuple", "str", "list", "dict", "NoneType"] → k = (a == tyS t || (a == "bool" && tyS t == "int")) → kitB a (tyS t) = some k := fun a ha ek => by rw [ek]; exact kt_all a ha t
  cases rx with
  | non => exact ⟨_, .base .non, fin _ (by simp) (by cases t <;> cases e <;> rfl)⟩
  | bl b => exact ⟨_, .base (.bl b), fin _ (by simp) (by cases t <;> cases e <;> rfl)⟩
  | int b => exact ⟨_, .base (.int b), fin _ (by simp) (by cases t <;> cases e <;> rfl)⟩
  | str b => exact ⟨_, .base (.str b), fin _ (by simp) (by cases t <;> cases e <;> rfl)⟩
  | tup s r => exact ⟨_, .base (.tup s), fin _ (by simp) (by cases t <;> cases e <;> rfl)⟩
  | kt s r => cases t <;> cases e
  | fz f => cases t <;> cases e
  | @ref n p er =>
    cases hc : h[n]? with
    | none => cases t <;> simp only [isiF, hc] at e <;> cases e
    | some c =>
      cases c with
      | lst ys =>
        obtain ⟨_, ws, z, _, e2, r2⟩ := (Rp.ref er : Rp K ι H _ _).lstOf rh hc
        cases z
        exact ⟨_, .base (.lst e2), fin _ (by simp) (by cases t <;> simp only [isiF, hc] at e <;> cases e <;> rfl)⟩
      | dct kvs =>
        rcases rh.cell n _ p hc er with ⟨ks, e1, _⟩ | ⟨ks, e1, _⟩
        · exact ⟨_, .base (.dK e1), fin _ (by simp) (by cases t <;> simp only [isiF, hc] at e <;> cases e <;> rfl)⟩
        · exact ⟨_, .base (.dT e1), fin _ (by simp) (by cases t <;> simp only [isiF, hc] at e <;> cases e <;> rfl)⟩
      | ins _ _ => cases t <;> simp only [isiF, hc] at e <;> cases e
theorem p_isi {t : Ty} {x : Str} {p p2 : Pos} (hg : Gl X "isinstance") (hm : X.mg "isinstance" = none) (hg2 : Gl X x) (hm2 : X.mg x = none) (hv2 : bootBuiltins x = some (.type (tyS t))) (hn2 : x ≠ "__name__") (hdb2 : (x == ("__debug__" : Str)) = false) (ha : PE X a (tE X.K cl ca))
    (he : starEach [a, .Name x p2] X.env = (false, eval a X.env) :: starEach [.Name x p2] X.env) : PE X (.Call (.Name "isinstance" p) [a, .Name x p2] [] pos) (tE X.K cl (.isi t ca)) := by
  have hpa : PA X [a, .Name x p2] (tCons (tE X.K cl ca) (tCons (tC (.ty (tyS t))) tNil)) := pa_cons ha (pa_cons (pe_bltn hg2 hm2 hv2 rfl hn2 hdb2) pa_nil rfl) he
  refine pe_imp (pe_callB call_isi hg hm (by decide +kernel) hpa (by decide) (by decide) he (by rfl)) ?_
  rintro σ H Q ⟨ι, δ, h, re, q⟩
  simp only [evalE] at q
  refine step_E re (trE_ok re q) fun x h1 ι1 v H1 e1 r1 rx q => ?_
  cases ei : isiF t x h1 with
  | none => simp only [ei] at q; exact q.elim
  | some k =>
    simp only [ei] at q
    obtain ⟨a, ty, kb⟩ := isi_ok ei r1.rel rx
    exact ⟨v, .ty (tyS t), .type a, .type (tyS t), k, rfl, .ty _, ty, kit_ty kb, PostE.val q r1.rel (.bl k)⟩
/-! ## list(range(..)), tuple(range(..)) -/
theorem rngF_one {b : D} {p : Int × Int} (e : rngF [b] = some p) : ∃ j, b = .int j ∧ p = (0, j) ∧ j.natAbs ≤ LIM := by
  cases b <;> first | (simp [rngF] at e; done) | skip
  rename_i j
  have e : (if j.natAbs ≤ LIM then some ((0 : Int), j) else none) = some p := e
  by_cases c : j.natAbs ≤ LIM
  · rw [if_pos c] at e; cases e; exact ⟨j, rfl, rfl, c⟩
  · rw [if_neg c] at e; cases e
theorem rngF_two {a b : D} {p : Int × Int} (e : rngF [a, b] = some p) : ∃ i j, a = .int i ∧ b = .int j ∧ p = (i, j) ∧ i.natAbs ≤ LIM ∧ j.natAbs ≤ LIM ∧ (j - i).toNat ≤ LIM := by
  cases a <;> first | (simp [rngF] at e; done) | skip
  cases b <;> first | (simp [rngF] at e; done) | skip
  rename_i i j
  have e : (if i.natAbs ≤ LIM ∧ j.natAbs ≤ LIM ∧ (j - i).toNat ≤ LIM then some (i, j) else none) = some p := e
  by_cases c : i.natAbs ≤ LIM ∧ j.natAbs ≤ LIM ∧ (j - i).toNat ≤ LIM
  · rw [if_pos c] at e; cases e; exact ⟨i, j, rfl, rfl, rfl, c⟩
  · rw [if_neg c] at e; cases e
theorem rng_ok {i j : Int} (h1 : i.natAbs ≤ LIM) (h2 : j.natAbs ≤ LIM) (h3 : (j - i).toNat ≤ LIM) : RgOk i j := by
  unfold LIM at *
  exact ⟨by omega, by omega, by omega, by omega, by omega⟩
theorem RpL.rng {K : PySem.W.Frag} {ι : List Addr} {H : Hp} (a b : Int) : RpL K ι H (rngL (a, b)) (rgV a b) := by
  unfold rngL rgV
  have : ∀ l : List Nat, RpL K ι H (l.map fun i => D.int (a + (i : Nat))) (l.map fun i => V.int (a + (i : Nat))) := by
    intro l
    induction l with
    | nil => exact .nil
    | cons x r ih => exact .cons (.int _) ih
  exact this _
theorem p_lrg1 {p p2 pos2 : Pos} (hc : X.calm = true) (hg : Gl X "list") (hm : X.mg "list" = none) (hg2 : Gl X "range") (hm2 : X.mg "range" = none) (ha : PE X a (tE X.K cl ca)) (na : starEach [a] X.env = (false, eval a X.env) :: starEach [] X.env) :
    PE X (.Call (.Name "list" p) [.Call (.Name "range" p2) [a] [] pos2] [] pos) (tE X.K cl (.lrg (.cons ca .nil))) := by
  refine pe_imp (pe_listRg hc hg hm (prg_1 hg2 hm2 ha na)) ?_
  rintro σ H Q ⟨ι, δ, h, re, q⟩
  simp only [evalE] at q
  obtain ⟨xs, h1, ex, q2⟩ := Post.bind (trE_ok re q)
  simp only [evalL] at ex
  refine step_E (α := D) (RR := Rp X.K) (Q := Q) (f := fun x h1 => match rngF [x] with | some p => mkL (rngL p) h1 | none => .bad) re ?_ fun x h1 ι1 v H1 e1 r1 rx q => ?_
  · cases ee : evalE cl ca δ h with
    | ok x h2 => rw [ee] at ex; cases ex; exact q2
    | exc _ _ _ => rw [ee] at ex; cases ex
    | bad => rw [ee] at ex; cases ex
  · cases er : rngF [x] with
    | none => simp only [er] at q; exact q.elim
    | some p =>
      simp only [er] at q
      obtain ⟨j, rfl, rfl, hj⟩ := rngF_one er
      cases rx
      obtain ⟨_, q⟩ := mkL_some q
      exact ⟨j, rfl, rng_ok (by unfold LIM; decide) hj (by omega), PostE.newL q r1.rel (RpL.rng 0 j)⟩
theorem p_trg1 {p p2 pos2 : Pos} (hc : X.calm = true) (hg : Gl X "tuple") (hm : X.mg "tuple" = none) (hg2 : Gl X "range") (hm2 : X.mg "range" = none) (ha : PE X a (tE X.K cl ca)) (na : starEach [a] X.env = (false, eval a X.env) :: starEach [] X.env) :
    PE X (.Call (.Name "tuple" p) [.Call (.Name "range" p2) [a] [] pos2] [] pos) (tE X.K cl (.trg (.cons ca .nil))) := by
  refine pe_imp (pe_tupRg hc hg hm (prg_1 hg2 hm2 ha na)) ?_
  rintro σ H Q ⟨ι, δ, h, re, q⟩
  simp only [evalE] at q
  obtain ⟨xs, h1, ex, q2⟩ := Post.bind (trE_ok re q)
  simp only [evalL] at ex
  refine step_E (α := D) (RR := Rp X.K) (Q := Q) (f := fun x h1 => match rngF [x] with | some p => mkT (rngL p) h1 | none => .bad) re ?_ fun x h1 ι1 v H1 e1 r1 rx q => ?_
  · cases ee : evalE cl ca δ h with
    | ok x h2 => rw [ee] at ex; cases ex; exact q2
    | exc _ _ _ => rw [ee] at ex; cases ex
    | bad => rw [ee] at ex; cases ex
  · cases er : rngF [x] with
    | none => simp only [er] at q; exact q.elim
    | some p =>
      simp only [er] at q
      obtain ⟨j, rfl, rfl, hj⟩ := rngF_one er
      cases rx
      obtain ⟨_, q⟩ := mkT_some q
      exact ⟨j, rfl, rng_ok (by unfold LIM; decide) hj (by omega), PostE.newT q r1.rel (RpL.rng 0 j)⟩
theorem p_lrg2 {p p2 pos2 : Pos} (hc : X.calm = true) (hg : Gl X "list") (hm : X.mg "list" = none) (hg2 : Gl X "range") (hm2 : X.mg "range" = none) (ha : PE X a (tE X.K cl ca)) (hb : PE X b (tE X.K cl cb)) (na : starEach [a, b] X.env = (false, eval a X.env) :: starEach [b] X.env)
    (nb : starEach [b] X.env = (false, eval b X.env) :: starEach [] X.env) (hp : (backTo pos2 (starEach [b] X.env)).any (·.1) = false) :
    PE X (.Call (.Name "list" p) [.Call (.Name "range" p2) [a, b] [] pos2] [] pos) (tE X.K cl (.lrg (.cons ca (.cons cb .nil)))) := by
  refine pe_imp (pe_listRg hc hg hm (prg_2 hg2 hm2 ha hb na nb hp)) ?_
  rintro σ H Q ⟨ι, δ, h, re, q⟩
  simp only [evalE] at q
  obtain ⟨xs, h1, ex, q2⟩ := Post.bind (trE_ok re q)
  simp only [evalL] at ex
  refine step_E (α := D) (RR := Rp X.K) (Q := Q) (f := fun x h1 => (evalE cl cb δ h1).bind fun y h2 => match rngF [x, y] with | some p => mkL (rngL p) h2 | none => .bad) re ?_ fun x h1 ι1 v H1 e1 r1 rx q => step_E r1 q fun y h2 ι2 w H2 e2 r2 ry q => ?_
  · cases ee : evalE cl ca δ h with
    | ok x h2 =>
      rw [ee] at ex
      rw [R.bind_ok] at ex ⊢
      cases e2 : evalE cl cb δ h2 with
      | ok y h3 => rw [e2] at ex; cases ex; exact q2
      | exc _ _ _ => rw [e2] at ex; cases ex
      | bad => rw [e2] at ex; cases ex
    | exc _ _ _ => rw [ee] at ex; cases ex
    | bad => rw [ee] at ex; cases ex
  · cases er : rngF [x, y] with
    | none => simp only [er] at q; exact q.elim
    | some p =>
      simp only [er] at q
      obtain ⟨i, j, rfl, rfl, rfl, hi, hj, hij⟩ := rngF_two er
      cases rx; cases ry
      obtain ⟨_, q⟩ := mkL_some q
      exact ⟨i, j, rfl, rfl, rng_ok hi hj hij, PostE.newL q r2.rel (RpL.rng i j)⟩
end
end Mi

namespace PySem
theorem mi_meets_enumB {v : Value} {o : Obj} {H : Heap → Prop} (B : Begins v o H) :
    Meets (Builtin.«enumerate.__new__» ⟨[.type "enumerate", v], []⟩) (fun _ R s => H s.heap ∧
      R (.ok (.ret (.ref (s.heap.push o).objs.size))) { s with heap := (s.heap.push o).push { cls := .type "enumerate", data := .fields #[.none, .bool false, .ref s.heap.objs.size, rawInt 0, .none, .none] } }) :=
  .of_wp fun prog w A R s h => by
    obtain ⟨hp, g, d, tk, os⟩ := s; obtain ⟨h1, h⟩ := h
    have hsub := sub_enumerate
    have q1 : ∀ {A' : Around} {E : Value → Shared → Prop} {Q : Value → Shared → Prop}, Q (.ref hp.objs.size) ⟨hp.push o, g, d, tk, os⟩ → wpAny (model prog w) A' (pyIter v) Q E ⟨hp, g, d, tk, os⟩ :=
      fun q => B.iter prog w _ _ ⟨hp, g, d, tk, os⟩ _ h1 q
    wp_walk using q1
    refine wpAny_stack_any fun st => wpAny_pure ?_
    split
    · rename_i c _ _ _ _ _
      cases (c == Value.type "enumerate")
      · wp_walk using q1
        exact ⟨_, rfl, h⟩
      · wp_walk using q1
        exact ⟨_, rfl, h⟩
    · wp_walk using q1
      exact ⟨_, rfl, h⟩
section
variable {prog : Program} {w : World} {A : Around} {E : Value → Shared → Prop} {s : Shared}
theorem mi_enum_begins {v : Value} {o : Obj} {H : Heap → Prop} {Q : Value → Shared → Prop} (B : Begins v o H) (h1 : H s.heap)
    (h : ∀ h', IsEnum h' (s.heap.objs.size + 1) s.heap.objs.size 0 .none → h'.get? s.heap.objs.size = some o → h'.objs.size = s.heap.objs.size + 2 →
      (∀ b o, s.heap.get? b = some o → h'.get? b = some o) → Q (.ref (s.heap.objs.size + 1)) { s with heap := h' }) :
    wpAny (model prog w) A (call (.type "enumerate") [v]) Q E s := by
  refine callType_new F.called_enumerate (by decide) (F.typeCall_enumerate_1 _) (F.newCall_enumerate_1 _) (fun obj => F.args_object_init_2 obj _) F.entry_enumerate_new
    (mi_meets_enumB B) ⟨h1, ?_⟩
  have hz : (s.heap.push o).objs.size = s.heap.objs.size + 1 := Heap.size_push ..
  show _ ∧ _
  rw [hz]
  have he : IsEnum ((s.heap.push o).push { cls := .type "enumerate", data := .fields #[.none, .bool false, .ref s.heap.objs.size, rawInt 0, .none, .none] }) (s.heap.objs.size + 1) s.heap.objs.size 0 .none := by
    have := Heap.get?_push_size (s.heap.push o) (o := { cls := .type "enumerate", data := .fields #[.none, .bool false, .ref s.heap.objs.size, rawInt 0, .none, .none] }) rfl
    rw [hz] at this; exact this
  refine ⟨⟨_, he, rfl⟩, h _ he (Heap.get?_push_of_some _ (Heap.get?_push_size _ B.free)) (by rw [Heap.size_push, hz]) fun b o x => Heap.get?_push_of_some _ (Heap.get?_push_of_some _ x)⟩
end
end PySem
namespace MiS
open PySem PySem.Spec PyProof.Rows L2
/-- a tuple, each item in a new pair -/
def IteT (K : PySem.W.Frag) (a : Addr) : It :=
  ⟨fun i H => ∃ (xs : List V) (x : V), SqT K H a xs ∧ xs[i]? = some x, fun i H v H' => ∃ T x, v = .ref T ∧ H T = none ∧ H' = upd H T (.tup [.int (i : Nat), x]) ∧ ∀ xs, SqT K H a xs → xs[i]? = some x, fun i H => ∃ xs : List V, SqT K H a xs ∧ xs.length ≤ i⟩
theorem turn_enumT {P : Program} {w : World} {K : PySem.W.Frag} {elts : List Expr} {kk : Nat} {tpos : Pos} (a e it : Addr) :
    Turn P w K (.Tuple elts kk tpos) (IteT K a) [e, it] e (fun i h => (∃ old, IsEnum h e it ((i : Nat) : Int) old) ∧ h.IsTupleIter it a i ∧ e ≠ it ∧ a ≠ it ∧ a ≠ e) where
  mem := by simp
  obj := fun i h st b hb => by
    obtain ⟨⟨old, he⟩, ⟨o, ho, hc, hd⟩, _⟩ := st
    have e' : b = e ∨ b = it := by simpa using hb
    rcases e' with z | z
    · rw [z]; exact ⟨_, he, fun v q => nomatch q⟩
    · rw [z]; exact ⟨o, ho, fun v q => by rw [hd] at q; cases q⟩
  keep := fun i h h' st k => let ⟨⟨old, he⟩, hi, hne⟩ := st; ⟨⟨old, k e (by simp) _ he⟩, hi.at fun o q => k it (by simp) o q, hne⟩
  item := by
    intro X hP hw hK hc i pins s σ H E I hf st hg
    subst hP hw hK
    obtain ⟨⟨old, he⟩, hit, hne, hai, hae⟩ := st
    obtain ⟨xs, x, hq, hx⟩ := hg
    obtain ⟨its, rv, p, hz⟩ := I.tuple hq
    obtain ⟨u, hu, ru⟩ := rv.get hx
    have hel : e < s.heap.objs.size := Heap.lt_size he
    have hil : it < s.heap.objs.size := by obtain ⟨_, q, _⟩ := hit; exact Heap.lt_size q
    have pT : s.heap.IsTuple a its.toArray := p
    have hi : i < its.toArray.size := by
      have := (List.getElem?_eq_some_iff.mp hu).1
      simpa using this
    refine wpAny_pyNext_enum_itemD (Draws.tuple (prog := X.prog) (w := X.w) (A := X.A.in1) (I.ok.hd hc) it a hai its.toArray) he ⟨hit, pT⟩ hi hne (by simp; exact ⟨hne, Ne.symm hae⟩) fun x' h' tk hP ho hst' hT hsz hk => ?_
    obtain ⟨hit', _⟩ := hst'
    have ex' : x' = u := by
      have h0 : its[i]? = some x' := by simpa using hP
      rw [hu] at h0; cases h0; rfl
    subst ex'
    refine ⟨_, rfl, wpAny_letOwnedTupleGo_enum (s := { s with heap := h', toks := tk + 1 }) ho fun h'' he' sb => ?_⟩
    have hT2 : h''.get? s.heap.objs.size = some { cls := .type "tuple", data := .seq #[.int i tk, x'] } := (sb.2 _ (Nat.ne_of_gt hel)).trans hT
    have new : ObjOk X.prog X.w (upd H s.heap.objs.size (.tup [.int (i : Nat), x])) h'' s.heap.objs.size (.tup [.int (i : Nat), x]) :=
      ⟨by show 2 ≤ sizeLine; decide, [.int i tk, x'], .cons ⟨_, rfl⟩ (.cons ru .nil), ⟨_, hT2, rfl, _, rfl⟩⟩
    have I1 : Inv X pins σ (upd H s.heap.objs.size (.tup [.int (i : Nat), x])) { s with heap := h'', toks := tk + 1 } :=
      I.turnedNew (ch := [e, it]) (fun b ob hb q => (sb.2 b (fun z => hb (by simp [z]))).trans (hk b ob (fun z => hb (by simp [z])) (fun z => hb (by simp [z])) q)) hf (Nat.le_refl _) new
    refine ⟨.ref s.heap.objs.size, _, I1, rfl, ⟨_, x, rfl, I.hok.fresh (Nat.le_refl _), rfl, fun ys hy => by rw [I.tuple_inj hy hq]; exact hx⟩, ⟨⟨x', ?_⟩, hit'.at fun o q => (sb.2 it (Ne.symm hne)).trans q, hne, hai, hae⟩, fun b hb => ?_⟩
    · have e1 : ((i + 1 : Nat) : Int) = (i : Int) + 1 := by omega
      rw [e1]; exact he'
    · have hb' : b < s.heap.objs.size := by
        have e' : b = e ∨ b = it := by simpa using hb
        rcases e' with z | z
        · rw [z]; exact hel
        · rw [z]; exact hil
      rw [upd_ne (Nat.ne_of_lt hb')]
      exact (hf b hb).1
  done := by
    intro X hP hw hK hc i pins s σ H E I hf st hg
    subst hP hw hK
    obtain ⟨⟨old, he⟩, hit, hne, hai, hae⟩ := st
    obtain ⟨xs, hq, hx⟩ := hg
    obtain ⟨its, rv, p, hz⟩ := I.tuple hq
    obtain ⟨f0, f1, f2, f3, f4, f5⟩ := hf it (by simp)
    have hl := rv.length
    have pT : s.heap.IsTuple a its.toArray := p
    have hT : s.TypeIs (.ref e) "enumerate" := ⟨_, he, rfl⟩
    unfold pyNext
    refine wpAny_bind (wpAny_attempt (wpAny_callSpecial?_slot (name := Str.ofString "__next__") hT F.slot_enumerate_next
      (wpAny_call_entry F.slot_enumerate_next hT F.entry_enumerate_next ?_ (F.args_enumerate_next_1 _))))
    show wpAny _ _ (field (.ref e) 2 >>= _) _ _ _
    refine wpAny_bind (wpAny_field he rfl (x := .ref it) rfl ?_)
    refine wpAny_bind (wpAny_nextOf_tuple_end (I.ok.hd hc) hit pT (by simp; omega) fun h' x he' hx' => ?_)
    obtain ⟨o, ho, hc'⟩ := hx'
    refine wpAny_bind (wpAny_isInstance (T := "StopIteration") (b := true) ⟨o, ho, hc'⟩ isSubtype_stop ?_)
    exact wpAny_pure ⟨rfl, I.turned (t' := s.toks) (fun b o hb q => he' b o hb q) f0 f1 f3 f4 f5⟩
  self := fun A i s Q E st h => let ⟨⟨_, he⟩, _⟩ := st; wpAny_pyIter_enum he h
theorem walk_enumT {K : PySem.W.Frag} {a : Addr} {xs : List V} : Walk (IteT K a) xs.length (fun H => SqT K H a xs) (YPair (fun i => some (.int (i : Nat))) (fun i => xs[i]?)) := by
  refine ⟨fun i H hi g => ⟨xs, xs[i], g, by simp [hi]⟩, fun H g => ⟨xs, g, Nat.le_refl _⟩, fun i H x H' hi g y => ?_⟩
  obtain ⟨T, z, e1, n, e2, f⟩ := y
  exact ⟨T, _, z, e1, n, e2, rfl, f xs g⟩
end MiS

namespace Mi
open PySem L2
/-! ## what is walked -/
/-- what cannot be written stays -/
structure ExtI (ι : List Addr) (H : Hp) (ι1 : List Addr) (H1 : Hp) : Prop where
  pre : ∃ ex, ι1 = ι ++ ex
  fr : ∀ a o, H a = some o → isM o = false → H1 a = some o
theorem Ext.toI {ι ι1 : List Addr} {H H1 : Hp} (e : Ext ι H ι1 H1) (m : MutI ι H) : ExtI ι H ι1 H1 :=
  ⟨let ⟨ex, q, _⟩ := e.pre; ⟨ex, q⟩, fun a o q z => e.fr a o q fun hi => by obtain ⟨o', e', z'⟩ := m a hi; rw [q] at e'; cases e'; rw [z] at z'; cases z'⟩
theorem ExtI.get {ι ι1 : List Addr} {H H1 : Hp} {a : Addr} (e : ExtI ι H ι1 H1) {n : Nat} (q : ι[n]? = some a) : ι1[n]? = some a := by
  obtain ⟨ex, rfl⟩ := e.pre
  obtain ⟨hn, _⟩ := List.getElem?_eq_some_iff.mp q
  rw [List.getElem?_append_left hn]; exact q
theorem FzL.extI {K : PySem.W.Frag} {ι ι1 : List Addr} {H H1 : Hp} {a : Addr} {xs : List V} (e : ExtI ι H ι1 H1) (r : FzL K H a xs) : FzL K H1 a xs := by
  rcases r with ⟨o, r⟩ | r
  · exact .inl ⟨o, e.fr a _ r rfl⟩
  · exact .inr r
mutual
theorem Rp.extI {K : PySem.W.Frag} {ι ι1 : List Addr} {H H1 : Hp} (e : ExtI ι H ι1 H1) : ∀ {d : D} {v : V}, Rp K ι H d v → Rp K ι1 H1 d v
  | _, _, .non => .non
  | _, _, .bl b => .bl b
  | _, _, .int i => .int i
  | _, _, .str x => .str x
  | _, _, .tup s r => .tup (e.fr _ _ s rfl) (RpL.extI e r)
  | _, _, .kt s r => .kt s (RpL.extI e r)
  | _, _, .ref q => .ref (e.get q)
  | _, _, .fz r => .fz (r.extI e)
theorem RpL.extI {K : PySem.W.Frag} {ι ι1 : List Addr} {H H1 : Hp} (e : ExtI ι H ι1 H1) : ∀ {xs : List D} {vs : List V}, RpL K ι H xs vs → RpL K ι1 H1 xs vs
  | _, _, .nil => .nil
  | _, _, .cons r s => .cons (Rp.extI e r) (RpL.extI e s)
end
/-- J gives the items of w as long as what must stay stays; t: what is walked and nobody's, made behind H0 -/
def WalkR (K : PySem.W.Frag) (H0 : Hp) (ι : List Addr) (H : Hp) (w : Its) (J : It) : Prop :=
  ∃ (G : Hp → Prop) (Y : Nat → Hp → V → Hp → Prop) (t : List Addr), L2.Walk J w.items.length G Y ∧ (∀ a ∈ t, H0 a = none ∧ a ∉ ι ∧ ∃ o, H a = some o) ∧
    (∀ ι2 H2 h2, ExtI ι H ι2 H2 → (∀ a ∈ t, H2 a = H a) → RelH K ι2 h2 H2 → liveOk w.live h2 = true → G H2) ∧
    ∀ i x ι2 H2 h2 H3, i < w.items.length → ExtI ι H ι2 H2 → (∀ a ∈ t, H2 a = H a) → RelH K ι2 h2 H2 → liveOk w.live h2 = true → Y i H2 x H3 → ∃ d, w.items[i]? = some d ∧ Same H2 H3 ∧ Rp K ι2 H3 d x
def PostI (K : PySem.W.Frag) (ι : List Addr) (H : Hp) (r : R Its) (Q : It → Hp → Prop) : Prop := match r with
  | .ok w h1 => ∀ ι1 J H1, Ext ι H ι1 H1 → RelH K ι1 h1 H1 → WalkR K H ι1 H1 w J → Q J H1
  | _ => False
def tI (K : PySem.W.Frag) (cl : Cl) (c : CI) : TI := fun σ H Q => ∃ ι δ h, RelE K ι δ h σ H ∧ PostI K ι H (evalI cl c δ h) Q
section
variable {K : PySem.W.Frag} {ι ι1 ι2 : List Addr} {H H1 H2 : Hp} {h h1 h2 : HS} {w : Its} {a : Addr} {d : D} {v : V} {n : Nat}
/-- a list, or a tuple, that keeps its items -/
def Stays (SQ : Hp → List V → Prop) (K : PySem.W.Frag) (H0 : Hp) (ι : List Addr) (H : Hp) (w : Its) : Prop :=
  ∃ t : List Addr, (∀ a ∈ t, H0 a = none ∧ a ∉ ι ∧ ∃ o, H a = some o) ∧
    ∀ ι3 H3 h3, ExtI ι H ι3 H3 → (∀ a ∈ t, H3 a = H a) → RelH K ι3 h3 H3 → liveOk w.live h3 = true → ∃ vs, SQ H3 vs ∧ RpL K ι3 H3 w.items vs
theorem no_t {ι : List Addr} {H0 H : Hp} : ∀ a ∈ ([] : List Addr), H0 a = none ∧ a ∉ ι ∧ ∃ o, H a = some o := fun _ h => by cases h
theorem walkD_ok (e : Ext ι H ι1 H1) (hn : ι.length = n) (r : RelH K ι1 h1 H1) (rp : Rp K ι1 H1 d v) (t : walkD n d h1 = .ok w h2) :
    ∃ ι2 a, Ext ι H ι2 H1 ∧ RelH K ι2 h2 H1 ∧ v = .ref a ∧ liveOk w.live h2 = true ∧ (Stays (fun H vs => SqL K H a vs) K H ι2 H1 w ∨ Stays (fun H vs => SqT K H a vs) K H ι2 H1 w) := by
  cases rp with
  | tup s q =>
    cases t
    exact ⟨ι1, _, e, r, rfl, rfl, .inr ⟨[], no_t, fun ι3 H3 h3 e3 _ r3 _ => ⟨_, SqT.of (e3.fr _ _ s rfl), q.extI e3⟩⟩⟩
  | kt s q =>
    cases t
    exact ⟨ι1, _, e, r, rfl, rfl, .inr ⟨[], no_t, fun ι3 H3 h3 e3 _ r3 _ => ⟨_, s.sq, q.extI e3⟩⟩⟩
  | fz f =>
    cases t
    exact ⟨ι1, _, e, r, rfl, rfl, .inl ⟨[], no_t, fun ι3 H3 h3 e3 _ r3 _ => ⟨_, (f.extI e3).sq, RpL.ints⟩⟩⟩
  | @ref c p er =>
    simp only [walkD] at t
    cases hc : h1[c]? with
    | none => rw [hc] at t; cases t
    | some cc =>
      rw [hc] at t
      cases cc with
      | lst xs =>
        obtain ⟨_, ws, z, _, e1, r1⟩ := (Rp.ref er : Rp K ι1 H1 _ _).lstOf r hc
        cases z
        have t : (if (decide (n ≤ c) && (h1.take n).all (Cell.lo n) && D.los n xs) = true then R.ok (⟨xs, none⟩ : Its) (h1.take n) else .ok ⟨xs, some (c, xs)⟩ h1) = .ok w h2 := t
        by_cases hb : (decide (n ≤ c) && (h1.take n).all (Cell.lo n) && D.los n xs) = true
        · rw [if_pos hb] at t; cases t
          rw [Bool.and_eq_true, Bool.and_eq_true, decide_eq_true_eq] at hb
          have rt := r.take hb.1.2
          rw [e.take hn] at rt
          obtain ⟨ex, hx, nx⟩ := e.pre
          have px : p ∈ ex := by
            rw [hx, List.getElem?_append_right (by omega)] at er
            exact List.mem_of_getElem? er
          have pn : p ∉ ι := fun hp => by
            have := r.nd
            rw [hx] at this
            exact (List.nodup_append.mp this).2.2 p hp p px rfl
          have rl := r1.low hb.2
          rw [e.take hn] at rl
          exact ⟨ι, p, e.cut, rt, rfl, rfl, .inl ⟨[p], fun a ha => by simp at ha; subst ha; exact ⟨nx _ px, pn, _, e1⟩, fun ι3 H3 h3 e3 t3 r3 _ => ⟨ws, SqL.of ((t3 p (by simp)).trans e1), rl.extI e3⟩⟩⟩
        · rw [if_neg hb] at t; cases t
          refine ⟨ι1, p, e, r, rfl, by simp [liveOk, hc], .inl ⟨[], no_t, fun ι3 H3 h3 e3 _ r3 lv => ?_⟩⟩
          have hc3 : h3[c]? = some (.lst xs) := by simpa [liveOk] using lv
          obtain ⟨_, ws3, z, _, e4, r4⟩ := (Rp.ref (e3.get er) : Rp K ι3 H3 _ _).lstOf r3 hc3
          cases z
          exact ⟨ws3, SqL.of e4, r4⟩
      | _ => cases t
  | _ => cases t
theorem walk_listX : L2.Walk (Itl K a) n (fun H => ∃ vs, SqL K H a vs ∧ vs.length = n) (fun i H x H' => H' = H ∧ ∀ vs, SqL K H a vs → vs[i]? = some x) :=
  ⟨fun i H hi ⟨vs, q, e⟩ => ⟨vs, vs[i]'(by omega), q, List.getElem?_eq_getElem (by omega)⟩, fun H ⟨vs, q, e⟩ => ⟨vs, q, by omega⟩, fun i H x H' _ _ y => y⟩
theorem walk_tupX : L2.Walk (Itt K a) n (fun H => ∃ vs, SqT K H a vs ∧ vs.length = n) (fun i H x H' => H' = H ∧ ∀ vs, SqT K H a vs → vs[i]? = some x) :=
  ⟨fun i H hi ⟨vs, q, e⟩ => ⟨vs, vs[i]'(by omega), q, List.getElem?_eq_getElem (by omega)⟩, fun H ⟨vs, q, e⟩ => ⟨vs, q, by omega⟩, fun i H x H' _ _ y => y⟩
theorem Stays.walk {SQ : Hp → List V → Prop} {J : It} {H0 : Hp} (s : Stays SQ K H0 ι H w) (hw : L2.Walk J w.items.length (fun H => ∃ vs, SQ H vs ∧ vs.length = w.items.length) (fun i H x H' => H' = H ∧ ∀ vs, SQ H vs → vs[i]? = some x)) : WalkR K H0 ι H w J := by
  obtain ⟨t, ht, s⟩ := s
  refine ⟨_, _, t, hw, ht, fun ι2 H2 h2 e2 t2 r2 lv => ?_, fun i x ι2 H2 h2 H3 hi e2 t2 r2 lv y => ?_⟩
  · obtain ⟨vs, q, r⟩ := s ι2 H2 h2 e2 t2 r2 lv
    exact ⟨vs, q, r.length.symm⟩
  · obtain ⟨rfl, y⟩ := y
    obtain ⟨vs, q, r⟩ := s ι2 H3 h2 e2 t2 r2 lv
    obtain ⟨d, e1, rd⟩ := r.getV (y vs q)
    exact ⟨d, e1, fun _ _ z => z, rd⟩
theorem enumL_length : ∀ (k : Nat) (xs : List D), (enumL k xs).length = xs.length
  | _, [] => rfl
  | k, x :: r => by rw [enumL, List.length_cons, List.length_cons, enumL_length]
theorem enumL_get : ∀ (xs : List D) (k i : Nat) (x : D), xs[i]? = some x → (enumL k xs)[i]? = some (.tup [.int ((k + i : Nat) : Int), x])
  | [], _, _, _, e => by simp at e
  | y :: r, k, 0, x, e => by simp at e; subst e; rfl
  | y :: r, k, i + 1, x, e => by
    have := enumL_get r (k + 1) i x (by simpa using e)
    rw [enumL, List.getElem?_cons_succ, this]
    have e2 : k + 1 + i = k + (i + 1) := by omega
    rw [e2]
theorem walk_enumXL : L2.Walk (Ite K a) n (fun H => ∃ vs, SqL K H a vs ∧ vs.length = n) (fun i H v H' => ∃ T x, v = .ref T ∧ H T = none ∧ H' = upd H T (.tup [.int (i : Nat), x]) ∧ ∀ vs, SqL K H a vs → vs[i]? = some x) :=
  ⟨fun i H hi ⟨vs, q, e⟩ => ⟨vs, vs[i]'(by omega), q, List.getElem?_eq_getElem (by omega)⟩, fun H ⟨vs, q, e⟩ => ⟨vs, q, by omega⟩, fun i H x H' _ _ y => y⟩
theorem walk_enumXT : L2.Walk (MiS.IteT K a) n (fun H => ∃ vs, SqT K H a vs ∧ vs.length = n) (fun i H v H' => ∃ T x, v = .ref T ∧ H T = none ∧ H' = upd H T (.tup [.int (i : Nat), x]) ∧ ∀ vs, SqT K H a vs → vs[i]? = some x) :=
  ⟨fun i H hi ⟨vs, q, e⟩ => ⟨vs, vs[i]'(by omega), q, List.getElem?_eq_getElem (by omega)⟩, fun H ⟨vs, q, e⟩ => ⟨vs, q, by omega⟩, fun i H x H' _ _ y => y⟩
theorem Stays.walkE {SQ : Hp → List V → Prop} {J : It} {H0 : Hp} (s : Stays SQ K H0 ι H w) (hw : L2.Walk J w.items.length (fun H => ∃ vs, SQ H vs ∧ vs.length = w.items.length) (fun i H v H' => ∃ T x, v = .ref T ∧ H T = none ∧ H' = upd H T (.tup [.int (i : Nat), x]) ∧ ∀ vs, SQ H vs → vs[i]? = some x)) :
    WalkR K H0 ι H ⟨enumL 0 w.items, w.live⟩ J := by
  obtain ⟨t, ht, s⟩ := s
  refine ⟨_, _, t, by rw [enumL_length]; exact hw, ht, fun ι2 H2 h2 e2 t2 r2 lv => ?_, fun i x ι2 H2 h2 H3 hi e2 t2 r2 lv y => ?_⟩
  · obtain ⟨vs, q, r⟩ := s ι2 H2 h2 e2 t2 r2 lv
    exact ⟨vs, q, r.length.symm⟩
  · obtain ⟨T, z, rfl, nT, rfl, y⟩ := y
    obtain ⟨vs, q, r⟩ := s ι2 H2 h2 e2 t2 r2 lv
    obtain ⟨d, e1, rd⟩ := r.getV (y vs q)
    have ex : Ext ι2 H2 ι2 (upd H2 T (.tup [.int (i : Nat), z])) := Ext.same (same_new nT)
    refine ⟨_, enumL_get _ 0 i d e1, same_new nT, .tup upd_same (.cons ?_ (.cons (rd.ext ex r2.mut) .nil))⟩
    rw [Nat.zero_add]; exact .int _
theorem walk_revXL : L2.Walk (Itv K a n) n (fun H => ∃ vs, SqL K H a vs ∧ vs.length = n) (fun i H x H' => H' = H ∧ ∀ vs, SqL K H a vs → vs[n - 1 - i]? = some x) :=
  ⟨fun i H hi ⟨vs, q, e⟩ => ⟨hi, vs, vs[n - 1 - i]'(by omega), q, List.getElem?_eq_getElem (by omega)⟩, fun H _ => Nat.le_refl _, fun i H x H' _ _ y => y⟩
theorem Stays.walkR {SQ : Hp → List V → Prop} {J : It} {H0 : Hp} (s : Stays SQ K H0 ι H w) (hw : L2.Walk J w.items.length (fun H => ∃ vs, SQ H vs ∧ vs.length = w.items.length) (fun i H x H' => H' = H ∧ ∀ vs, SQ H vs → vs[w.items.length - 1 - i]? = some x)) :
    WalkR K H0 ι H ⟨w.items.reverse, w.live⟩ J := by
  obtain ⟨t, ht, s⟩ := s
  refine ⟨_, _, t, by rw [List.length_reverse]; exact hw, ht, fun ι2 H2 h2 e2 t2 r2 lv => ?_, fun i x ι2 H2 h2 H3 hi e2 t2 r2 lv y => ?_⟩
  · obtain ⟨vs, q, r⟩ := s ι2 H2 h2 e2 t2 r2 lv
    exact ⟨vs, q, r.length.symm⟩
  · obtain ⟨rfl, y⟩ := y
    obtain ⟨vs, q, r⟩ := s ι2 H3 h2 e2 t2 r2 lv
    obtain ⟨d, e1, rd⟩ := r.getV (y vs q)
    refine ⟨d, ?_, fun _ _ z => z, rd⟩
    have hi : i < w.items.length := by simpa using hi
    rw [List.getElem?_reverse hi]; exact e1
theorem rngWalk {H0 : Hp} (lo hi : Int) : WalkR K H0 ι H ⟨rngL (lo, hi), none⟩ (Itr lo (hi - lo).toNat) := by
  have hl : (rngL (lo, hi)).length = (hi - lo).toNat := by simp [rngL]
  refine ⟨_, _, [], by rw [hl]; exact walk_range, no_t, fun _ _ _ _ _ _ _ => trivial, fun i x ι2 H2 h2 H3 hlt e2 _ r2 lv y => ?_⟩
  obtain ⟨rfl, rfl⟩ := y
  have hlt : i < (rngL (lo, hi)).length := hlt
  refine ⟨.int (lo + (i : Nat)), ?_, fun _ _ z => z, .int _⟩
  show (rngL (lo, hi))[i]? = _
  rw [hl] at hlt
  simp [rngL, hlt]
end
section
variable {X : Cx} {tg : Expr} {cl : Cl}
theorem pi_imp {e : Expr} {t t' : TI} (h : PI X tg e t) (i : ∀ σ H Q, t' σ H Q → t σ H Q) : PI X tg e t' := ⟨fun pins s σ H Q I q => h.run pins s σ H Q I (i σ H Q q)⟩
/-- a list or a tuple -/
def iSeq (K : PySem.W.Frag) (tl : TE) : TI := fun σ H R => tl σ H fun x H1 => ∃ a, x = .ref a ∧ (((∃ xs, SqL K H1 a xs) ∧ R (Itl K a) H1) ∨ ((∃ xs, SqT K H1 a xs) ∧ R (Itt K a) H1))
theorem pi_seqX {l : Expr} {tl : TE} (hl : PE X l tl) : PI X tg l (iSeq X.K tl) := by
  refine ⟨fun pins s σ H R I h => ?_⟩
  refine thn (hl.run pins s σ H _ I h) fun v s1 ⟨x, H1, I1, r1, q1⟩ => ?_
  obtain ⟨a, e, q⟩ := q1
  subst e
  cases r1
  rcases q with ⟨⟨xs, hq⟩, q⟩ | ⟨⟨xs, hq⟩, q⟩
  · obtain ⟨its, rv, p, hz⟩ := I1.list hq
    refine wpAny_pyIter_list p.isList ?_
    refine ⟨s1.heap.objs.size, [s1.heap.objs.size], _, _, H1, rfl, I1.kept (t' := s1.toks) fun b o e => Heap.get?_push_of_some _ e, turn_list a _, ⟨_, Heap.get?_push_size _ rfl, rfl, rfl⟩, fun b hb => ?_, q⟩
    have e : b = s1.heap.objs.size := by simpa using hb
    subst e
    exact I1.fpOk (Nat.le_refl _) (I1.hok.fresh (Nat.le_refl _))
  · obtain ⟨its, rv, p, hz⟩ := I1.tuple hq
    refine wpAny_pyIter_tuple (show s1.heap.IsTuple a its.toArray from p) ?_
    refine ⟨s1.heap.objs.size, [s1.heap.objs.size], _, _, H1, rfl, I1.kept (t' := s1.toks) fun b o e => Heap.get?_push_of_some _ e, turn_tuple a _, ⟨_, Heap.get?_push_size _ rfl, rfl, rfl⟩, fun b hb => ?_, q⟩
    have e : b = s1.heap.objs.size := by simpa using hb
    subst e
    exact I1.fpOk (Nat.le_refl _) (I1.hok.fresh (Nat.le_refl _))
open PyProof.Rows in
/-- enumerate of a list or a tuple -/
theorem pi_enumX {e : Expr} {ta : TE} {p pos tpos : Pos} {elts : List Expr} {kk : Nat} (hg : Gl X "enumerate") (hm : X.mg "enumerate" = none) (ha : PE X e ta) (hs : starEach [e] X.env = (false, eval e X.env) :: starEach [] X.env) :
    PI X (.Tuple elts kk tpos) (.Call (.Name "enumerate" p) [e] [] pos) (fun σ H R => ta σ H fun x H1 => ∃ a, x = .ref a ∧ (((∃ xs, SqL X.K H1 a xs) ∧ R (Ite X.K a) H1) ∨ ((∃ xs, SqT X.K H1 a xs) ∧ R (MiS.IteT X.K a) H1))) := by
  refine ⟨fun pins s σ H R I h => ?_⟩
  have hpa := pa_cons ha pa_nil hs
  refine Call_ (ld_blt I hg hm boot_enumerate (PyProof.Rows.callWith_type1 (thn (hpa.run pos pins s σ H (fun vs H1 => ∃ a, vs = [.ref a] ∧ (((∃ xs, SqL X.K H1 a xs) ∧ R (Ite X.K a) H1) ∨ ((∃ xs, SqT X.K H1 a xs) ∧ R (MiS.IteT X.K a) H1))) I ?_) fun us s1 ⟨vs, H1, I1, r1, q1⟩ => ?_) hs rfl))
  · refine (show ta σ H _ from ?_)
    have : (fun x H1 => ∃ a, x = V.ref a ∧ (((∃ xs, SqL X.K H1 a xs) ∧ R (Ite X.K a) H1) ∨ ((∃ xs, SqT X.K H1 a xs) ∧ R (MiS.IteT X.K a) H1))) = (fun (x : V) (H1 : Hp) => ∃ a, ([x] : List V) = [.ref a] ∧ (((∃ xs, SqL X.K H1 a xs) ∧ R (Ite X.K a) H1) ∨ ((∃ xs, SqT X.K H1 a xs) ∧ R (MiS.IteT X.K a) H1))) := by
      funext x H1; simp
    rw [this] at h
    exact h
  obtain ⟨a, ex, q⟩ := q1
  subst ex
  cases r1 with
  | cons r rr =>
    cases rr
    cases r
    rcases q with ⟨⟨xs, hq⟩, q⟩ | ⟨⟨xs, hq⟩, q⟩
    · obtain ⟨its, rv, p', hz⟩ := I1.list hq
      refine call_enumerate_list p'.isList fun h' he hit hsz hk => wpAny_pyIter_enum he ?_
      have I2 : Inv X pins σ H1 { s1 with heap := h' } := I1.kept (t' := s1.toks) hk
      refine ⟨s1.heap.objs.size + 1, [s1.heap.objs.size + 1, s1.heap.objs.size], _, _, H1, rfl, I2, turn_enum a (s1.heap.objs.size + 1) s1.heap.objs.size, ⟨⟨.none, he⟩, hit, Nat.succ_ne_self _⟩, fun b hb => ?_, q⟩
      have e' : b = s1.heap.objs.size + 1 ∨ b = s1.heap.objs.size := by simpa using hb
      have hle : s1.heap.objs.size ≤ b := by
        rcases e' with z | z
        · rw [z]; exact Nat.le_add_right _ _
        · rw [z]; exact Nat.le_refl _
      exact I1.fpOk hle (I1.hok.fresh hle)
    · obtain ⟨its, rv, p', hz⟩ := I1.tuple hq
      have pT : s1.heap.IsTuple a its.toArray := p'
      have al : a < s1.heap.objs.size := by obtain ⟨o, ho, _⟩ := p'; exact Heap.lt_size ho
      refine mi_enum_begins (begins_tuple a its.toArray) pT fun h' he hit hsz hk => wpAny_pyIter_enum he ?_
      have I2 : Inv X pins σ H1 { s1 with heap := h' } := I1.kept (t' := s1.toks) hk
      refine ⟨s1.heap.objs.size + 1, [s1.heap.objs.size + 1, s1.heap.objs.size], _, _, H1, rfl, I2, MiS.turn_enumT a (s1.heap.objs.size + 1) s1.heap.objs.size, ⟨⟨.none, he⟩, ⟨_, hit, rfl, rfl⟩, Nat.succ_ne_self _, Nat.ne_of_lt al, Nat.ne_of_lt (Nat.lt_succ_of_lt al)⟩, fun b hb => ?_, q⟩
      have e' : b = s1.heap.objs.size + 1 ∨ b = s1.heap.objs.size := by simpa using hb
      have hle : s1.heap.objs.size ≤ b := by
        rcases e' with z | z
        · rw [z]; exact Nat.le_add_right _ _
        · rw [z]; exact Nat.le_refl _
      exact I1.fpOk hle (I1.hok.fresh hle)
variable {e : Expr} {ce : CE}
/-- the common step: the walked thing is evaluated -/
theorem step_I {K : PySem.W.Frag} {ι : List Addr} {δ : En} {h : HS} {σ : St} {H : Hp} {F : Its → Its} {R' : VK} {Q : It → Hp → Prop} (re : RelE K ι δ h σ H) (q : PostI K ι H ((evalE cl ce δ h).bind fun x h1 => (walkD h.length x h1).bind fun w h2 => .ok (F w) h2) Q)
    (k : ∀ w ι2 a H1 h2, Ext ι H ι2 H1 → RelH K ι2 h2 H1 → liveOk w.live h2 = true → (Stays (fun H vs => SqL K H a vs) K H ι2 H1 w ∨ Stays (fun H vs => SqT K H a vs) K H ι2 H1 w) → (∀ J, WalkR K H ι2 H1 (F w) J → Q J H1) → R' (.ref a) H1) : tE K cl ce σ H R' := by
  cases ee : evalE cl ce δ h with
  | ok x h1 =>
    rw [ee, R.bind_ok] at q
    refine ⟨ι, δ, h, re, ?_⟩
    rw [ee]
    intro ι1 v H1 ex r1 rp
    cases ew : walkD h.length x h1 with
    | ok w h2 =>
      rw [ew, R.bind_ok] at q
      obtain ⟨ι2, a, e2, r2, rfl, lv, st⟩ := walkD_ok ex re.rel.len r1 rp ew
      exact k w ι2 a H1 h2 e2 r2 lv st fun J hJ => q ι2 J H1 e2 r2 hJ
    | exc _ _ _ => rw [ew] at q; exact q.elim
    | bad => rw [ew] at q; exact q.elim
  | exc _ _ _ => rw [ee] at q; exact q.elim
  | bad => rw [ee] at q; exact q.elim
theorem bind_id (r : R Its) : (r.bind fun w h => .ok w h) = r := by cases r <;> rfl
theorem i_seq (ha : PE X e (tE X.K cl ce)) : PI X tg e (tI X.K cl (.seq ce)) := by
  refine pi_imp (pi_seqX ha) ?_
  rintro σ H Q ⟨ι, δ, h, re, q⟩
  simp only [evalI] at q
  refine step_I (F := id) (Q := Q) re ?_ fun w ι2 a H1 h2 e2 r2 lv st k => ⟨a, rfl, ?_⟩
  · have : (fun (x : D) h1 => (walkD h.length x h1).bind fun w h2 => R.ok (id w) h2) = fun x h1 => walkD h.length x h1 := by
      funext x h1; exact bind_id _
    rw [this]; exact q
  rcases st with st | st
  · obtain ⟨vs, sq, _⟩ := st.choose_spec.2 ι2 H1 h2 (Ext.refl.toI r2.mut) (fun _ _ => rfl) r2 lv
    exact .inl ⟨⟨vs, sq⟩, k _ (st.walk walk_listX)⟩
  · obtain ⟨vs, sq, _⟩ := st.choose_spec.2 ι2 H1 h2 (Ext.refl.toI r2.mut) (fun _ _ => rfl) r2 lv
    exact .inr ⟨⟨vs, sq⟩, k _ (st.walk walk_tupX)⟩
theorem i_enum {p pos tpos : Pos} {elts : List Expr} {kk : Nat} (hg : Gl X "enumerate") (hm : X.mg "enumerate" = none) (ha : PE X e (tE X.K cl ce)) (hs : starEach [e] X.env = (false, eval e X.env) :: starEach [] X.env) :
    PI X (.Tuple elts kk tpos) (.Call (.Name "enumerate" p) [e] [] pos) (tI X.K cl (.enum ce)) := by
  refine pi_imp (pi_enumX hg hm ha hs) ?_
  rintro σ H Q ⟨ι, δ, h, re, q⟩
  simp only [evalI] at q
  refine step_I (F := fun w => ⟨enumL 0 w.items, w.live⟩) re q fun w ι2 a H1 h2 e2 r2 lv st k => ⟨a, rfl, ?_⟩
  rcases st with st | st
  · obtain ⟨vs, sq, _⟩ := st.choose_spec.2 ι2 H1 h2 (Ext.refl.toI r2.mut) (fun _ _ => rfl) r2 lv
    exact .inl ⟨⟨vs, sq⟩, k _ (st.walkE walk_enumXL)⟩
  · obtain ⟨vs, sq, _⟩ := st.choose_spec.2 ι2 H1 h2 (Ext.refl.toI r2.mut) (fun _ _ => rfl) r2 lv
    exact .inr ⟨⟨vs, sq⟩, k _ (st.walkE walk_enumXT)⟩
theorem i_rng1 {a : Expr} {ca : CE} {p pos : Pos} (hg : Gl X "range") (hm : X.mg "range" = none) (ha : PE X a (tE X.K cl ca)) (na : starEach [a] X.env = (false, eval a X.env) :: starEach [] X.env) :
    PI X tg (.Call (.Name "range" p) [a] [] pos) (tI X.K cl (.rng (.cons ca .nil))) := by
  refine pi_imp (pi_range1 hg hm (p_cons ha p_nil na) na) ?_
  rintro σ H Q ⟨ι, δ, h, re, q⟩
  simp only [evalI] at q
  cases ee : evalL cl (.cons ca .nil) δ h with
  | ok xs h1 =>
    rw [ee, R.bind_ok] at q
    refine ⟨ι, δ, h, re, ?_⟩
    rw [ee]
    intro ι1 vs H1 ex r1 rp
    cases er : rngF xs with
    | none => rw [er] at q; exact q.elim
    | some pr =>
      rw [er] at q
      match xs, er, rp with
      | [x], er, rp =>
        obtain ⟨j, rfl, rfl, hj⟩ := rngF_one er
        obtain ⟨v, rfl, rv⟩ := rp.one
        cases rv
        have q := q ι1 (Itr 0 (j - 0).toNat) H1 ex r1 (rngWalk 0 j)
        rw [Int.sub_zero] at q
        refine ⟨j, rfl, by unfold LIM at hj; omega, by unfold LIM at hj; omega, q⟩
      | [], er, rp => cases er
      | x :: y :: z, er, rp =>
        have : (evalL cl (.cons ca .nil) δ h) = .ok (x :: y :: z) h1 := ee
        simp only [evalL] at this
        cases e2 : evalE cl ca δ h with
        | ok x h2 => rw [e2] at this; cases this
        | exc _ _ _ => rw [e2] at this; cases this
        | bad => rw [e2] at this; cases this
  | exc _ _ _ => rw [ee] at q; exact q.elim
  | bad => rw [ee] at q; exact q.elim
end
end Mi

namespace Mi
open PySem L2
/-! ## x op= y -/
section
variable {X : Cx}
theorem iopI {C : Int → Int → Prop} {g : Int → Int → V} {op : Value → Value → Sem Value} {f : D → D → HS → R D} (h : OpR X op (rI C g))
    (k : ∀ a b h Q H ι, RelH X.K ι h H → PostE X.K ι H (f a b h) Q → ∃ i j, a = .int i ∧ b = .int j ∧ C i j ∧ Q (g i j) H) : OpR X op (rM f X.K) := o_int h fun a b h Q H ι q r => k a b h Q H ι r q
theorem i_add : OpR X (inplaceOp .Add) (rM (augF .Add) X.K) := by
  intro pins s σ H x y u v Q I rx ry hq
  obtain ⟨ι, h, a, b, rh, ra, rb, q⟩ := hq
  cases ra with
  | int i =>
    cases rb with
    | int j => exact iop_add pins s σ H _ _ u v Q I rx ry ⟨i, j, rfl, rfl, q.val rh (.int _)⟩
    | _ => exact q.elim
  | str i =>
    cases rb with
    | str j =>
      have q : PostE X.K ι H (if i.length + j.length ≤ LIM then .ok (.str (i ++ j)) h else .bad) Q := q
      by_cases c : i.length + j.length ≤ LIM
      · rw [if_pos c] at q
        exact iop_add_str pins s σ H _ _ u v Q I rx ry ⟨i, j, rfl, rfl, by rw [← LIM_line]; exact c, q.val rh (.str _)⟩
      · rw [if_neg c] at q; exact q.elim
    | _ => exact q.elim
  | @ref n p er =>
    cases rb with
    | @ref m p2 er2 =>
      have q : PostE X.K ι H (match h[n]?, h[m]? with
        | some (.lst xs), some (.lst ys) => if xs.length + ys.length ≤ LIM then .ok (.ref n) (h.set n (.lst (xs ++ ys))) else .bad
        | _, _ => .bad) Q := q
      cases hc : h[n]? with
      | none => rw [hc] at q; exact q.elim
      | some c =>
        rw [hc] at q
        cases c with
        | lst xs =>
          cases hc2 : h[m]? with
          | none => rw [hc2] at q; exact q.elim
          | some c2 =>
            rw [hc2] at q
            cases c2 with
            | lst ys =>
              have q : PostE X.K ι H (if xs.length + ys.length ≤ LIM then .ok (.ref n) (h.set n (.lst (xs ++ ys))) else .bad) Q := q
              by_cases c : xs.length + ys.length ≤ LIM
              · rw [if_pos c] at q
                obtain ⟨_, vs, z, _, e1, r1⟩ := (Rp.ref er : Rp X.K ι H _ _).lstOf rh hc
                cases z
                obtain ⟨_, ws, z, _, e2, r2⟩ := (Rp.ref er2 : Rp X.K ι H _ _).lstOf rh hc2
                cases z
                refine iop_ext pins s σ H _ _ u v Q I rx ry ⟨p, p2, vs, ws, rfl, rfl, e1, e2, by rw [← LIM_line, ← r1.length, ← r2.length]; exact c, ?_⟩
                exact q.setL rh er (r1.append r2) (.ref er)
              · rw [if_neg c] at q; exact q.elim
            | _ => exact q.elim
        | _ => exact q.elim
    | _ => exact q.elim
  | _ => exact q.elim
theorem i_sub : OpR X (inplaceOp .Sub) (rM (augF .Sub) X.K) := by
  refine iopI (C := fun _ _ => True) (OpR.imp iop_sub fun x y H Q ⟨i, j, e1, e2, _, q⟩ => ⟨i, j, e1, e2, q⟩) ?_
  intro a b h Q H ι rh q
  cases a <;> first | exact q.elim | skip
  cases b <;> first | exact q.elim | skip
  exact ⟨_, _, rfl, rfl, trivial, q.val rh (.int _)⟩
theorem i_mul : OpR X (inplaceOp .Mult) (rM (augF .Mult) X.K) := by
  refine iopI iop_mul ?_
  intro a b h Q H ι rh q
  cases a <;> first | exact q.elim | skip
  cases b <;> first | exact q.elim | skip
  rename_i i j
  have q : PostE X.K ι H (if mulOk i j = true then .ok (.int (i * j)) h else .bad) Q := q
  by_cases c : mulOk i j = true
  · rw [if_pos c] at q
    refine ⟨i, j, rfl, rfl, ?_, q.val rh (.int _)⟩
    simp only [mulOk, Bool.or_eq_true, Bool.and_eq_true, decide_eq_true_eq] at c
    exact c
  · rw [if_neg c] at q; exact q.elim
theorem i_fdiv : OpR X (inplaceOp .FloorDiv) (rM (augF .FloorDiv) X.K) := by
  refine iopI iop_fdiv ?_
  intro a b h Q H ι rh q
  cases a <;> first | exact q.elim | skip
  cases b <;> first | exact q.elim | skip
  rename_i i j
  have q : PostE X.K ι H (if (decide (0 < j) && decide (j < 1073741824)) = true then .ok (.int (i / j)) h else .bad) Q := q
  by_cases c : (decide (0 < j) && decide (j < 1073741824)) = true
  · rw [if_pos c] at q
    simp only [Bool.and_eq_true, decide_eq_true_eq] at c
    exact ⟨i, j, rfl, rfl, c, q.val rh (.int _)⟩
  · rw [if_neg c] at q; exact q.elim
theorem i_mod : OpR X (inplaceOp .Mod) (rM (augF .Mod) X.K) := by
  refine iopI iop_mod ?_
  intro a b h Q H ι rh q
  cases a <;> first | exact q.elim | skip
  cases b <;> first | exact q.elim | skip
  rename_i i j
  have q : PostE X.K ι H (if decide (0 < j) = true then .ok (.int (i % j)) h else .bad) Q := q
  by_cases c : decide (0 < j) = true
  · rw [if_pos c] at q
    exact ⟨i, j, rfl, rfl, of_decide_eq_true c, q.val rh (.int _)⟩
  · rw [if_neg c] at q; exact q.elim
theorem i_xor : OpR X (inplaceOp .BitXor) (rM (augF .BitXor) X.K) := by
  refine iopI (C := fun _ _ => True) (OpR.imp iop_xor fun x y H Q ⟨i, j, e1, e2, _, q⟩ => ⟨i, j, e1, e2, q⟩) ?_
  intro a b h Q H ι rh q
  cases a <;> first | exact q.elim | skip
  cases b <;> first | exact q.elim | skip
  exact ⟨_, _, rfl, rfl, trivial, q.val rh (.int _)⟩
def augOk : Operator → Bool
  | .Add | .Sub | .Mult | .FloorDiv | .Mod | .BitXor => true
  | _ => false
theorem i_any {o : Operator} (e : augOk o = true) : OpR X (inplaceOp o) (rM (augF o) X.K) := by
  cases o <;> first | exact i_add | exact i_sub | exact i_mul | exact i_fdiv | exact i_mod | exact i_xor | cases e
end
/-! ## what is wanted behind statements -/
def PostF (K : PySem.W.Frag) (ι : List Addr) (H : Hp) (r : Fl) (E : Ends) : Prop := match r with
  | .next δ h => ∀ ι1 σ H1, Ext ι H ι1 H1 → RelE K ι1 δ h σ H1 → E.nx σ H1
  | .brk δ h => ∀ ι1 σ H1, Ext ι H ι1 H1 → RelE K ι1 δ h σ H1 → E.bk σ H1
  | .cont δ h => ∀ ι1 σ H1, Ext ι H ι1 H1 → RelE K ι1 δ h σ H1 → E.ct σ H1
  | .ret d h => ∀ ι1 v H1, Ext ι H ι1 H1 → RelH K ι1 h H1 → Rp K ι1 H1 d v → E.rt v H1
  | .exc _ _ _ => False
  | .bad => False
def tS (K : PySem.W.Frag) (cl : Cl) (c : CS) : TS := fun E σ H => ∃ ι δ h, RelE K ι δ h σ H ∧ PostF K ι H (execS cl c δ h) E
def tSs (K : PySem.W.Frag) (cl : Cl) (c : CSs) : TS := fun E σ H => ∃ ι δ h, RelE K ι δ h σ H ∧ PostF K ι H (execB cl c δ h) E
def PostA (K : PySem.W.Frag) (ι : List Addr) (H : Hp) (r : R En) (Q : St → Hp → Prop) : Prop := match r with
  | .ok δ h => ∀ ι1 σ H1, Ext ι H ι1 H1 → RelE K ι1 δ h σ H1 → Q σ H1
  | _ => False
def tA (K : PySem.W.Frag) (cl : Cl) (t : AT) : TG := fun v σ H Q => ∃ ι δ h d, RelE K ι δ h σ H ∧ Rp K ι H d v ∧ PostA K ι H (asgA cl t d δ h) Q
def tAs (K : PySem.W.Frag) (cl : Cl) (ts : List AT) : TGs := fun vs σ H Q => ∃ ι δ h ds, RelE K ι δ h σ H ∧ RpL K ι H ds vs ∧ PostA K ι H (asgAs cl ts ds δ h) Q
section
variable {K : PySem.W.Frag} {ι ι1 ι2 : List Addr} {δ δ1 : En} {h h1 : HS} {σ : St} {H H1 H2 : Hp} {E E' : Ends} {cl : Cl} {ce : CE} {d : D} {v : V}
theorem PostF.shift {r : Fl} (e : Ext ι H ι1 H1) (m : MutI ι1 H1) (q : PostF K ι H r E) : PostF K ι1 H1 r E := by
  cases r with
  | next δ h => exact fun ι2 σ H2 e2 r2 => q ι2 σ H2 (e.trans m e2) r2
  | brk δ h => exact fun ι2 σ H2 e2 r2 => q ι2 σ H2 (e.trans m e2) r2
  | cont δ h => exact fun ι2 σ H2 e2 r2 => q ι2 σ H2 (e.trans m e2) r2
  | ret d h => exact fun ι2 v H2 e2 r2 rp => q ι2 v H2 (e.trans m e2) r2 rp
  | exc _ _ _ => exact q
  | bad => exact q
theorem RelE.set {i : Nat} (re : RelE K ι δ h σ H) (rp : Rp K ι H d v) : RelE K ι (δ.set i (some d)) h (σ.set i (some v)) H := by
  refine ⟨re.rel, by rw [List.length_set, List.length_set, re.len], fun j d' e => ?_⟩
  by_cases hj : i = j
  · subst hj
    have hl : i < δ.length := by
      have := (List.getElem?_eq_some_iff.mp e).1
      simpa using this
    rw [List.getElem?_set_self hl] at e
    cases e
    exact ⟨v, by rw [List.getElem?_set_self (by rw [← re.len]; exact hl)], rp⟩
  · rw [List.getElem?_set_ne hj] at e
    obtain ⟨w, e1, r1⟩ := re.env j d' e
    exact ⟨w, by rw [List.getElem?_set_ne hj]; exact e1, r1⟩
theorem RelE.same (re : RelE K ι δ h σ H) (s : Same H H1) : RelE K ι δ h σ H1 := re.ext (Ext.same s) (re.rel.same s)
/-! ### steps -/
theorem F_E {f : D → HS → Fl} {R' : VK} (re : RelE K ι δ h σ H) (q : PostF K ι H ((evalE cl ce δ h).fl f) E)
    (k : ∀ x h1 ι1 v H1, Ext ι H ι1 H1 → RelE K ι1 δ h1 σ H1 → Rp K ι1 H1 x v → PostF K ι1 H1 (f x h1) E → R' v H1) : tE K cl ce σ H R' := by
  refine ⟨ι, δ, h, re, ?_⟩
  cases e : evalE cl ce δ h with
  | ok x h1 =>
    rw [e] at q
    exact fun ι1 v H1 ex r1 rp => k x h1 ι1 v H1 ex (re.ext ex r1) rp (PostF.shift ex r1.mut q)
  | exc _ _ _ => rw [e] at q; exact q.elim
  | bad => rw [e] at q; exact q.elim
theorem F_L {c : CL} {f : List D → HS → Fl} {R' : List V → Hp → Prop} (re : RelE K ι δ h σ H) (q : PostF K ι H ((evalL cl c δ h).fl f) E)
    (k : ∀ x h1 ι1 v H1, Ext ι H ι1 H1 → RelE K ι1 δ h1 σ H1 → RpL K ι1 H1 x v → PostF K ι1 H1 (f x h1) E → R' v H1) : tL K cl c σ H R' := by
  refine ⟨ι, δ, h, re, ?_⟩
  cases e : evalL cl c δ h with
  | ok x h1 =>
    rw [e] at q
    exact fun ι1 v H1 ex r1 rp => k x h1 ι1 v H1 ex (re.ext ex r1) rp (PostF.shift ex r1.mut q)
  | exc _ _ _ => rw [e] at q; exact q.elim
  | bad => rw [e] at q; exact q.elim
theorem F_B {c : CB} {f : Bool → HS → Fl} {R' : Bool → Hp → Prop} (re : RelE K ι δ h σ H) (q : PostF K ι H ((evalB cl c δ h).fl f) E)
    (k : ∀ x h1 ι1 H1, Ext ι H ι1 H1 → RelE K ι1 δ h1 σ H1 → PostF K ι1 H1 (f x h1) E → R' x H1) : tB K cl c σ H R' := by
  refine ⟨ι, δ, h, re, ?_⟩
  cases e : evalB cl c δ h with
  | ok x h1 =>
    rw [e] at q
    intro ι1 v H1 ex r1 rp
    subst rp
    exact k x h1 ι1 H1 ex (re.ext ex r1) (PostF.shift ex r1.mut q)
  | exc _ _ _ => rw [e] at q; exact q.elim
  | bad => rw [e] at q; exact q.elim
theorem F_I {c : CI} {f : Its → HS → Fl} {R' : It → Hp → Prop} (re : RelE K ι δ h σ H) (q : PostF K ι H ((evalI cl c δ h).fl f) E)
    (k : ∀ w h1 ι1 J H1, Ext ι H ι1 H1 → RelE K ι1 δ h1 σ H1 → WalkR K H ι1 H1 w J → PostF K ι1 H1 (f w h1) E → R' J H1) : tI K cl c σ H R' := by
  refine ⟨ι, δ, h, re, ?_⟩
  cases e : evalI cl c δ h with
  | ok w h1 =>
    rw [e] at q
    exact fun ι1 J H1 ex r1 rp => k w h1 ι1 J H1 ex (re.ext ex r1) rp (PostF.shift ex r1.mut q)
  | exc _ _ _ => rw [e] at q; exact q.elim
  | bad => rw [e] at q; exact q.elim
theorem PostF.next (q : PostF K ι H (.next δ h) E) (re : RelE K ι δ h σ H) : E.nx σ H := q ι σ H Ext.refl re
end
section
variable {X : Cx} {cl : Cl} {e o i : Expr} {ce co ci : CE} {pos : Pos} {st : Stmt} {rest : List Stmt} {cs : CS} {cr : CSs}
theorem ps_imp {t t' : TS} (h : PS X st t) (i : ∀ E σ H, t' E σ H → t E σ H) : PS X st t' := ⟨fun pins s σ H E I q => h.run pins s σ H E I (i E σ H q)⟩
theorem pss_imp {sts : List Stmt} {t t' : TS} (h : PSs X sts t) (i : ∀ E σ H, t' E σ H → t E σ H) : PSs X sts t' := ⟨fun pins s σ H E I q => h.run pins s σ H E I (i E σ H q)⟩
theorem pg_imp {t t' : TG} (h : PG X e t) (i : ∀ v σ H Q, t' v σ H Q → t v σ H Q) : PG X e t' := ⟨fun pins s σ H v u Q I r q => h.run pins s σ H v u Q I r (i v σ H Q q)⟩
theorem pgs_imp {es : List Expr} {t t' : TGs} (h : PGs X es t) (i : ∀ v σ H Q, t' v σ H Q → t v σ H Q) : PGs X es t' := ⟨fun pins s σ H v u Q I r q => h.run pins s σ H v u Q I r (i v σ H Q q)⟩
theorem s_nil : PSs X [] (tSs X.K cl .nil) := by
  refine pss_imp pss_nil ?_
  rintro E σ H ⟨ι, δ, h, re, q⟩
  simp only [execB] at q
  exact q.next re
theorem s_cons (h1 : PS X st (tS X.K cl cs)) (h2 : PSs X rest (tSs X.K cl cr)) : PSs X (st :: rest) (tSs X.K cl (.cons cs cr)) := by
  refine pss_imp (pss_cons h1 h2) ?_
  rintro E σ H ⟨ι, δ, h, re, q⟩
  simp only [execB] at q
  refine ⟨ι, δ, h, re, ?_⟩
  cases e : execS cl cs δ h with
  | next δ1 h1 =>
    rw [e] at q
    intro ι1 σ1 H1 ex r1
    exact ⟨ι1, δ1, h1, r1, PostF.shift ex r1.rel.mut q⟩
  | brk δ1 h1 => rw [e] at q; exact q
  | cont δ1 h1 => rw [e] at q; exact q
  | ret d h1 => rw [e] at q; exact q
  | exc _ _ _ => rw [e] at q; exact q
  | bad => rw [e] at q; exact q
theorem s_pass : PS X (.Pass pos) (tS X.K cl .pass) := by
  refine ps_imp ps_pass ?_
  rintro E σ H ⟨ι, δ, h, re, q⟩
  simp only [execS] at q
  exact q.next re
theorem s_doc {x j pos'} : PS X (.Expr (.Constant (.str x) j pos) pos') (tS X.K cl .pass) := by
  refine ps_imp ps_doc ?_
  rintro E σ H ⟨ι, δ, h, re, q⟩
  simp only [execS] at q
  exact q.next re
theorem s_brk : PS X (.Break pos) (tS X.K cl .brk) := by
  refine ps_imp ps_break ?_
  rintro E σ H ⟨ι, δ, h, re, q⟩
  simp only [execS] at q
  exact q _ _ _ Ext.refl re
theorem s_cont : PS X (.Continue pos) (tS X.K cl .cont) := by
  refine ps_imp ps_continue ?_
  rintro E σ H ⟨ι, δ, h, re, q⟩
  simp only [execS] at q
  exact q _ _ _ Ext.refl re
theorem s_ex (he : PE X e (tE X.K cl ce)) (hs : swapsWith e none pos.line X.env = pure false) : PS X (.Expr e pos) (tS X.K cl (.ex ce)) := by
  refine ps_imp (ps_expr he hs) ?_
  rintro E σ H ⟨ι, δ, h, re, q⟩
  simp only [execS] at q
  exact F_E re q fun x h1 ι1 v H1 e1 r1 rx q => q.next r1
theorem s_ret (he : PE X e (tE X.K cl ce)) : PS X (.Return (some e) pos) (tS X.K cl (.ret ce)) := by
  refine ps_imp (ps_ret he) ?_
  rintro E σ H ⟨ι, δ, h, re, q⟩
  simp only [execS] at q
  exact F_E re q fun x h1 ι1 v H1 e1 r1 rx q => q ι1 v H1 Ext.refl r1.rel rx
theorem s_retn : PS X (.Return none pos) (tS X.K cl .retn) := by
  refine ps_imp ps_retN ?_
  rintro E σ H ⟨ι, δ, h, re, q⟩
  simp only [execS] at q
  exact q ι .non H Ext.refl re.rel .non
theorem s_if {c : Expr} {a b : List Stmt} {cc : CB} {ca cb : CSs} (hc : PT X c (tB X.K cl cc)) (ha : PSs X a (tSs X.K cl ca)) (hb : PSs X b (tSs X.K cl cb)) : PS X (.If c a b pos) (tS X.K cl (.ifs cc ca cb)) := by
  refine ps_imp (ps_if hc ha hb) ?_
  rintro E σ H ⟨ι, δ, h, re, q⟩
  simp only [execS] at q
  refine F_B re q fun x h1 ι1 H1 e1 r1 q => ?_
  cases x with
  | true => exact ⟨_, _, _, r1, q⟩
  | false => exact ⟨_, _, _, r1, q⟩
/-! ### targets -/
theorem PostA.shift {K : PySem.W.Frag} {ι ι1 : List Addr} {H H1 : Hp} {r : R En} {Q : St → Hp → Prop} (e : Ext ι H ι1 H1) (m : MutI ι1 H1) (q : PostA K ι H r Q) : PostA K ι1 H1 r Q := by
  cases r with
  | ok δ h => exact fun ι2 σ H2 e2 r2 => q ι2 σ H2 (e.trans m e2) r2
  | exc _ _ _ => exact q
  | bad => exact q
theorem A_E {K : PySem.W.Frag} {ι : List Addr} {H : Hp} {δ : En} {h : HS} {σ : St} {f : D → HS → R En} {R' : VK} {Q : St → Hp → Prop} (re : RelE K ι δ h σ H) (q : PostA K ι H ((evalE cl ce δ h).bind f) Q)
    (k : ∀ x h1 ι1 v H1, Ext ι H ι1 H1 → RelE K ι1 δ h1 σ H1 → Rp K ι1 H1 x v → PostA K ι1 H1 (f x h1) Q → R' v H1) : tE K cl ce σ H R' := by
  refine ⟨ι, δ, h, re, ?_⟩
  cases e : evalE cl ce δ h with
  | ok x h1 =>
    rw [e] at q
    exact fun ι1 v H1 ex r1 rp => k x h1 ι1 v H1 ex (re.ext ex r1) rp (PostA.shift ex r1.mut q)
  | exc _ _ _ => rw [e] at q; exact q.elim
  | bad => rw [e] at q; exact q.elim
theorem PostA.fl {K : PySem.W.Frag} {ι : List Addr} {H : Hp} {r : R En} {E : Ends} (q : PostF K ι H (r.fl fun δ h => .next δ h) E) : PostA K ι H r E.nx := by
  cases r with
  | ok δ h => exact q
  | exc _ _ _ => exact q
  | bad => exact q
theorem g_nm {k : Nat} {x : Str} (hN : X.N.Nodup) (hi : X.N[k]? = some x) (hx : Loc X.env.scope x) (hf : X.fn x = true ∨ X.env.scope.names.lookup x = some .local) : PG X (.Name x pos) (tA X.K cl (.nm k)) := by
  refine pg_imp (pg_name hN hi hx hf) ?_
  rintro v σ H Q ⟨ι, δ, h, d, re, rp, q⟩
  simp only [asgA] at q
  by_cases c : k < δ.length
  · rw [if_pos c] at q; exact q _ _ _ Ext.refl (re.set rp)
  · rw [if_neg c] at q; exact q.elim
theorem g_sub (hu : X.A.units + 64 < cLine) (ho : PE X o (tE X.K cl co)) (hi : PE X i (tE X.K cl ci))
    (ha : ∀ v, assign (.Subscript o i pos) X.env v = (do
      let ov ← holding [v] (eval o X.env)
      let iv ← holding [v, ov] (eval i X.env)
      standAt pos
      holding [v, ov, iv] (setItem ov iv v)
      release [v, ov, iv] [])) : PG X (.Subscript o i pos) (tA X.K cl (.sub co ci)) := by
  refine pg_imp (pg_sub ho hi (set_any hu) ha) ?_
  rintro v σ H Q ⟨ι, δ, h, d, re, rp, q⟩
  simp only [asgA] at q
  refine A_E re q fun x h1 ι1 u H1 e1 r1 rx q => A_E r1 q fun y h2 ι2 w H2 e2 r2 ry q => ?_
  cases es : setF x y d h2 with
  | ok u h3 =>
    rw [es] at q
    refine ⟨ι2, h2, x, y, d, h3, r2.rel, rx.ext e2 r1.rel.mut, ry, (rp.ext e1 re.rel.mut).ext e2 r1.rel.mut, es, fun H3 e3 r3 => ?_⟩
    exact q ι2 σ H3 e3 (r2.ext e3 r3)
  | exc _ _ _ => rw [es] at q; exact q.elim
  | bad => rw [es] at q; exact q.elim
theorem gs_nil : PGs X [] (tAs X.K cl []) := by
  refine pgs_imp pgs_nil ?_
  rintro vs σ H Q ⟨ι, δ, h, ds, re, rp, q⟩
  cases rp with
  | nil => exact ⟨rfl, q _ _ _ Ext.refl re⟩
  | cons _ _ => exact q.elim
theorem gs_cons {t : Expr} {ts : List Expr} {a : AT} {as : List AT} (h1 : PG X t (tA X.K cl a)) (h2 : PGs X ts (tAs X.K cl as))
    (hs : (assignEach (t :: ts) X.env).map (·.2) = assign t X.env :: (assignEach ts X.env).map (·.2)) : PGs X (t :: ts) (tAs X.K cl (a :: as)) := by
  refine pgs_imp (pgs_cons h1 h2 hs) ?_
  rintro vs σ H Q ⟨ι, δ, h, ds, re, rp, q⟩
  cases rp with
  | nil => exact q.elim
  | @cons x v xs vs rx rr =>
    simp only [asgAs] at q
    refine ⟨v, vs, rfl, ι, δ, h, x, re, rx, ?_⟩
    cases e : asgA cl a x δ h with
    | ok δ1 h1 =>
      rw [e] at q
      intro ι1 σ1 H1 ex r1
      exact ⟨ι1, δ1, h1, xs, r1, rr.ext ex re.rel.mut, PostA.shift ex r1.rel.mut q⟩
    | exc _ _ _ => rw [e] at q; exact q
    | bad => rw [e] at q; exact q
theorem s_asg {t : Expr} {a : AT} (he : PE X e (tE X.K cl ce)) (hg : PG X t (tA X.K cl a)) (hs : swapsWithSole [t] e pos.line X.env = pure false) (hw : swappedStores [t] e X.env = pure none)
    (h1 : (assignEach [t] X.env).map (·.2) = [assign t X.env]) : PS X (.Assign [t] e pos) (tS X.K cl (.asg a ce)) := by
  refine ps_imp (ps_asg he hg hs hw h1) ?_
  rintro E σ H ⟨ι, δ, h, re, q⟩
  simp only [execS] at q
  exact F_E re q fun x h1 ι1 v H1 e1 r1 rx q => ⟨ι1, δ, h1, x, r1, rx, PostA.fl q⟩
/-- name = e -/
theorem s_set {k : Nat} {x : Str} {pos' : Pos} (hN : X.N.Nodup) (hi : X.N[k]? = some x) (hx : Loc X.env.scope x) (he : PE X e (tE X.K cl ce)) (hs : swapsWith e (some (.Name x pos')) pos.line X.env = pure false) (hf : X.fn x = true ∨ X.env.scope.names.lookup x = some .local) :
    PS X (.Assign [.Name x pos'] e pos) (tS X.K cl (.asg (.nm k) ce)) := by
  refine ps_imp (ps_set hN hi hx he hs hf) ?_
  rintro E σ H ⟨ι, δ, h, re, q⟩
  simp only [execS] at q
  refine F_E re q fun x h1 ι1 v H1 e1 r1 rx q => ?_
  simp only [asgA] at q
  by_cases c : k < δ.length
  · rw [if_pos c] at q; exact q _ _ _ Ext.refl (r1.set rx)
  · rw [if_neg c] at q; exact q.elim
theorem Rp.items {K : PySem.W.Frag} {ι : List Addr} {H : Hp} {d : D} {v : V} {xs : List D} (rp : Rp K ι H d v) (e : d = .tup xs ∨ d = .kt xs) : ∃ a vs, v = .ref a ∧ SqT K H a vs ∧ RpL K ι H xs vs := by
  rcases e with e | e <;> subst e
  · cases rp with | tup s r => exact ⟨_, _, rfl, SqT.of s, r⟩
  · cases rp with | kt s r => exact ⟨_, _, rfl, s.sq, r⟩
/-- (a, b[i], ..) = e, not swapped -/
theorem s_asgT {ts : List Expr} {as : List AT} {k : Nat} {pt : Pos} (hc : X.calm = true) (he : PE X e (tE X.K cl ce)) (hg : PGs X ts (tAs X.K cl as)) (hn : (assignEach ts X.env).length = as.length) (hst : (assignEach ts X.env).findIdx? (·.1) = none)
    (hs : swapsWithSole [.Tuple ts k pt] e pos.line X.env = pure false) (hw : swappedStores [.Tuple ts k pt] e X.env = pure none)
    (h1 : (assignEach [.Tuple ts k pt] X.env).map (·.2) = [assign (.Tuple ts k pt) X.env]) : PS X (.Assign [.Tuple ts k pt] e pos) (tS X.K cl (.asgT as ce)) := by
  refine ps_imp (ps_asg he (pg_tup hc hg hn hst) hs hw h1) ?_
  rintro E σ H ⟨ι, δ, h, re, q⟩
  simp only [execS] at q
  refine F_E re q fun x h1 ι1 v H1 e1 r1 rx q => ?_
  have key : ∀ xs, x = .tup xs ∨ x = .kt xs → PostF X.K ι1 H1 (if xs.length = as.length then (asgAs cl as xs δ h1).fl fun δ1 h2 => .next δ1 h2 else .bad) E → gTup X.K as.length (tAs X.K cl as) v σ H1 E.nx := fun xs ex q => by
    obtain ⟨a, vs, rfl, sq, rr⟩ := rx.items ex
    by_cases c : xs.length = as.length
    · rw [if_pos c] at q
      exact ⟨a, vs, rfl, sq, by rw [← rr.length]; exact c, ι1, δ, h1, xs, r1, rr, PostA.fl q⟩
    · rw [if_neg c] at q; exact q.elim
  cases rx with
  | tup s r => exact key _ (.inl rfl) q
  | kt s r => exact key _ (.inr rfl) q
  | _ => exact q.elim
/-- a, b = x, y with plain local names -/
theorem s_par {i j : Nat} {x y : Str} {a b : Expr} {cs : CL} {px py pt : Pos} {kt k2 pt2} (hc : X.calm = true) (hN : X.N.Nodup) (hi : X.N[i]? = some x) (hj : X.N[j]? = some y) (hij : i ≠ j)
    (hx : X.env.scope.names.lookup x = some .local) (hy : X.env.scope.names.lookup y = some .local) (ha : PA X [a, b] (tL X.K cl cs))
    (hw : swappedStores [.Tuple [.Name x px, .Name y py] kt pt] (.Tuple [a, b] k2 pt2) X.env = pure (some [x, y]))
    (hs : swapsWithSole [.Tuple [.Name x px, .Name y py] kt pt] (.Tuple [a, b] k2 pt2) pos.line X.env = pure false) :
    PS X (.Assign [.Tuple [.Name x px, .Name y py] kt pt] (.Tuple [a, b] k2 pt2) pos) (tS X.K cl (.par [i, j] cs)) := by
  refine ps_imp (ps_par hc hN hi hj hij hx hy ha hw hs) ?_
  rintro E σ H ⟨ι, δ, h, re, q⟩
  simp only [execS] at q
  refine F_L re q fun xs h1 ι1 vs H1 e1 r1 rx q => ?_
  simp only [bindN] at q
  by_cases c : [i, j].length = xs.length ∧ ([i, j].all fun x => decide (x < δ.length)) = true
  · rw [if_pos c] at q
    obtain ⟨c1, c2⟩ := c
    match xs, vs, rx, c1, q with
    | [x1, x2], [v1, v2], .cons p1 (.cons p2 .nil), _, q =>
      refine ⟨v1, v2, rfl, ?_⟩
      exact q _ _ _ Ext.refl ((r1.set p1).set p2)
  · rw [if_neg c] at q; exact q.elim
theorem s_par3 {i j l : Nat} {x y z : Str} {a b c : Expr} {cs : CL} {px py pz pt : Pos} {kt k2 pt2} (hc : X.calm = true) (hN : X.N.Nodup) (hi : X.N[i]? = some x) (hj : X.N[j]? = some y) (hl : X.N[l]? = some z) (hij : i ≠ j) (hil : i ≠ l) (hjl : j ≠ l)
    (hx : X.env.scope.names.lookup x = some .local) (hy : X.env.scope.names.lookup y = some .local) (hz : X.env.scope.names.lookup z = some .local) (ha : PA X [a, b, c] (tL X.K cl cs))
    (hw : swappedStores [.Tuple [.Name x px, .Name y py, .Name z pz] kt pt] (.Tuple [a, b, c] k2 pt2) X.env = pure (some [x, y, z]))
    (hs : swapsWithSole [.Tuple [.Name x px, .Name y py, .Name z pz] kt pt] (.Tuple [a, b, c] k2 pt2) pos.line X.env = pure false) :
    PS X (.Assign [.Tuple [.Name x px, .Name y py, .Name z pz] kt pt] (.Tuple [a, b, c] k2 pt2) pos) (tS X.K cl (.par [i, j, l] cs)) := by
  refine ps_imp (ps_par3 hc hN hi hj hl hij hil hjl hx hy hz ha hw hs) ?_
  rintro E σ H ⟨ι, δ, h, re, q⟩
  simp only [execS] at q
  refine F_L re q fun xs h1 ι1 vs H1 e1 r1 rx q => ?_
  simp only [bindN] at q
  by_cases c : [i, j, l].length = xs.length ∧ ([i, j, l].all fun x => decide (x < δ.length)) = true
  · rw [if_pos c] at q
    obtain ⟨c1, c2⟩ := c
    match xs, vs, rx, c1, q with
    | [x1, x2, x3], [v1, v2, v3], .cons p1 (.cons p2 (.cons p3 .nil)), _, q =>
      refine ⟨v1, v2, v3, rfl, ?_⟩
      exact q _ _ _ Ext.refl (((r1.set p1).set p2).set p3)
  · rw [if_neg c] at q; exact q.elim
/-- name op= e -/
theorem s_aug {k : Nat} {x : Str} {op : Operator} {pos' : Pos} (ok : augOk op = true) (hN : X.N.Nodup) (hi : X.N[k]? = some x) (hx : Loc X.env.scope x) (he : PE X e (tE X.K cl ce)) (hf : X.fn x = true ∨ X.env.scope.names.lookup x = some .local) :
    PS X (.AugAssign (.Name x pos') op e pos) (tS X.K cl (.aug k op ce)) := by
  refine ps_imp (ps_aug hN hi hx he (i_any ok) hf) ?_
  rintro E σ H ⟨ι, δ, h, re, q⟩
  simp only [execS] at q
  cases hk : δ[k]? with
  | none => rw [hk] at q; exact q.elim
  | some o =>
    rw [hk] at q
    cases o with
    | none => exact q.elim
    | some d =>
      obtain ⟨v, e1, rp⟩ := re.env k d hk
      have q2 : PostE X.K ι H (((evalE cl ce δ h).bind fun y h1 => augF op d y h1).tr h.length) fun z H2 => E.nx (σ.set k (some z)) H2 := by
        cases er : ((evalE cl ce δ h).bind fun y h1 => augF op d y h1).tr h.length with
        | ok z h2 =>
          have q : PostF X.K ι H ((((evalE cl ce δ h).bind fun y h1 => augF op d y h1).tr h.length).fl fun z h2 => .next (δ.set k (some z)) h2) E := q
          rw [er] at q
          exact fun ι2 v H2 e2 r2 rz => q ι2 _ H2 e2 ((re.ext e2 r2).set rz)
        | exc _ _ _ =>
          have q : PostF X.K ι H ((((evalE cl ce δ h).bind fun y h1 => augF op d y h1).tr h.length).fl fun z h2 => .next (δ.set k (some z)) h2) E := q
          rw [er] at q; exact q
        | bad =>
          have q : PostF X.K ι H ((((evalE cl ce δ h).bind fun y h1 => augF op d y h1).tr h.length).fl fun z h2 => .next (δ.set k (some z)) h2) E := q
          rw [er] at q; exact q
      exact ⟨v, e1, step_E re (trE_ok re q2) fun y h1 ι1 w H1 e1 r1 ry q => ⟨ι1, h1, d, y, r1.rel, rp.ext e1 re.rel.mut, ry, q⟩⟩
end
end Mi

namespace Mi
open PySem L2
/-! ## targets of loops -/
def gNs : List Nat → TGs
  | [] => gNil
  | i :: r => gCons (gName i) (gNs r)
def gN (K : PySem.W.Frag) : NT → TG
  | .nm i => gName i
  | .tp is => gTup K is.length (gNs is)
def NT.slots : NT → List Nat
  | .nm i => [i]
  | .tp is => is
theorem wipe_in {i : Nat} {v : Option V} : ∀ {vs : List Nat} {σ : St}, i ∈ vs → wipe (σ.set i v) vs = wipe σ vs
  | [], _, h => by cases h
  | w :: ws, σ, h => by
    unfold wipe
    by_cases hi : i ∈ ws
    · rw [wipe_in hi]
    · have e : i = w := by
        rcases List.mem_cons.mp h with h | h
        · exact h
        · exact absurd h hi
      subst e
      rw [wipe_set_out hi, List.set_set]
where
  wipe_set_out {i : Nat} {v : Option V} : ∀ {vs : List Nat} {σ : St}, i ∉ vs → wipe (σ.set i v) vs = (wipe σ vs).set i v
  | [], _, _ => rfl
  | w :: ws, σ, h => by
    simp only [List.mem_cons, not_or] at h
    unfold wipe
    rw [wipe_set_out h.2, List.set_comm _ _ h.1]
section
variable {K : PySem.W.Frag} {ι ι1 ι2 : List Addr} {δ δ1 : En} {h h1 : HS} {σ : St} {H H1 H2 : Hp} {E : Ends} {cl : Cl} {ce : CE} {d : D} {v : V}
theorem gNs_ok {xs : List D} : ∀ {is : List Nat} {xs : List D} {vs : List V} {σ : St} {δ : En} {Q : St → Hp → Prop}, is.length = xs.length → RelE K ι δ h σ H → RpL K ι H xs vs →
    (∀ σ1, RelE K ι (setAll δ is xs) h σ1 H → (∀ ws, (∀ i ∈ is, i ∈ ws) → wipe σ1 ws = wipe σ ws) → Q σ1 H) → gNs is vs σ H Q
  | [], [], _, _, _, _, _, re, .nil, k => ⟨rfl, k _ re fun _ _ => rfl⟩
  | [], _ :: _, _, _, _, _, e, _, _, _ => by cases e
  | _ :: _, [], _, _, _, _, e, _, _, _ => by cases e
  | i :: is, x :: xs, _, σ, δ, Q, e, re, .cons r rr, k => by
    refine ⟨_, _, rfl, ?_⟩
    refine gNs_ok (is := is) (xs := xs) (by simpa using e) (re.set r) rr fun σ1 r1 w1 => k σ1 r1 fun ws hw => ?_
    rw [w1 ws fun j hj => hw j (List.mem_cons_of_mem _ hj), wipe_in (hw i List.mem_cons_self)]
theorem gN_ok {t : NT} {Q : St → Hp → Prop} (re : RelE K ι δ h σ H) (rp : Rp K ι H d v) (e : bindN t d δ = some δ1)
    (k : ∀ σ1, RelE K ι δ1 h σ1 H → (∀ ws, (∀ i ∈ t.slots, i ∈ ws) → wipe σ1 ws = wipe σ ws) → Q σ1 H) : gN K t v σ H Q := by
  cases t with
  | nm i =>
    simp only [bindN] at e
    by_cases c : i < δ.length
    · rw [if_pos c] at e; cases e
      exact k _ (re.set rp) fun ws hw => wipe_in (hw i (by simp [NT.slots]))
    · rw [if_neg c] at e; cases e
  | tp is =>
    have key : ∀ xs, d = .tup xs ∨ d = .kt xs → (if is.length = xs.length ∧ (is.all fun x => decide (x < δ.length)) = true then some (setAll δ is xs) else none) = some δ1 → gN K (.tp is) v σ H Q := fun xs ex e => by
      by_cases c : is.length = xs.length ∧ (is.all fun x => decide (x < δ.length)) = true
      · rw [if_pos c] at e; cases e
        obtain ⟨a, vs, rfl, sq, rr⟩ := rp.items ex
        exact ⟨a, vs, rfl, sq, by rw [c.1, rr.length], gNs_ok (xs := xs) c.1 re rr fun σ1 r1 w => k σ1 r1 w⟩
      · rw [if_neg c] at e; cases e
    cases rp with
    | tup s r => exact key _ (.inl rfl) e
    | kt s r => exact key _ (.inr rfl) e
    | _ => cases e
end
section
variable {X : Cx} {pos : Pos}
theorem gn_nm {k : Nat} {x : Str} (hN : X.N.Nodup) (hi : X.N[k]? = some x) (hx : Loc X.env.scope x) (hf : X.fn x = true ∨ X.env.scope.names.lookup x = some .local) : PG X (.Name x pos) (gN X.K (.nm k)) := pg_name hN hi hx hf
/-! ## loops -/
variable {cl : Cl} {tg iter : Expr} {body : List Stmt} {cb : CSs} {ci : CI} {t : NT}
theorem s_while {c : Expr} {cc : CB} (hp : PassesOwn (model X.prog X.w) X.A X.env X.xe) (hc : PT X c (tB X.K cl cc)) (hb : PSs X body (tSs X.K cl cb)) : PS X (.While c body [] pos) (tS X.K cl (.while_ cc cb)) := by
  refine ps_imp (ps_while hp hc hb) ?_
  rintro E σ H ⟨ι, δ, h, re, q⟩
  simp only [execS] at q
  refine ⟨fun m σ H => ∃ ι δ h, RelE X.K ι δ h σ H ∧ PostF X.K ι H (whileD (evalB cl cc) (execB cl cb) m δ h) E, ⟨_, ι, δ, h, re, q⟩, ?_⟩
  rintro m σ H ⟨ι, δ, h, re, q⟩
  cases m with
  | zero => exact q.elim
  | succ m =>
    rw [whileD] at q
    refine F_B re q fun x h1 ι1 H1 e1 r1 q => ?_
    cases x with
    | false => rw [if_neg Bool.false_ne_true] at q ⊢; exact q.next r1
    | true =>
      rw [if_pos rfl] at q ⊢
      refine ⟨fun σ' H' => ∃ ι δ h, RelE X.K ι δ h σ' H' ∧ PostF X.K ι H' (whileD (evalB cl cc) (execB cl cb) m δ h) E, fun σ' H' w => ⟨m, Nat.lt_succ_self _, w⟩, ι1, δ, h1, r1, ?_⟩
      cases e : execB cl cb δ h1 with
      | next δ1 h2 => rw [e] at q; exact fun ι2 σ2 H2 e2 r2 => ⟨ι2, δ1, h2, r2, PostF.shift e2 r2.rel.mut q⟩
      | cont δ1 h2 => rw [e] at q; exact fun ι2 σ2 H2 e2 r2 => ⟨ι2, δ1, h2, r2, PostF.shift e2 r2.rel.mut q⟩
      | brk δ1 h2 => rw [e] at q; exact q
      | ret d h2 => rw [e] at q; exact q
      | exc _ _ _ => rw [e] at q; exact q
      | bad => rw [e] at q; exact q
theorem forD_live {live : HS → Bool} {f : D → En → HS → Fl} {xs : List D} {δ : En} {h : HS} {K : PySem.W.Frag} {ι : List Addr} {H : Hp} {E : Ends} (q : PostF K ι H (forD live f xs δ h) E) : live h = true := by
  cases xs with
  | nil => rw [forD] at q; by_cases c : live h = true; exact c; rw [if_neg c] at q; exact q.elim
  | cons x r => rw [forD] at q; by_cases c : live h = true; exact c; rw [if_neg c] at q; exact q.elim
theorem s_for (hp : PassesOwn (model X.prog X.w) X.A X.env X.xe) (hc : X.calm = true) (hi : PI X tg iter (tI X.K cl ci)) (hg : PG X tg (gN X.K t)) (hb : PSs X body (tSs X.K cl cb))
    (hs : ∀ x, foldedSetIterable iter X.env x = pure x) : PS X (.For tg iter body [] pos) (tS X.K cl (.for_ t ci cb)) := by
  refine ps_imp (ps_for hp hc hi hg hb hs) ?_
  rintro E σ H ⟨ι, δ, h, re, q⟩
  simp only [execS] at q
  refine F_I re q fun w h1 ι1 J H1 e1 r1 wk q => ?_
  obtain ⟨G, Y, t0, W, ht, wG, wY⟩ := wk
  have tt : ∀ {ι2 H2}, Ext ι1 H1 ι2 H2 → ∀ a ∈ t0, H2 a = H1 a := fun e a ha => by obtain ⟨_, n, o, q⟩ := ht a ha; rw [q, e.fr a o q n]
  refine for_it W (fun i σ' H' => ∃ ι2 δ2 h2, Ext ι1 H1 ι2 H' ∧ RelE X.K ι2 δ2 h2 σ' H' ∧ PostF X.K ι2 H' (forD (liveOk w.live) (fun x δ1 h2 => match bindN t x δ1 with
    | some δ2 => execB cl cb δ2 h2
    | none => .bad) (w.items.drop i) δ2 h2) E) ⟨ι1, δ, h1, Ext.refl, r1, q⟩ ?_ ?_ ?_
  · rintro i σ' H' hi ⟨ι2, δ2, h2, e2, r2, q2⟩
    exact wG ι2 H' h2 (e2.toI r1.rel.mut) (tt e2) r2.rel (forD_live q2)
  · rintro i x σ' H' H'' hlt ⟨ι2, δ2, h2, e2, r2, q2⟩ y
    have lv := forD_live q2
    obtain ⟨d, ed, sm, rd⟩ := wY i x ι2 H' h2 H'' hlt (e2.toI r1.rel.mut) (tt e2) r2.rel lv y
    rw [List.drop_eq_getElem_cons hlt] at q2
    have ed' : w.items[i] = d := by
      rw [List.getElem?_eq_getElem hlt] at ed; exact Option.some.inj ed
    rw [ed', forD, if_pos lv] at q2
    have r3 := r2.same sm
    have q3 := PostF.shift (Ext.same sm) r3.rel.mut q2
    cases eb : bindN t d δ2 with
    | none => simp only [eb] at q3; exact q3.elim
    | some δ3 =>
      simp only [eb] at q3
      refine gN_ok r3 rd eb fun σ1 r4 _ => ⟨ι2, δ3, h2, r4, ?_⟩
      cases e : execB cl cb δ3 h2 with
      | next δ1 h3 => rw [e] at q3; exact fun ι3 σ3 H3 e3 r5 => ⟨ι3, δ1, h3, (e2.trans r2.rel.mut (Ext.same sm)).trans r3.rel.mut e3, r5, PostF.shift e3 r5.rel.mut q3⟩
      | cont δ1 h3 => rw [e] at q3; exact fun ι3 σ3 H3 e3 r5 => ⟨ι3, δ1, h3, (e2.trans r2.rel.mut (Ext.same sm)).trans r3.rel.mut e3, r5, PostF.shift e3 r5.rel.mut q3⟩
      | brk δ1 h3 => rw [e] at q3; exact q3
      | ret d h3 => rw [e] at q3; exact q3
      | exc _ _ _ => rw [e] at q3; exact q3
      | bad => rw [e] at q3; exact q3
  · rintro σ' H' ⟨ι2, δ2, h2, e2, r2, q2⟩
    rw [List.drop_length, forD] at q2
    by_cases c : liveOk w.live h2 = true
    · rw [if_pos c] at q2; exact q2.next r2
    · rw [if_neg c] at q2; exact q2.elim
end
/-! ## comprehensions -/
section
variable {K : PySem.W.Frag} {ι ι1 ι2 : List Addr} {δ δ1 : En} {h h1 : HS} {σ : St} {H H1 H2 : Hp} {cl : Cl} {ce : CE} {d : D} {v : V} {p : Addr} {o o' : HO}
mutual
theorem Rp.wr (hp : H p = some o) (hm : isM o = true) : ∀ {d : D} {v : V}, Rp K ι H d v → Rp K ι (upd H p o') d v
  | _, _, .non => .non
  | _, _, .bl b => .bl b
  | _, _, .int i => .int i
  | _, _, .str x => .str x
  | _, _, .tup s r => .tup (by rw [upd_ne (fun z => by rw [z, hp] at s; cases s; cases hm)]; exact s) (RpL.wr hp hm r)
  | _, _, .kt s r => .kt s (RpL.wr hp hm r)
  | _, _, .ref q => .ref q
  | _, _, .fz r => .fz (by
      rcases r with ⟨u, r⟩ | r
      · exact .inl ⟨u, by rw [upd_ne (fun z => by rw [z, hp] at r; cases r; cases hm)]; exact r⟩
      · exact .inr r)
theorem RpL.wr (hp : H p = some o) (hm : isM o = true) : ∀ {xs : List D} {vs : List V}, RpL K ι H xs vs → RpL K ι (upd H p o') xs vs
  | _, _, .nil => .nil
  | _, _, .cons r s => .cons (Rp.wr hp hm r) (RpL.wr hp hm s)
end
theorem RelH.wr (hp : H p = some o) (hm : isM o = true) (hn : p ∉ ι) (r : RelH K ι h H) : RelH K ι h (upd H p o') := by
  refine ⟨r.len, r.nd, fun n c a e1 e2 => ?_⟩
  have ne : a ≠ p := fun z => hn (z ▸ List.mem_of_getElem? e2)
  have rc := r.cell n c a e1 e2
  cases c with
  | lst xs => obtain ⟨vs, q, r⟩ := rc; exact ⟨vs, by rw [upd_ne ne]; exact q, r.wr hp hm⟩
  | dct kvs =>
    rcases rc with ⟨ks, q, r⟩ | ⟨ks, q, r⟩
    · exact .inl ⟨ks, by rw [upd_ne ne]; exact q, Paired.mapX (fun _ _ z => ⟨z.1, z.2.wr hp hm⟩) r⟩
    · exact .inr ⟨ks, by rw [upd_ne ne]; exact q, Paired.mapX (fun _ _ z => ⟨z.1, z.2.wr hp hm⟩) r⟩
  | ins c fs => exact rc.elim
/-- what a comprehension has so far: the list at p is nobody's -/
structure Cp (K : PySem.W.Frag) (ι0 : List Addr) (H0 : Hp) (p : Addr) (ys : List D) (ι : List Addr) (H : Hp) : Prop where
  new : H0 p = none
  ext : Ext ι0 H0 ι H
  out : p ∉ ι
  at_ : ∃ vs, H p = some (.lst vs) ∧ RpL K ι H ys vs
theorem Cp.step {ys : List D} {ι0 : List Addr} {H0 : Hp} (c : Cp K ι0 H0 p ys ι H) (m : MutI ι H) (e : Ext ι H ι1 H1) : Cp K ι0 H0 p ys ι1 H1 := by
  obtain ⟨vs, q, r⟩ := c.at_
  refine ⟨c.new, c.ext.trans m e, fun hp => ?_, vs, e.fr p _ q c.out, r.ext e m⟩
  obtain ⟨ex, rfl, hx⟩ := e.pre
  rcases List.mem_append.mp hp with hp | hp
  · exact c.out hp
  · rw [hx p hp] at q; cases q
theorem Cp.app {ys : List D} {ι0 : List Addr} {H0 : Hp} {d : D} {v : V} (c : Cp K ι0 H0 p ys ι H) (m0 : MutI ι0 H0) (r : RelH K ι h H) (rd : Rp K ι H d v) :
    ∃ vs, H p = some (.lst vs) ∧ vs.length = ys.length ∧ Cp K ι0 H0 p (ys ++ [d]) ι (upd H p (.lst (vs ++ [v]))) ∧ RelH K ι h (upd H p (.lst (vs ++ [v]))) := by
  obtain ⟨vs, q, rr⟩ := c.at_
  refine ⟨vs, q, rr.length.symm, ⟨c.new, ⟨c.ext.pre, fun a u e hn => ?_⟩, c.out, vs ++ [v], upd_same, ?_⟩, r.wr q rfl c.out⟩
  · rw [upd_ne (fun z => by rw [z, c.new] at e; cases e)]; exact c.ext.fr a u e hn
  · exact (rr.append (.cons rd .nil)).wr q rfl
/-- the end of a comprehension -/
theorem Cp.fin {ys : List D} {ι0 : List Addr} {H0 : Hp} {Q : VK} (c : Cp K ι0 H0 p ys ι H) (r : RelH K ι h H) (q : PostE K ι0 H0 (mkL ys h) Q) : Q (.ref p) H := by
  obtain ⟨_, q⟩ := mkL_some q
  obtain ⟨vs, e, rr⟩ := c.at_
  obtain ⟨ex, hx, hn⟩ := c.ext.pre
  refine q (ι ++ [p]) _ _ ⟨⟨ex ++ [p], by rw [hx, List.append_assoc], fun a ha => ?_⟩, c.ext.fr⟩ ⟨by simp [r.len], ?_, fun n cc a e1 e2 => ?_⟩ (.ref (by rw [← r.len]; simp))
  · rcases List.mem_append.mp ha with ha | ha
    · exact hn a ha
    · simp at ha; subst ha; exact c.new
  · rw [List.nodup_append]
    refine ⟨r.nd, by simp, fun a ha b hb => ?_⟩
    simp at hb; subst hb; exact fun z => c.out (z ▸ ha)
  · by_cases hm : n < h.length
    · rw [List.getElem?_append_left hm] at e1
      rw [List.getElem?_append_left (by rw [r.len]; exact hm)] at e2
      exact (r.cell n cc a e1 e2).more
    · have hm' : n = h.length := by
        have := (List.getElem?_eq_some_iff.mp e1).1
        simp at this; omega
      subst hm'
      rw [List.getElem?_append_right (Nat.le_refl _)] at e1
      rw [← r.len, List.getElem?_append_right (Nat.le_refl _)] at e2
      simp at e1 e2; subst e1; subst e2
      exact ⟨vs, e, rr.more⟩
theorem wipeE_length (δ : En) : ∀ vs : List Nat, (wipeE δ vs).length = δ.length
  | [] => rfl
  | v :: vs => by unfold wipeE; rw [List.length_set, wipeE_length δ vs]
theorem RelE.unset {i : Nat} (re : RelE K ι δ h σ H) : RelE K ι (δ.set i none) h (σ.set i none) H := by
  refine ⟨re.rel, by rw [List.length_set, List.length_set, re.len], fun j d' e => ?_⟩
  by_cases hj : i = j
  · subst hj
    have hl : i < δ.length := by
      have := (List.getElem?_eq_some_iff.mp e).1
      simpa using this
    rw [List.getElem?_set_self hl] at e
    cases e
  · rw [List.getElem?_set_ne hj] at e
    obtain ⟨w, e1, r1⟩ := re.env j d' e
    exact ⟨w, by rw [List.getElem?_set_ne hj]; exact e1, r1⟩
theorem RelE.wipe : ∀ {vs : List Nat}, RelE K ι δ h σ H → RelE K ι (wipeE δ vs) h (L2.wipe σ vs) H
  | [], r => r
  | v :: vs, r => (RelE.wipe (vs := vs) r).unset
theorem compD_live {live : HS → Bool} {f : D → HS → R (List D)} {xs : List D} {r : List D} {h h1 : HS} (q : compD live f xs h = .ok r h1) : live h = true := by
  cases xs with
  | nil => rw [compD] at q; by_cases c : live h = true; exact c; rw [if_neg c] at q; cases q
  | cons x r => rw [compD] at q; by_cases c : live h = true; exact c; rw [if_neg c] at q; cases q
theorem R.bind_eq {α β : Type} {r : R α} {f : α → HS → R β} {b : β} {h1 : HS} (e : r.bind f = .ok b h1) : ∃ a h2, r = .ok a h2 ∧ f a h2 = .ok b h1 := by
  cases r with
  | ok a h2 => exact ⟨a, h2, rfl, e⟩
  | exc _ _ _ => cases e
  | bad => cases e
end
end Mi

namespace Mi
open PySem L2
/-! ## comprehensions -/
theorem wipe_out {i : Nat} {v : Option V} : ∀ {vs : List Nat} {σ : St}, i ∉ vs → wipe (σ.set i v) vs = (wipe σ vs).set i v
  | [], _, _ => rfl
  | w :: ws, σ, h => by
    simp only [List.mem_cons, not_or] at h
    unfold wipe
    rw [wipe_out h.2, List.set_comm _ _ h.1]
theorem wipe_sub {ws : List Nat} : ∀ {vs : List Nat} {σ : St}, (∀ i ∈ vs, i ∈ ws) → wipe (wipe σ vs) ws = wipe σ ws
  | [], _, _ => rfl
  | v :: vs, σ, h => by
    rw [show wipe σ (v :: vs) = (wipe σ vs).set v none from rfl, wipe_in (h v List.mem_cons_self)]
    exact wipe_sub fun i hi => h i (List.mem_cons_of_mem _ hi)
section
variable {X : Cx}
theorem pts_nilB {cl : Cl} : PTs X [] (tB X.K cl .tru) := ⟨fun pins s σ H Q I q => by
  obtain ⟨ι, δ, h, re, q⟩ := q
  simp only [evalB] at q
  exact pts_nil.run pins s σ H Q I (q ι true H Ext.refl re.rel rfl)⟩
end
section
variable {K : PySem.W.Frag} {ι ι1 ι2 : List Addr} {δ δ1 : En} {h h1 : HS} {σ : St} {H H1 H2 : Hp} {cl : Cl} {ce : CE} {d : D} {v : V} {p : Addr}
/-- one turn of a comprehension -/
def turnF (cl : Cl) (own : List Nat) (tg : NT) (t : CB) (δ : En) (f : En → HS → R (List D)) (x : D) (h2 : HS) : R (List D) := match bindN tg x (wipeE δ own) with
  | some δ1 => (evalB cl t δ1 h2).bind fun b h3 => if b then f δ1 h3 else .ok [] h3
  | none => .bad
theorem E_tB {c : CB} {b : Bool} {h3 : HS} {R' : Bool → Hp → Prop} (re : RelE K ι δ h σ H) (e : evalB cl c δ h = .ok b h3) (k : ∀ ι1 H1, Ext ι H ι1 H1 → RelE K ι1 δ h3 σ H1 → R' b H1) : tB K cl c σ H R' := by
  refine ⟨ι, δ, h, re, ?_⟩
  rw [e]
  intro ι1 v H1 ex r1 rp
  subst rp
  exact k ι1 H1 ex (re.ext ex r1)
theorem E_tE {x : D} {h3 : HS} {R' : VK} (re : RelE K ι δ h σ H) (e : evalE cl ce δ h = .ok x h3) (k : ∀ ι1 v H1, Ext ι H ι1 H1 → RelE K ι1 δ h3 σ H1 → Rp K ι1 H1 x v → R' v H1) : tE K cl ce σ H R' := by
  refine ⟨ι, δ, h, re, ?_⟩
  rw [e]
  intro ι1 v H1 ex r1 rp
  exact k ι1 v H1 ex (re.ext ex r1) rp
theorem E_tI {c : CI} {w : Its} {h3 : HS} {R' : It → Hp → Prop} (re : RelE K ι δ h σ H) (e : evalI cl c δ h = .ok w h3) (k : ∀ ι1 J H1, Ext ι H ι1 H1 → RelE K ι1 δ h3 σ H1 → WalkR K H ι1 H1 w J → R' J H1) : tI K cl c σ H R' := by
  refine ⟨ι, δ, h, re, ?_⟩
  rw [e]
  intro ι1 v H1 ex r1 rp
  exact k ι1 v H1 ex (re.ext ex r1) rp
theorem compD_nil {live : HS → Bool} {f : D → HS → R (List D)} {r : List D} {h h1 : HS} (q : compD live f [] h = .ok r h1) : r = [] ∧ h1 = h := by
  rw [compD] at q
  by_cases c : live h = true
  · rw [if_pos c] at q; cases q; exact ⟨rfl, rfl⟩
  · rw [if_neg c] at q; cases q
theorem compD_cons {live : HS → Bool} {f : D → HS → R (List D)} {x : D} {xs : List D} {r : List D} {h h1 : HS} (q : compD live f (x :: xs) h = .ok r h1) : ∃ y h2 ys, f x h = .ok y h2 ∧ compD live f xs h2 = .ok ys h1 ∧ r = y ++ ys := by
  rw [compD] at q
  by_cases c : live h = true
  · rw [if_pos c] at q
    obtain ⟨y, h2, e1, q⟩ := R.bind_eq q
    obtain ⟨ys, h3, e2, q⟩ := R.bind_eq q
    cases q
    exact ⟨y, h2, ys, e1, e2, rfl⟩
  · rw [if_neg c] at q; cases q
theorem Post.of_bind {α β : Type} {RR : List Addr → Hp → D → V → Prop} {r : R α} {f : α → HS → R D} {Q : VK} (q : Post RR K ι H (r.bind f) Q) : ∃ a h1, r = .ok a h1 ∧ Post RR K ι H (f a h1) Q := Post.bind q
theorem lc2_it {J : It} {n : Nat} {G : Hp → Prop} {Y : Nat → Hp → V → Hp → Prop} (w : L2.Walk J n G Y) {g : TG} {vs : List Nat} {σ : St} {H1 : Hp} {D : Addr} {Qd : Hp → Prop} {B : St → Hp → (Hp → Prop) → Prop} (Pv : Nat → Hp → Prop) (h0 : Pv 0 (upd H1 D (.lst []))) (hG : ∀ i H, i ≤ n → Pv i H → G H)
    (hs : ∀ i x H H', i < n → Pv i H → Y i H x H' → g x (wipe σ vs) H' fun σ2 H2 => wipe σ2 vs = wipe σ vs ∧ B σ2 H2 (Pv (i + 1))) (hd : ∀ H, Pv n H → Qd H) :
    ∃ W : Nat → Nat → Hp → Prop, (∃ m, W 0 m (upd H1 D (.lst []))) ∧ ∀ i m H, W i m H →
      (J.stop i H ∧ Qd H) ∨ (J.go i H ∧ ∃ Nx : Hp → Prop, (∀ H', Nx H' → ∃ m', m' < m ∧ W (i + 1) m' H') ∧ ∀ x H', J.yld i H x H' → g x (wipe σ vs) H' fun σ2 H2 => wipe σ2 vs = wipe σ vs ∧ B σ2 H2 Nx) := by
  refine ⟨fun i m H => m = n - i ∧ i ≤ n ∧ Pv i H, ⟨n, by simp, Nat.zero_le _, h0⟩, ?_⟩
  rintro i m H ⟨rfl, hi, p⟩
  have q := hG i H hi p
  by_cases hlt : i < n
  · refine .inr ⟨w.goes i H hlt q, Pv (i + 1), fun H' p' => ⟨n - (i + 1), by omega, rfl, hlt, p'⟩, fun x H' y => hs i x H H' hlt p (w.yields i H x H' hlt q y)⟩
  · have e : i = n := by omega
    subst e
    exact .inl ⟨w.stops H q, hd H p⟩
theorem lcI_it {J : It} {n : Nat} {G : Hp → Prop} {Y : Nat → Hp → V → Hp → Prop} (w : L2.Walk J n G Y) {g : TG} {vs : List Nat} {σ : St} {H1 : Hp} {Qd : Hp → Prop} {B : St → Hp → (Hp → Prop) → Prop} (Pv : Nat → Hp → Prop) (h0 : Pv 0 H1) (hG : ∀ i H, i ≤ n → Pv i H → G H)
    (hs : ∀ i x H H', i < n → Pv i H → Y i H x H' → g x (wipe σ vs) H' fun σ2 H2 => wipe σ2 vs = wipe σ vs ∧ B σ2 H2 (Pv (i + 1))) (hd : ∀ H, Pv n H → Qd H) :
    ∃ W : Nat → Nat → Hp → Prop, (∃ m, W 0 m H1) ∧ ∀ i m H, W i m H →
      (J.stop i H ∧ Qd H) ∨ (J.go i H ∧ ∃ Nx : Hp → Prop, (∀ H', Nx H' → ∃ m', m' < m ∧ W (i + 1) m' H') ∧ ∀ x H', J.yld i H x H' → g x (wipe σ vs) H' fun σ2 H2 => wipe σ2 vs = wipe σ vs ∧ B σ2 H2 Nx) := by
  refine ⟨fun i m H => m = n - i ∧ i ≤ n ∧ Pv i H, ⟨n, by simp, Nat.zero_le _, h0⟩, ?_⟩
  rintro i m H ⟨rfl, hi, p⟩
  have q := hG i H hi p
  by_cases hlt : i < n
  · refine .inr ⟨w.goes i H hlt q, Pv (i + 1), fun H' p' => ⟨n - (i + 1), by omega, rfl, hlt, p'⟩, fun x H' y => hs i x H H' hlt p (w.yields i H x H' hlt q y)⟩
  · have e : i = n := by omega
    subst e
    exact .inl ⟨w.stops H q, hd H p⟩
theorem lc_ok {own : List Nat} {tg : NT} {it : CI} {t : CB} {e : CE} {Q : VK} (re : RelE K ι δ h σ H) (q : PostE K ι H (evalE cl (.lc own tg it t e) δ h) Q) (hsl : ∀ i ∈ tg.slots, i ∈ own) :
    tLc (tI K cl it) (gN K tg) (tB K cl t) (tE K cl e) own σ H Q := by
  simp only [evalE] at q
  obtain ⟨w, h1, ew, q⟩ := Post.bind (trE_ok re q)
  obtain ⟨ys, h2, ec, q⟩ := Post.bind q
  refine E_tI re ew fun ι1 J H1 e1 r1 wk D hD => ?_
  have q := Post.shift e1 r1.rel.mut q
  have ml := (mkL_some q).1
  obtain ⟨G, Y, t0, W, ht, wG, wY⟩ := wk
  have tt : ∀ {ι2 H2}, Ext ι1 H1 ι2 H2 → ∀ a ∈ t0, H2 a = H1 a := fun e a ha => by obtain ⟨_, n, o, q⟩ := ht a ha; rw [q, e.fr a o q n]
  refine lc_it W (fun i H' => ∃ ι2 hh zs rs, Cp K ι1 H1 D zs ι2 H' ∧ RelH K ι2 hh H' ∧ compD (liveOk w.live) (fun x h2 => match bindN tg x (wipeE δ own) with
      | some δ1 => (evalB cl t δ1 h2).bind fun b h3 => if b then (evalE cl e δ1 h3).bind fun y h4 => .ok [y] h4 else .ok [] h3
      | none => .bad) (w.items.drop i) hh = .ok rs h2 ∧ zs ++ rs = ys) ⟨ι1, h1, [], ys, ?_, ?_, ec, rfl⟩ ?_ ?_ ?_
  · exact ⟨hD, Ext.same (same_new hD), fun hp => (by obtain ⟨o, e', _⟩ := r1.rel.mut D hp; rw [hD] at e'; cases e'), ⟨[], upd_same, .nil⟩⟩
  · exact r1.rel.same (same_new hD)
  · rintro i H' hi ⟨ι2, hh, zs, rs, c, r2, ecd, ez⟩
    exact wG ι2 H' hh (c.ext.toI r1.rel.mut) (tt c.ext) r2 (compD_live ecd)
  · rintro i x H' H'' hlt ⟨ι2, hh, zs, rs, c, r2, ecd, ez⟩ y
    have lv := compD_live ecd
    obtain ⟨d, ed, sm, rd⟩ := wY i x ι2 H' hh H'' hlt (c.ext.toI r1.rel.mut) (tt c.ext) r2 lv y
    rw [List.drop_eq_getElem_cons hlt] at ecd
    have ed' : w.items[i] = d := by
      rw [List.getElem?_eq_getElem hlt] at ed; exact Option.some.inj ed
    rw [ed'] at ecd
    obtain ⟨y1, h3, ys2, ef, ecd, er⟩ := compD_cons ecd
    have c2 := c.step r2.mut (Ext.same sm)
    have r3 := r1.ext c2.ext (r2.same sm)
    cases eb : bindN tg d (wipeE δ own) with
    | none => rw [eb] at ef; cases ef
    | some δ3 =>
      simp only [eb] at ef
      obtain ⟨b, h4, et, ef⟩ := R.bind_eq ef
      refine gN_ok r3.wipe rd eb fun σ1 r4 w4 => ⟨by rw [w4 own hsl, wipe_sub fun _ h => h], ?_⟩
      refine E_tB r4 et fun ι4 H4 e4 r5 => ?_
      have c4 := c2.step r4.rel.mut e4
      cases b with
      | false =>
        rw [if_neg Bool.false_ne_true] at ef ⊢
        cases ef
        exact ⟨ι4, _, zs, ys2, c4, r5.rel, ecd, by rw [← ez, er]; rfl⟩
      | true =>
        rw [if_pos rfl] at ef ⊢
        obtain ⟨y2, h5, ee, ef⟩ := R.bind_eq ef
        cases ef
        refine E_tE r5 ee fun ι5 v5 H5 e5 r6 rv => ?_
        have c5 := c4.step r5.rel.mut e5
        obtain ⟨vs, hv, lv2, c6, r7⟩ := c5.app r1.rel.mut r6.rel rv
        refine ⟨vs, hv, ?_, ι5, _, zs ++ [y2], ys2, c6, r7, ecd, by rw [← ez, er, List.append_assoc]⟩
        rw [lv2, ← LIM_line]
        rw [← ez, er] at ml
        simp at ml
        omega
  · rintro H' ⟨ι2, hh, zs, rs, c, r2, ecd, ez⟩
    rw [List.drop_length] at ecd
    obtain ⟨rfl, rfl⟩ := compD_nil ecd
    rw [List.append_nil] at ez
    subst ez
    exact c.fin r2 q

/-- what stays through an inner loop -/
structure In1 (t : List Addr) (ι0 : List Addr) (H0 : Hp) (ι : List Addr) (H : Hp) : Prop where
  ext : ExtI ι0 H0 ι H
  tt : ∀ a ∈ t, (∃ o, H a = some o) ∧ H a = H0 a ∧ a ∉ ι
theorem ExtI.trans (e1 : ExtI ι H ι1 H1) (e2 : ExtI ι1 H1 ι2 H2) : ExtI ι H ι2 H2 := by
  obtain ⟨ex, rfl⟩ := e1.pre
  obtain ⟨ex2, rfl⟩ := e2.pre
  exact ⟨⟨ex ++ ex2, by simp⟩, fun a o q z => e2.fr a o (e1.fr a o q z) z⟩
theorem In1.step {t : List Addr} {ι0 : List Addr} {H0 : Hp} (i : In1 t ι0 H0 ι H) (m : MutI ι H) (e : Ext ι H ι1 H1) : In1 t ι0 H0 ι1 H1 := by
  refine ⟨i.ext.trans (e.toI m), fun a ha => ?_⟩
  obtain ⟨⟨o, ho⟩, e0, n⟩ := i.tt a ha
  have e1 := e.fr a o ho n
  refine ⟨⟨o, e1⟩, by rw [← e0, ho, e1], fun hi => ?_⟩
  obtain ⟨ex, rfl, hx⟩ := e.pre
  rcases List.mem_append.mp hi with hi | hi
  · exact n hi
  · rw [hx a hi] at ho; cases ho
theorem In1.wr {t : List Addr} {ι0 : List Addr} {H0 : Hp} {o o' : HO} (i : In1 t ι0 H0 ι H) (hp : H p = some o) (hm : isM o = true) (hn : p ∉ t) : In1 t ι0 H0 ι (upd H p o') := by
  refine ⟨⟨i.ext.pre, fun a u q z => ?_⟩, fun a ha => ?_⟩
  · have q1 := i.ext.fr a u q z
    rw [upd_ne (fun e => by rw [e, hp] at q1; cases q1; rw [hm] at z; cases z)]
    exact q1
  · have ne : a ≠ p := fun e => hn (e ▸ ha)
    rw [upd_ne ne]
    exact i.tt a ha
theorem RelE.extI (re : RelE K ι δ h σ H) (e : ExtI ι H ι1 H1) (r : RelH K ι1 h1 H1) : RelE K ι1 δ h1 σ H1 :=
  ⟨r, re.len, fun i d q => let ⟨v, e1, r1⟩ := re.env i d q; ⟨v, e1, r1.extI e⟩⟩
theorem lc2_ok {own own1 : List Nat} {tg tg1 : NT} {it it1 : CI} {t t1 : CB} {e : CE} {Q : VK} (re : RelE K ι δ h σ H) (q : PostE K ι H (evalE cl (.lc2 own own1 tg it t tg1 it1 t1 e) δ h) Q) (hsl : ∀ i ∈ tg.slots, i ∈ own) (hsl1 : ∀ i ∈ tg1.slots, i ∈ own1) (hown : ∀ i ∈ own1, i ∈ own) :
    tLc2 (tI K cl it) (gN K tg) (tB K cl t) (tI K cl it1) (gN K tg1) (tB K cl t1) (tE K cl e) own own1 σ H Q := by
  simp only [evalE] at q
  obtain ⟨w, h1, ew, q⟩ := Post.bind (trE_ok re q)
  obtain ⟨ys, h2, ec, q⟩ := Post.bind q
  refine E_tI re ew fun ι1 J H1 e1 r1 wk D hD => ?_
  have q := Post.shift e1 r1.rel.mut q
  have ml := (mkL_some q).1
  obtain ⟨G, Y, t0, W, ht, wG, wY⟩ := wk
  have tt : ∀ {ι2 H2}, Ext ι1 H1 ι2 H2 → ∀ a ∈ t0, H2 a = H1 a := fun e a ha => by obtain ⟨_, n, o, q⟩ := ht a ha; rw [q, e.fr a o q n]
  refine lc2_it W (fun i H' => ∃ ι2 hh zs rs, Cp K ι1 H1 D zs ι2 H' ∧ RelH K ι2 hh H' ∧ compD (liveOk w.live) (fun x h2 => match bindN tg x (wipeE δ own) with
      | some δ1 => (evalB cl t δ1 h2).bind fun b h3 => if b then (evalI cl it1 δ1 h3).bind fun w1 h4 => compD (liveOk w1.live) (fun x1 h5 => match bindN tg1 x1 (wipeE δ1 own1) with
          | some δ2 => (evalB cl t1 δ2 h5).bind fun b1 h6 => if b1 then (evalE cl e δ2 h6).bind fun y h7 => .ok [y] h7 else .ok [] h6
          | none => .bad) w1.items h4 else .ok [] h3
      | none => .bad) (w.items.drop i) hh = .ok rs h2 ∧ zs ++ rs = ys) ⟨ι1, h1, [], ys, ?_, ?_, ec, rfl⟩ ?_ ?_ ?_
  · exact ⟨hD, Ext.same (same_new hD), fun hp => (by obtain ⟨o, e', _⟩ := r1.rel.mut D hp; rw [hD] at e'; cases e'), ⟨[], upd_same, .nil⟩⟩
  · exact r1.rel.same (same_new hD)
  · rintro i H' hi ⟨ι2, hh, zs, rs, c, r2, ecd, ez⟩
    exact wG ι2 H' hh (c.ext.toI r1.rel.mut) (tt c.ext) r2 (compD_live ecd)
  · rintro i x H' H'' hlt ⟨ι2, hh, zs, rs, c, r2, ecd, ez⟩ y
    have lv := compD_live ecd
    obtain ⟨d, ed, sm, rd⟩ := wY i x ι2 H' hh H'' hlt (c.ext.toI r1.rel.mut) (tt c.ext) r2 lv y
    rw [List.drop_eq_getElem_cons hlt] at ecd
    have ed' : w.items[i] = d := by
      rw [List.getElem?_eq_getElem hlt] at ed; exact Option.some.inj ed
    rw [ed'] at ecd
    obtain ⟨y1, h3, ys2, ef, ecd, er⟩ := compD_cons ecd
    have c2 := c.step r2.mut (Ext.same sm)
    have r3 := r1.ext c2.ext (r2.same sm)
    cases eb : bindN tg d (wipeE δ own) with
    | none => rw [eb] at ef; cases ef
    | some δ3 =>
      simp only [eb] at ef
      obtain ⟨b, h4, et, ef⟩ := R.bind_eq ef
      refine gN_ok r3.wipe rd eb fun σ1 r4 w4 => ⟨by rw [w4 own hsl, wipe_sub fun _ h => h], ?_⟩
      refine E_tB r4 et fun ι4 H4 e4 r5 => ?_
      have c4 := c2.step r4.rel.mut e4
      cases b with
      | false =>
        rw [if_neg Bool.false_ne_true] at ef ⊢
        cases ef
        exact ⟨ι4, _, zs, ys2, c4, r5.rel, ecd, by rw [← ez, er]; rfl⟩
      | true =>
        rw [if_pos rfl] at ef ⊢
        obtain ⟨w1, h5, ei, ef⟩ := R.bind_eq ef
        refine E_tI r5 ei fun ι5 J1 H5 e5 r6 wk1 => ?_
        have c5 := c4.step r5.rel.mut e5
        obtain ⟨G1, Y1, t2, W1, ht1, wG1, wY1⟩ := wk1
        have hDt : D ∉ t2 := fun hd => by
          obtain ⟨vs, hv, _⟩ := c4.at_
          rw [(ht1 D hd).1] at hv; cases hv
        refine lcI_it W1 (fun j H' => ∃ ι6 hh zs' rs', Cp K ι1 H1 D zs' ι6 H' ∧ RelH K ι6 hh H' ∧ In1 t2 ι5 H5 ι6 H' ∧ compD (liveOk w1.live) (fun x1 h5 => match bindN tg1 x1 (wipeE δ3 own1) with
          | some δ2 => (evalB cl t1 δ2 h5).bind fun b1 h6 => if b1 then (evalE cl e δ2 h6).bind fun y h7 => .ok [y] h7 else .ok [] h6
          | none => .bad) (w1.items.drop j) hh = .ok rs' h3 ∧ zs' ++ rs' = zs ++ y1) ⟨ι5, _, zs, y1, c5, r6.rel, ⟨Ext.refl.toI r6.rel.mut, fun a ha => ⟨(ht1 a ha).2.2, rfl, (ht1 a ha).2.1⟩⟩, ef, rfl⟩ ?_ ?_ ?_
        · rintro j H' hj ⟨ι6, hh, zs', rs', c6, r7, i6, ecd6, ez6⟩
          exact wG1 ι6 H' hh i6.ext (fun a ha => (i6.tt a ha).2.1) r7 (compD_live ecd6)
        · rintro j x H' H'' hlt1 ⟨ι6, hh, zs', rs', c6, r7, i6, ecd6, ez6⟩ y
          have lv1 := compD_live ecd6
          obtain ⟨d1, ed1, sm1, rd1⟩ := wY1 j x ι6 H' hh H'' hlt1 i6.ext (fun a ha => (i6.tt a ha).2.1) r7 lv1 y
          rw [List.drop_eq_getElem_cons hlt1] at ecd6
          have ed1' : w1.items[j] = d1 := by
            rw [List.getElem?_eq_getElem hlt1] at ed1; exact Option.some.inj ed1
          rw [ed1'] at ecd6
          obtain ⟨y2, h6, ys3, ef6, ecd6, er6⟩ := compD_cons ecd6
          have c7 := c6.step r7.mut (Ext.same sm1)
          have i7 := i6.step r7.mut (Ext.same sm1)
          have r8 := r6.extI i7.ext (r7.same sm1)
          cases eb1 : bindN tg1 d1 (wipeE δ3 own1) with
          | none => rw [eb1] at ef6; cases ef6
          | some δ4 =>
            simp only [eb1] at ef6
            obtain ⟨b1, h7, et1, ef6⟩ := R.bind_eq ef6
            refine gN_ok r8.wipe rd1 eb1 fun σ2 r9 w9 => ⟨by rw [w9 own1 hsl1, wipe_sub fun _ h => h], ?_⟩
            refine E_tB r9 et1 fun ι8 H8 e8 r10 => ?_
            have c8 := c7.step r9.rel.mut e8
            have i8 := i7.step r9.rel.mut e8
            cases b1 with
            | false =>
              rw [if_neg Bool.false_ne_true] at ef6 ⊢
              cases ef6
              exact ⟨ι8, _, zs', ys3, c8, r10.rel, i8, ecd6, by rw [← ez6, er6]; rfl⟩
            | true =>
              rw [if_pos rfl] at ef6 ⊢
              obtain ⟨y3, h8, ee, ef6⟩ := R.bind_eq ef6
              cases ef6
              refine E_tE r10 ee fun ι9 v9 H9 e9 r11 rv => ?_
              have c9 := c8.step r10.rel.mut e9
              have i9 := i8.step r10.rel.mut e9
              obtain ⟨vs, hv, lv2, c10, r12⟩ := c9.app r1.rel.mut r11.rel rv
              refine ⟨vs, hv, ?_, ι9, _, zs' ++ [y3], ys3, c10, r12, i9.wr hv rfl hDt, ecd6, by rw [← ez6, er6, List.append_assoc]⟩
              rw [lv2, ← LIM_line]
              have l6 := congrArg List.length ez6
              rw [er6] at l6
              rw [← ez, er] at ml
              simp at ml l6
              omega
        · rintro H' ⟨ι6, hh, zs', rs', c6, r7, i6, ecd6, ez6⟩
          rw [List.drop_length] at ecd6
          obtain ⟨rfl, rfl⟩ := compD_nil ecd6
          rw [List.append_nil] at ez6
          subst ez6
          exact ⟨ι6, _, zs ++ y1, ys2, c6, r7, ecd, by rw [← ez, er, List.append_assoc]⟩
  · rintro H' ⟨ι2, hh, zs, rs, c, r2, ecd, ez⟩
    rw [List.drop_length] at ecd
    obtain ⟨rfl, rfl⟩ := compD_nil ecd
    rw [List.append_nil] at ez
    subst ez
    exact c.fin r2 q
end
end Mi

namespace Mi
open PySem L2
/-! ## reading the text -/
def beqN : List Nat → List Nat → Bool
  | [], [] => true
  | x :: r, y :: s => Nat.beq x y && beqN r s
  | _, _ => false
theorem beqN_eq : ∀ {a b : List Nat}, beqN a b = true → a = b
  | [], [], _ => rfl
  | [], _ :: _, h => by cases h
  | _ :: _, [], h => by cases h
  | x :: r, y :: s, h => by
    simp only [beqN, Bool.and_eq_true] at h
    rw [Nat.eq_of_beq_eq_true h.1, beqN_eq h.2]
theorem beqN_refl : ∀ a : List Nat, beqN a a = true
  | [] => rfl
  | x :: r => by simp [beqN, beqN_refl r]
def eqS (a b : Str) : Bool := beqN a.cps.toList b.cps.toList
theorem eqS_eq {a b : Str} (h : eqS a b = true) : a = b := by
  obtain ⟨a⟩ := a; obtain ⟨b⟩ := b
  have := beqN_eq h
  exact congrArg Str.mk (Array.toList_inj.mp this)
theorem eqS_ne {a b : Str} (h : eqS a b = false) : a ≠ b := by
  rintro rfl
  unfold eqS at h
  rw [beqN_refl] at h; cases h
def lkS {α : Type} : List (Str × α) → Str → Option α
  | [], _ => none
  | (y, v) :: r, x => if eqS x y then some v else lkS r x
theorem lkS_eq {α : Type} {x : Str} : ∀ {l : List (Str × α)}, lkS l x = l.lookup x
  | [] => rfl
  | (y, v) :: r => by
    rw [lkS, List.lookup_cons]
    by_cases h : eqS x y = true
    · rw [if_pos h, eqS_eq h]; simp
    · rw [if_neg h]
      have : x ≠ y := eqS_ne (by simpa using h)
      rw [show (x == y) = false by simpa using this]
      exact lkS_eq
def ixS : List Str → Str → Nat → Option Nat
  | [], _, _ => none
  | y :: r, x, i => if eqS x y then some i else ixS r x (i + 1)
theorem ixS_eq {x : Str} : ∀ {l : List Str} {i j : Nat}, ixS l x i = some j → ∃ k, j = i + k ∧ l[k]? = some x
  | [], _, _, h => by cases h
  | y :: r, i, j, h => by
    rw [ixS] at h
    by_cases c : eqS x y = true
    · rw [if_pos c] at h; cases h
      exact ⟨0, rfl, by rw [eqS_eq c]; rfl⟩
    · rw [if_neg c] at h
      obtain ⟨k, e, q⟩ := ixS_eq h
      exact ⟨k + 1, by omega, q⟩
/-- what is known of a block of the text -/
structure Sg where
  N : List Str
  sc : Scope
  fn : Str → Bool
  df : Str → Option Nat
  bi : Str → Bool
  cn : Str → Option D
def Sg.ix (G : Sg) (x : Str) : Option Nat := ixS G.N x 0
def Sg.kd (G : Sg) (x : Str) : Option NameKind := lkS G.sc.names x
def Sg.vis (G : Sg) (x : Str) : Bool := match G.kd x with
  | some .local | some .cell | some .free => true
  | _ => false
def Sg.loc (G : Sg) (x : Str) : Bool := match G.kd x with
  | some .local => true
  | some .cell => G.fn x
  | _ => false
def Sg.isLoc (G : Sg) (x : Str) : Bool := match G.kd x with
  | some .local => true
  | _ => false
def Sg.gl (G : Sg) (x : Str) : Bool := match G.kd x with
  | some .globalImplicit => true
  | _ => false
def Sg.blk (G : Sg) (scope : Scope) : Sg := { G with sc := relS scope G.sc, fn := fun x => scope.names.lookup x == some .cell }
structure Ctx (G : Sg) (cl : Cl) (X : Cx) : Prop where
  N : X.N = G.N
  sc : X.env.scope = G.sc
  fn : ∀ x, G.fn x = true → X.fn x = true
  nd : X.N.Nodup
  kind : X.env.scope.kind = .function
  calm : X.calm = true
  hu : X.A.units + 64 < cLine
  po : PassesOwn (model X.prog X.w) X.A X.env X.xe
  bi : ∀ x, G.bi x = true → X.mg x = none
  df : ∀ f np, G.df f = some np → ∃ fa fd ps k, FnOk X.prog X.w X.K X.mg X.base CX0 k fa fd ps (spD X.K cl f np) ∧ Room k X.A ∧ X.mg f = some (.ref fa) ∧ PySem.W.keepIn X.K (.ref fa) = true ∧ Binds X.K fd ps [] ∧ ∀ args h, args.length ≠ np → cl f args h = .bad
  cn : ∀ x d, G.cn x = some d → ∃ u v, X.mg x = some u ∧ RelV v u ∧ ∀ ι H, Rp X.K ι H d v
section
variable {G : Sg} {cl : Cl} {X : Cx} {x : Str} {i : Nat}
theorem Ctx.ix (C : Ctx G cl X) (h : G.ix x = some i) : X.N[i]? = some x := by
  obtain ⟨k, e, q⟩ := ixS_eq h
  rw [Nat.zero_add] at e
  rw [C.N, e]; exact q
theorem Ctx.kd (C : Ctx G cl X) : X.env.kindOf x = G.kd x := by
  unfold Env.kindOf Sg.kd
  rw [C.sc, lkS_eq]
theorem Ctx.lk (C : Ctx G cl X) : X.env.scope.names.lookup x = G.kd x := by
  unfold Sg.kd
  rw [C.sc, lkS_eq]
theorem Ctx.vis (C : Ctx G cl X) (h : G.vis x = true) : Vis X.env.scope x := by
  unfold Vis
  rw [C.lk]
  unfold Sg.vis at h
  split at h <;> first | (rename_i e; rw [e]; simp; done) | cases h
theorem Ctx.loc (C : Ctx G cl X) (h : G.loc x = true) : L2.Loc X.env.scope x ∧ (X.fn x = true ∨ X.env.scope.names.lookup x = some .local) := by
  unfold L2.Loc
  rw [C.lk]
  unfold Sg.loc at h
  split at h
  · rename_i e; rw [e]; exact ⟨.inl rfl, .inr rfl⟩
  · rename_i e; rw [e]; exact ⟨.inr rfl, .inl (C.fn x h)⟩
  · cases h
theorem Ctx.isLoc (C : Ctx G cl X) (h : G.isLoc x = true) : X.env.scope.names.lookup x = some .local := by
  rw [C.lk]
  unfold Sg.isLoc at h
  split at h
  · assumption
  · cases h
theorem Ctx.gl (C : Ctx G cl X) (h : G.gl x = true) : Gl X x := by
  unfold Gl
  rw [C.kd]
  unfold Sg.gl at h
  split at h
  · assumption
  · cases h
theorem Ctx.blk {s : Shared} {H : Hp} {scope : Scope} {C : Addr} {cells : List (Str × Addr)} {fp : List Addr} (c : Ctx G cl X) (hk : scope.kind = .function) :
    Ctx (G.blk scope) cl (X.blk s H scope (compEnvC scope cells C X.env) fp) where
  N := c.N
  sc := by show relS scope X.env.scope = _; rw [c.sc]; rfl
  fn := fun x h => h
  nd := c.nd
  kind := hk
  calm := c.calm
  hu := c.hu
  po := PassesOwn.never
  bi := c.bi
  df := c.df
  cn := c.cn
end
/-! ### side conditions -/
def isStar : Expr → Bool
  | .Starred _ _ => true
  | _ => false
def isSlice : Expr → Bool
  | .Slice _ _ _ _ => true
  | _ => false
def isSet : Expr → Bool
  | .Set _ _ _ => true
  | _ => false
def isComp : Expr → Bool
  | .ListComp _ _ _ _ | .SetComp _ _ _ _ | .DictComp _ _ _ _ _ => true
  | _ => false
def isCall : Expr → Bool
  | .Call _ _ _ _ => true
  | _ => false
theorem star_cons {e : Expr} {es : List Expr} {env : Env} (h : isStar e = false) : starEach (e :: es) env = (false, eval e env) :: starEach es env := by
  cases e <;> first | rfl | cases h
theorem star_none {env : Env} {pos : Pos} : ∀ {es : List Expr}, es.all (fun e => !isStar e) = true → (backTo pos (starEach es env)).any (·.1) = false
  | [], _ => rfl
  | e :: es, h => by
    simp only [List.all_cons, Bool.and_eq_true, Bool.not_eq_true'] at h
    rw [star_cons h.1]
    show (false || (backTo pos (starEach es env)).any (·.1)) = false
    rw [star_none h.2]; rfl
theorem star_all {env : Env} {pos : Pos} : ∀ {es : List Expr}, es.all (fun e => !isStar e) = true → (backTo pos (starEach es env)).all (fun x => !x.1) = true
  | [], _ => rfl
  | e :: es, h => by
    simp only [List.all_cons, Bool.and_eq_true, Bool.not_eq_true'] at h
    rw [star_cons h.1]
    show ((!false) && (backTo pos (starEach es env)).all (fun x => !x.1)) = true
    rw [star_all h.2]; rfl
theorem asg_cons {e : Expr} {es : List Expr} {env : Env} (h : isStar e = false) : assignEach (e :: es) env = (false, assign e env) :: assignEach es env := by
  cases e <;> first | rfl | cases h
theorem asg_len {env : Env} : ∀ {es : List Expr}, es.all (fun e => !isStar e) = true → (assignEach es env).length = es.length ∧ (assignEach es env).findIdx? (·.1) = none
  | [], _ => ⟨rfl, rfl⟩
  | e :: es, h => by
    simp only [List.all_cons, Bool.and_eq_true, Bool.not_eq_true'] at h
    rw [asg_cons h.1]
    obtain ⟨h1, h2⟩ := asg_len (env := env) h.2
    refine ⟨by rw [List.length_cons, List.length_cons, h1], ?_⟩
    rw [List.findIdx?_cons]
    simp [h2]
theorem slice_plain {b : Expr} (h : isSlice b = false) : PlainIx b := by
  intro o i
  cases b <;> first | rfl | cases h
theorem marks {o : CmpOp} {b : Expr} (h : isSet b = false) : behindInMarks o b = false := by
  cases b <;> first | rfl | cases h
theorem marks2 {o o' : CmpOp} {b c : Expr} (h : isSet c = false) : lastMarks [o, o'] [b, c] = false := marks h
theorem folded {e : Expr} {env : Env} {x : Value} (h : isSet e = false) : foldedSetIterable e env x = pure x := by
  cases e <;> first | rfl | cases h
theorem swaps {e : Expr} {t : Option Expr} {l : Nat} {env : Env} (h : isComp e = false) : swapsWith e t l env = pure false := by
  cases e <;> first | rfl | cases h
theorem base_ok {o : Expr} {m : Str} {env : Env} {w : Sem Value} (h : isCall o = false) : attributeBase o m env w = w := by
  cases o <;> first | rfl | cases h
/-- a test that is a plain value -/
def isPlainT : Expr → Bool
  | .UnaryOp .Not _ _ | .BoolOp _ _ _ | .IfExp _ _ _ _ | .Compare _ _ _ _ => false
  | _ => true
theorem plainT {a : Expr} {env : Env} (h : isPlainT a = true) (whole : Sem Value) : isTrue a env whole = (do let v ← whole; standAt a.pos; holding [v] (truthy v)) := by
  cases a <;> first | rfl | (exact absurd h Bool.false_ne_true) | skip
  rename_i op _ _
  cases op <;> first | rfl | (exact absurd h Bool.false_ne_true)
end Mi

namespace Mi
open PySem L2
section
variable {X : Cx} {tg : Expr} {cl : Cl} {e a b : Expr} {ce ca cb : CE} {p pos : Pos}
theorem i_rng2 (hg : Gl X "range") (hm : X.mg "range" = none) (ha : PE X a (tE X.K cl ca)) (hb : PE X b (tE X.K cl cb)) (na : isStar a = false) (nb : isStar b = false) :
    PI X tg (.Call (.Name "range" p) [a, b] [] pos) (tI X.K cl (.rng (.cons ca (.cons cb .nil)))) := by
  refine pi_imp (pi_range2 hg hm (p_cons ha (p_cons hb p_nil (star_cons nb)) (star_cons na)) (by rw [star_cons na, star_cons nb]; rfl) (by rw [star_cons nb]; rfl)) ?_
  rintro σ H Q ⟨ι, δ, h, re, q⟩
  simp only [evalI] at q
  refine ⟨ι, δ, h, re, ?_⟩
  cases ee : evalL cl (.cons ca (.cons cb .nil)) δ h with
  | ok xs h1 =>
    rw [ee, R.bind_ok] at q
    intro ι1 vs H1 ex r1 rp
    cases er : rngF xs with
    | none => rw [er] at q; exact q.elim
    | some pr =>
      rw [er] at q
      have two : ∃ x y, xs = [x, y] := by
        simp only [evalL] at ee
        obtain ⟨x, h2, _, ee⟩ := R.bind_eq ee
        obtain ⟨ys, h3, e2, ee⟩ := R.bind_eq ee
        obtain ⟨y, h4, _, e2⟩ := R.bind_eq e2
        simp only [R.bind_ok] at e2
        cases e2; cases ee
        exact ⟨_, _, rfl⟩
      obtain ⟨x, y, rfl⟩ := two
      obtain ⟨i, j, rfl, rfl, rfl, hi, hj, hij⟩ := rngF_two er
      match vs, rp with
      | [_, _], .cons (.int _) (.cons (.int _) .nil) =>
        have q := q ι1 (Itr i (j - i).toNat) H1 ex r1 (rngWalk i j)
        refine ⟨i, j, rfl, ⟨by unfold LIM at hi; omega, by unfold LIM at hi; omega, by unfold LIM at hj; omega, by unfold LIM at hj; omega⟩, q⟩
  | exc _ _ _ => rw [ee] at q; exact q.elim
  | bad => rw [ee] at q; exact q.elim
theorem walk_revTX {K : PySem.W.Frag} {a : Addr} {n : Nat} : L2.Walk (RT.ItvT K a n) n (fun H => ∃ vs, SqT K H a vs ∧ vs.length = n) (fun i H x H' => H' = H ∧ ∀ vs, SqT K H a vs → vs[n - 1 - i]? = some x) :=
  ⟨fun i H hi ⟨vs, q, e⟩ => ⟨hi, vs, vs[n - 1 - i]'(by omega), q, List.getElem?_eq_getElem (by omega)⟩, fun H _ => Nat.le_refl _, fun i H x H' _ _ y => y⟩
theorem i_rev (hg : Gl X "reversed") (hm : X.mg "reversed" = none) (ha : PE X e (tE X.K cl ce)) (hs : isStar e = false) :
    PI X tg (.Call (.Name "reversed" p) [e] [] pos) (tI X.K cl (.rev ce)) := by
  refine pi_imp (RT.pi_revA hg hm ha (star_cons hs)) ?_
  rintro σ H Q ⟨ι, δ, h, re, q⟩
  simp only [evalI] at q
  refine step_I (F := fun w => ⟨w.items.reverse, w.live⟩) re q fun w ι2 a H1 h2 e2 r2 lv st k => ?_
  rcases st with st | st
  · obtain ⟨vs, sq, rr⟩ := st.choose_spec.2 ι2 H1 h2 (Ext.refl.toI r2.mut) (fun _ _ => rfl) r2 lv
    refine ⟨a, vs, rfl, .inl ⟨sq, k _ ?_⟩⟩
    rw [← rr.length]
    exact st.walkR walk_revXL
  · obtain ⟨vs, sq, rr⟩ := st.choose_spec.2 ι2 H1 h2 (Ext.refl.toI r2.mut) (fun _ _ => rfl) r2 lv
    refine ⟨a, vs, rfl, .inr ⟨sq, k _ ?_⟩⟩
    rw [← rr.length]
    exact st.walkR walk_revTX
end
section
variable {X : Cx} {cl : Cl} {elt tg iter tg1 iter1 : Expr} {ifs ifs1 : List Expr} {scope : Scope} {own : List (Str × Nat)} {pos : Pos} {ci ci1 : CI} {ct ct1 : CB} {ce : CE} {t t1 : NT} {own1 : List Nat}
theorem p_lc (hc : X.calm = true) (hN : X.N.Nodup) (hi : PI X tg iter (tI X.K cl ci)) (ok : BlkOk X.N X.env.scope scope own)
    (hg : ∀ (s : Shared) (H : Hp) (C : Addr) (cs : List (Str × Addr)) (fp : List Addr), PG (X.blk s H scope (compEnvC scope cs C X.env) fp) tg (gN X.K t))
    (ht : ∀ (s : Shared) (H : Hp) (C : Addr) (cs : List (Str × Addr)) (fp : List Addr), PTs (X.blk s H scope (compEnvC scope cs C X.env) fp) ifs (tB X.K cl ct))
    (he : ∀ (s : Shared) (H : Hp) (C : Addr) (cs : List (Str × Addr)) (fp : List Addr), PE (X.blk s H scope (compEnvC scope cs C X.env) fp) elt (tE X.K cl ce)) (hs : isSet iter = false) (hsl : ∀ i ∈ t.slots, i ∈ own.map (·.2)) :
    PE X (.ListComp elt [⟨tg, iter, ifs, 0⟩] scope pos) (tE X.K cl (.lc (own.map (·.2)) t ci ct ce)) := by
  refine pe_imp (pe_lc hc hN hi ok hg ht he fun x => folded hs) ?_
  rintro σ H Q ⟨ι, δ, h, re, q⟩
  exact lc_ok re q hsl
theorem p_lc2 (hc : X.calm = true) (hN : X.N.Nodup) (hi : PI X tg iter (tI X.K cl ci)) (ok : BlkOk X.N X.env.scope scope own)
    (hg : ∀ (s : Shared) (H : Hp) (C : Addr) (cs : List (Str × Addr)) (fp : List Addr), PG (X.blk s H scope (compEnvC scope cs C X.env) fp) tg (gN X.K t))
    (ht : ∀ (s : Shared) (H : Hp) (C : Addr) (cs : List (Str × Addr)) (fp : List Addr), PTs (X.blk s H scope (compEnvC scope cs C X.env) fp) ifs (tB X.K cl ct))
    (hi1 : ∀ (s : Shared) (H : Hp) (C : Addr) (cs : List (Str × Addr)) (fp : List Addr), PI (X.blk s H scope (compEnvC scope cs C X.env) fp) tg1 iter1 (tI X.K cl ci1))
    (hg1 : ∀ (s : Shared) (H : Hp) (C : Addr) (cs : List (Str × Addr)) (fp : List Addr), PG (X.blk s H scope (compEnvC scope cs C X.env) fp) tg1 (gN X.K t1))
    (ht1 : ∀ (s : Shared) (H : Hp) (C : Addr) (cs : List (Str × Addr)) (fp : List Addr), PTs (X.blk s H scope (compEnvC scope cs C X.env) fp) ifs1 (tB X.K cl ct1))
    (he : ∀ (s : Shared) (H : Hp) (C : Addr) (cs : List (Str × Addr)) (fp : List Addr), PE (X.blk s H scope (compEnvC scope cs C X.env) fp) elt (tE X.K cl ce)) (hs : isSet iter = false) (hs1 : isSet iter1 = false)
    (hsl : ∀ i ∈ t.slots, i ∈ own.map (·.2)) (hsl1 : ∀ i ∈ t1.slots, i ∈ own1) (hown : ∀ i ∈ own1, i ∈ own.map (·.2)) :
    PE X (.ListComp elt [⟨tg, iter, ifs, 0⟩, ⟨tg1, iter1, ifs1, 0⟩] scope pos) (tE X.K cl (.lc2 (own.map (·.2)) own1 t ci ct t1 ci1 ct1 ce)) := by
  refine pe_imp (pe_lc2 hc hN hi ok hown hg ht hi1 hg1 ht1 he (fun x => folded hs) fun _ _ => folded hs1) ?_
  rintro σ H Q ⟨ι, δ, h, re, q⟩
  exact lc2_ok re q hsl hsl1 hown
theorem F_set {K : PySem.W.Frag} {ι : List Addr} {δ : En} {h : HS} {σ : St} {H : Hp} {E : Ends} {k : Nat} {r : R D} (re : RelE K ι δ h σ H) (q : PostF K ι H (r.fl fun v h1 => (asgA cl (.nm k) v δ h1).fl fun δ1 h2 => .next δ1 h2) E) : PostE K ι H r fun x H1 => E.nx (σ.set k (some x)) H1 := by
  cases r with
  | ok v h1 =>
    have q : PostF K ι H ((asgA cl (.nm k) v δ h1).fl fun δ1 h2 => .next δ1 h2) E := q
    intro ι1 u H1 e1 r1 ru
    simp only [asgA] at q
    by_cases c : k < δ.length
    · rw [if_pos c] at q
      exact q ι1 _ H1 e1 ((re.ext e1 r1).set ru)
    · rw [if_neg c] at q; exact q.elim
  | exc _ _ _ => exact q
  | bad => exact q
theorem s_setLc {k : Nat} {y : Str} {py spos : Pos} (hy : X.N[k]? = some y) (hyl : X.env.scope.names.lookup y = some .local) (hsw : swapsWith (.ListComp elt [⟨tg, iter, ifs, 0⟩] scope pos) (some (.Name y py)) spos.line X.env = pure true)
    (hc : X.calm = true) (hN : X.N.Nodup) (hi : PI X tg iter (tI X.K cl ci)) (ok : BlkOk X.N X.env.scope scope own)
    (hg : ∀ (s : Shared) (H : Hp) (C : Addr) (cs : List (Str × Addr)) (fp : List Addr), PG (X.blk s H scope (compEnvC scope cs C X.env) fp) tg (gN X.K t))
    (ht : ∀ (s : Shared) (H : Hp) (C : Addr) (cs : List (Str × Addr)) (fp : List Addr), PTs (X.blk s H scope (compEnvC scope cs C X.env) fp) ifs (tB X.K cl ct))
    (he : ∀ (s : Shared) (H : Hp) (C : Addr) (cs : List (Str × Addr)) (fp : List Addr), PE (X.blk s H scope (compEnvC scope cs C X.env) fp) elt (tE X.K cl ce)) (hs : isSet iter = false) (hsl : ∀ i ∈ t.slots, i ∈ own.map (·.2)) :
    PS X (.Assign [.Name y py] (.ListComp elt [⟨tg, iter, ifs, 0⟩] scope pos) spos) (tS X.K cl (.asg (.nm k) (.lc (own.map (·.2)) t ci ct ce))) := by
  refine ps_imp (ps_setLc hc hN hy hyl hsw hi ok hg ht he fun x => folded hs) ?_
  rintro E σ H ⟨ι, δ, h, re, q⟩
  simp only [execS] at q
  exact lc_ok re (F_set re q) hsl
theorem s_setLc2 {k : Nat} {y : Str} {py spos : Pos} (hy : X.N[k]? = some y) (hyl : X.env.scope.names.lookup y = some .local) (hsw : swapsWith (.ListComp elt [⟨tg, iter, ifs, 0⟩, ⟨tg1, iter1, ifs1, 0⟩] scope pos) (some (.Name y py)) spos.line X.env = pure true)
    (hc : X.calm = true) (hN : X.N.Nodup) (hi : PI X tg iter (tI X.K cl ci)) (ok : BlkOk X.N X.env.scope scope own)
    (hg : ∀ (s : Shared) (H : Hp) (C : Addr) (cs : List (Str × Addr)) (fp : List Addr), PG (X.blk s H scope (compEnvC scope cs C X.env) fp) tg (gN X.K t))
    (ht : ∀ (s : Shared) (H : Hp) (C : Addr) (cs : List (Str × Addr)) (fp : List Addr), PTs (X.blk s H scope (compEnvC scope cs C X.env) fp) ifs (tB X.K cl ct))
    (hi1 : ∀ (s : Shared) (H : Hp) (C : Addr) (cs : List (Str × Addr)) (fp : List Addr), PI (X.blk s H scope (compEnvC scope cs C X.env) fp) tg1 iter1 (tI X.K cl ci1))
    (hg1 : ∀ (s : Shared) (H : Hp) (C : Addr) (cs : List (Str × Addr)) (fp : List Addr), PG (X.blk s H scope (compEnvC scope cs C X.env) fp) tg1 (gN X.K t1))
    (ht1 : ∀ (s : Shared) (H : Hp) (C : Addr) (cs : List (Str × Addr)) (fp : List Addr), PTs (X.blk s H scope (compEnvC scope cs C X.env) fp) ifs1 (tB X.K cl ct1))
    (he : ∀ (s : Shared) (H : Hp) (C : Addr) (cs : List (Str × Addr)) (fp : List Addr), PE (X.blk s H scope (compEnvC scope cs C X.env) fp) elt (tE X.K cl ce)) (hs : isSet iter = false) (hs1 : isSet iter1 = false)
    (hsl : ∀ i ∈ t.slots, i ∈ own.map (·.2)) (hsl1 : ∀ i ∈ t1.slots, i ∈ own1) (hown : ∀ i ∈ own1, i ∈ own.map (·.2)) :
    PS X (.Assign [.Name y py] (.ListComp elt [⟨tg, iter, ifs, 0⟩, ⟨tg1, iter1, ifs1, 0⟩] scope pos) spos) (tS X.K cl (.asg (.nm k) (.lc2 (own.map (·.2)) own1 t ci ct t1 ci1 ct1 ce))) := by
  refine ps_imp (ps_setLc2 hc hN hy hyl hsw hi ok hown hg ht hi1 hg1 ht1 he (fun x => folded hs) fun _ _ => folded hs1) ?_
  rintro E σ H ⟨ι, δ, h, re, q⟩
  simp only [execS] at q
  exact lc2_ok re (F_set re q) hsl hsl1 hown
end
end Mi

namespace Mi
open PySem L2
/-! ## the translator: expressions -/
structure Tr where
  e : Sg → Expr → Option CE
  b : Sg → Expr → Option CB
  s : Sg → Stmt → Option CS
structure OkTr (cl : Cl) (T : Tr) : Prop where
  e : ∀ G x c, T.e G x = some c → ∀ X, Ctx G cl X → PE X x (tE X.K cl c)
  b : ∀ G x c, T.b G x = some c → ∀ X, Ctx G cl X → PT X x (tB X.K cl c)
  s : ∀ G x c, T.s G x = some c → ∀ X, Ctx G cl X → PS X x (tS X.K cl c)
def noDbg (x : Str) : Bool := !(x == ("__debug__" : Str)) && !(x == ("__classdict__" : Str))
theorem noDbg_1 {x : Str} (h : noDbg x = true) : (x == ("__debug__" : Str)) = false := by
  unfold noDbg at h
  simp only [Bool.and_eq_true, Bool.not_eq_true'] at h
  exact h.1
theorem noDbg_2 {x : Str} (h : noDbg x = true) : (x == ("__classdict__" : Str)) = false := by
  unfold noDbg at h
  simp only [Bool.and_eq_true, Bool.not_eq_true'] at h
  exact h.2
def biNm : Bi → Str
  | .len => "len" | .any => "any" | .all => "all" | .sorted => "sorted" | .list => "list" | .tuple => "tuple" | .sum => "sum" | .min => "min" | .max => "max" | .abs => "abs" | .int => "int" | .str => "str" | .set_ => "set"
def biAll : List Bi := [.len, .any, .all, .sorted, .list, .tuple, .sum, .min, .max, .abs, .int]
def biOf (x : Str) : Option Bi := biAll.find? fun b => eqS x (biNm b)
theorem biOf_eq {x : Str} {b : Bi} (h : biOf x = some b) : x = biNm b ∧ b ∈ biAll := by
  unfold biOf at h
  exact ⟨eqS_eq (by simpa using List.find?_some h), List.mem_of_find?_eq_some h⟩
def meNm : Me → Str
  | .append => "append" | .pop => "pop" | .extend => "extend" | .index => "index" | .get => "get" | .setdefault => "setdefault" | .values => "values" | .count => "count" | .remove => "remove"
def meAll : List Me := [.append, .pop, .extend]
def meOf (x : Str) : Option Me := meAll.find? fun b => eqS x (meNm b)
theorem meOf_eq {x : Str} {b : Me} (h : meOf x = some b) : x = meNm b ∧ b ∈ meAll := by
  unfold meOf at h
  exact ⟨eqS_eq (by simpa using List.find?_some h), List.mem_of_find?_eq_some h⟩
def tyNm : Ty → Str
  | .int => "int" | .bool => "bool" | .tuple => "tuple" | .str => "str" | .list => "list"
def tyOf (x : Str) : Option Ty := [Ty.int, .bool, .tuple, .str, .list].find? fun b => eqS x (tyNm b)
theorem tyOf_eq {x : Str} {b : Ty} (h : tyOf x = some b) : x = tyNm b := by
  unfold tyOf at h
  exact eqS_eq (by simpa using List.find?_some h)
def trC : Const → Option D
  | .int i => some (.int i)
  | .str x => some (.str x)
  | .bool b => some (.bl b)
  | .none => some .non
  | _ => none
def nost (es : List Expr) : Bool := es.all fun e => !isStar e
def trL (T : Tr) (G : Sg) : List Expr → Option CL
  | [] => some .nil
  | e :: r => if isStar e then none else (T.e G e).bind fun x => (trL T G r).map fun y => .cons x y
def trO (T : Tr) (G : Sg) : Option Expr → Option CO
  | none => some .no
  | some e => (T.e G e).map .so
/-- a name that is the builtin -/
def isB (G : Sg) (x nm : Str) : Bool := eqS x nm && G.gl nm && G.bi nm
/-- what the text writes as e and e and .. -/
def trAV (T : Tr) (G : Sg) (op : BoolOp) : List Expr → Option CE
  | [] => none
  | [a] => T.e G a
  | a :: r => (T.e G a).bind fun x => (trAV T G op r).map fun y => match op with | .And => .andv x y | .Or => .orv x y
def trAB (T : Tr) (G : Sg) (op : BoolOp) : List Expr → Option CB
  | [] => none
  | [a] => T.b G a
  | a :: r => (T.b G a).bind fun x => (trAB T G op r).map fun y => match op with | .And => .and_ x y | .Or => .or_ x y
def trNms (G : Sg) : List Expr → Option (List Nat)
  | [] => some []
  | .Name x _ :: r => if G.loc x then (G.ix x).bind fun i => (trNms G r).map fun is => i :: is else none
  | _ => none
def trNT (G : Sg) : Expr → Option NT
  | .Name x _ => if G.loc x then (G.ix x).map .nm else none
  | .Tuple es _ _ => (trNms G es).map .tp
  | _ => none
def isTupE : Expr → Bool
  | .Tuple _ _ _ => true
  | _ => false
def trI (T : Tr) (G : Sg) (tg : Expr) (iter : Expr) : Option CI := match iter with
  | .Call (.Name f _) [a] [] _ =>
    if isStar a then none
    else if isB G f "range" then (T.e G a).map fun x => .rng (.cons x .nil)
    else if isB G f "enumerate" && isTupE tg then (T.e G a).map .enum
    else if isB G f "reversed" then (T.e G a).map .rev
    else (T.e G iter).map .seq
  | .Call (.Name f _) [a, b] [] _ =>
    if isStar a || isStar b then none
    else if isB G f "range" then (T.e G a).bind fun x => (T.e G b).map fun y => .rng (.cons x (.cons y .nil))
    else (T.e G iter).map .seq
  | _ => (T.e G iter).map .seq
def trTs (T : Tr) (G : Sg) : List Expr → Option CB
  | [] => some .tru
  | [c] => T.b G c
  | _ => none
def ownOf (G : Sg) : List (Str × NameKind) → List (Str × Nat)
  | [] => []
  | (x, .local) :: r => match G.ix x with | some i => (x, i) :: ownOf G r | none => ownOf G r
  | (x, .cell) :: r => match G.ix x with | some i => (x, i) :: ownOf G r | none => ownOf G r
  | _ :: r => ownOf G r
def subN (a b : List Nat) : Bool := a.all fun i => b.any fun j => Nat.beq i j
theorem subN_eq {a b : List Nat} (h : subN a b = true) : ∀ i ∈ a, i ∈ b := fun i hi => by
  unfold subN at h
  have h := List.all_eq_true.mp h i hi
  obtain ⟨j, hj, e⟩ := List.any_eq_true.mp h
  rw [Nat.eq_of_beq_eq_true e]; exact hj
def trLC (T : Tr) (G : Sg) (elt : Expr) (gs : List Comprehension) (scope : Scope) : Option CE := match gs with
  | [⟨tg, iter, ifs, 0⟩] =>
    let own := ownOf G scope.names
    let G1 := G.blk scope
    if isSet iter || !blkC G.N G.sc scope own then none else
    (trNT G1 tg).bind fun t => if subN t.slots (own.map (·.2)) then (trI T G tg iter).bind fun ci => (trTs T G1 ifs).bind fun ct => (T.e G1 elt).map fun ce => .lc (own.map (·.2)) t ci ct ce else none
  | [⟨tg, iter, ifs, 0⟩, ⟨tg1, iter1, ifs1, 0⟩] =>
    let own := ownOf G scope.names
    let G1 := G.blk scope
    if isSet iter || isSet iter1 || !blkC G.N G.sc scope own then none else
    (trNT G1 tg).bind fun t => (trNT G1 tg1).bind fun t1 => if subN t.slots (own.map (·.2)) && subN t1.slots (own.map (·.2)) then
      (trI T G tg iter).bind fun ci => (trTs T G1 ifs).bind fun ct => (trI T G1 tg1 iter1).bind fun ci1 => (trTs T G1 ifs1).bind fun ct1 => (T.e G1 elt).map fun ce => .lc2 (own.map (·.2)) t1.slots t ci ct t1 ci1 ct1 ce else none
  | _ => none
def trCall (T : Tr) (G : Sg) (f : Str) (args : List Expr) : Option CE :=
  if !G.gl f || !noDbg f || !nost args then none else
  match G.df f with
  | some _ => (trL T G args).map (.call f)
  | none => if !G.bi f then none else
    match args with
    | [] => none
    | [.Call (.Name g _) [a] [] _] =>
      if isB G g "range" && isB G f "list" && !isStar a then (T.e G a).map fun x => .lrg (.cons x .nil)
      else if isB G g "range" && isB G f "tuple" && !isStar a then (T.e G a).map fun x => .trg (.cons x .nil)
      else (biOf f).bind fun b => (trL T G args).map (.bi b)
    | [.Call (.Name g _) [a, a2] [] _] =>
      if isB G g "range" && isB G f "list" && !isStar a && !isStar a2 then (T.e G a).bind fun x => (T.e G a2).map fun y => .lrg (.cons x (.cons y .nil))
      else (biOf f).bind fun b => (trL T G args).map (.bi b)
    | [a, .Name ty _] =>
      if eqS f "isinstance" then (tyOf ty).bind fun t => if G.gl ty && G.bi ty then (T.e G a).map (.isi t) else none
      else (biOf f).bind fun b => (trL T G args).map (.bi b)
    | _ => (biOf f).bind fun b => (trL T G args).map (.bi b)
def isRev : Expr → Bool
  | .Slice none none (some (.UnaryOp .USub (.Constant (.int 1) _ _) _)) _ => true
  | _ => false
def trE (T : Tr) (G : Sg) (x : Expr) : Option CE := match x with
  | .Name x _ => if !noDbg x then none else if G.vis x then (G.ix x).map .var else if G.gl x then (G.cn x).map .lit else none
  | .Constant c _ _ => (trC c).map .lit
  | .BinOp a o b _ => if opOk o then (T.e G a).bind fun x => (T.e G b).map fun y => .bin o x y else none
  | .UnaryOp .USub a _ => (T.e G a).map .neg
  | .UnaryOp .Not a _ => (T.e G a).map .notv
  | .Compare a [o] [b] _ => if isSet b then none else (T.e G a).bind fun x => (T.e G b).map fun y => .cmp o x y
  | .Compare a [o, o'] [b, c] _ => if isSet c then none else (T.e G a).bind fun x => (T.e G b).bind fun y => (T.e G c).map fun z => .chain o o' x y z
  | .BoolOp op es _ => trAV T G op es
  | .IfExp c a b _ => (T.b G c).bind fun t => (T.e G a).bind fun x => (T.e G b).map fun y => .ife t x y
  | .Tuple es _ _ => (trL T G es).map .tup
  | .List es _ => (trL T G es).map .lst
  | .Dict [] [] _ => some .dct0
  | .Subscript a (.Slice none none (some (.UnaryOp .USub (.Constant (.int 1) _ _) _)) _) _ => (T.e G a).map .rev
  | .Subscript a (.Slice lo hi none _) _ => (T.e G a).bind fun x => (trO T G lo).bind fun l => (trO T G hi).map fun u => .slice x l u
  | .Subscript a b _ => if isSlice b then none else (T.e G a).bind fun x => (T.e G b).map fun y => .ix x y
  | .Call (.Name f _) args [] _ => trCall T G f args
  | .Call (.Attribute o m apos) args [] cpos => if isCall o || !nost args || !(apos.endLine == cpos.line) || !decide (args.length < 9) then none else
    (meOf m).bind fun m => (T.e G o).bind fun x => (trL T G args).map fun y => .meth m x y
  | .ListComp elt gs scope _ => trLC T G elt gs scope
  | _ => none
def trB (T : Tr) (G : Sg) (x : Expr) : Option CB := match x with
  | .UnaryOp .Not a _ => (T.b G a).map .not_
  | .BoolOp op es _ => trAB T G op es
  | .Compare a [o] [b] _ => if isSet b then none else (T.e G a).bind fun x => (T.e G b).map fun y => .cmp o x y
  | .Compare a [o, o'] [b, c] _ => if isSet c then none else (T.e G a).bind fun x => (T.e G b).bind fun y => (T.e G c).map fun z => .chain o o' x y z
  | e => if isPlainT e then (T.e G e).map .val else none
/-! ## it is right -/
section
variable {cl : Cl} {T : Tr} {G : Sg} {X : Cx} {e : Expr} {c : CE} {pos : Pos}
theorem ok_C {k : Const} {d : D} {j : Nat} (h : trC k = some d) : PE X (.Constant k j pos) (tE X.K cl (.lit d)) := by
  cases k <;> first | cases h | skip
  · exact p_lit pe_non fun _ _ => .non
  · exact p_lit pe_bl fun _ _ => .bl _
  · exact p_lit pe_int fun _ _ => .int _
  · exact p_lit pe_str fun _ _ => .str _
theorem ok_L (O : OkTr cl T) (C : Ctx G cl X) : ∀ {es : List Expr} {cs : CL}, trL T G es = some cs → PA X es (tL X.K cl cs)
  | [], _, h => by cases h; exact p_nil
  | e :: r, cs, h => by
    rw [trL] at h
    by_cases s : isStar e = true
    · rw [if_pos s] at h; cases h
    · rw [if_neg s] at h
      obtain ⟨x, hx, h⟩ := Option.bind_eq_some_iff.mp h
      obtain ⟨y, hy, rfl⟩ := Option.map_eq_some_iff.mp h
      exact p_cons (O.e _ _ _ hx X C) (ok_L O C hy) (star_cons (by simpa using s))
theorem ok_O (O : OkTr cl T) (C : Ctx G cl X) : ∀ {o : Option Expr} {c : CO}, trO T G o = some c → PO X o (tO X.K cl c)
  | none, _, h => by cases h; exact p_no
  | some e, c, h => by
    obtain ⟨x, hx, rfl⟩ := Option.map_eq_some_iff.mp h
    exact p_so (O.e _ _ _ hx X C)
theorem isB_ok (C : Ctx G cl X) {x nm : Str} (h : isB G x nm = true) : x = nm ∧ Gl X nm ∧ X.mg nm = none := by
  unfold isB at h
  simp only [Bool.and_eq_true] at h
  exact ⟨eqS_eq h.1.1, C.gl h.1.2, C.bi _ h.2⟩
theorem ok_AV (O : OkTr cl T) (C : Ctx G cl X) {op : BoolOp} : ∀ {es : List Expr} {c : CE}, trAV T G op es = some c → PE X (.BoolOp op es pos) (tE X.K cl c)
  | [], _, h => by cases h
  | [a], c, h => pe_one (O.e _ _ _ h X C)
  | a :: b :: r, c, h => by
    rw [trAV] at h
    obtain ⟨x, hx, h⟩ := Option.bind_eq_some_iff.mp h
    obtain ⟨y, hy, rfl⟩ := Option.map_eq_some_iff.mp h
    cases op with
    | And => exact p_andv (O.e _ _ _ hx X C) (ok_AV O C hy)
    | Or => exact p_orv (O.e _ _ _ hx X C) (ok_AV O C hy)
    · simp
theorem ok_AB (O : OkTr cl T) (C : Ctx G cl X) {op : BoolOp} : ∀ {es : List Expr} {c : CB}, trAB T G op es = some c → PW X (.BoolOp op es pos) (tB X.K cl c)
  | [], _, h => by cases h
  | [a], c, h => by
    cases op with
    | And => exact p_and1 (O.b _ _ _ h X C)
    | Or => exact p_or1 (O.b _ _ _ h X C)
  | a :: b :: r, c, h => by
    rw [trAB] at h
    obtain ⟨x, hx, h⟩ := Option.bind_eq_some_iff.mp h
    obtain ⟨y, hy, rfl⟩ := Option.map_eq_some_iff.mp h
    cases op with
    | And => exact p_and (O.b _ _ _ hx X C) (ok_AB O C hy)
    | Or => exact p_or (O.b _ _ _ hx X C) (ok_AB O C hy)
    · simp
theorem ok_Nms (C : Ctx G cl X) : ∀ {es : List Expr} {is : List Nat}, trNms G es = some is → PGs X es (gNs is) ∧ (assignEach es X.env).length = is.length ∧ (assignEach es X.env).findIdx? (·.1) = none
  | [], _, h => by cases h; exact ⟨pgs_nil, rfl, rfl⟩
  | e :: r, is, h => by
    cases e <;> first | cases h | skip
    rename_i x p
    rw [trNms] at h
    by_cases l : G.loc x = true
    · rw [if_pos l] at h
      obtain ⟨i, hi, h⟩ := Option.bind_eq_some_iff.mp h
      obtain ⟨js, hj, rfl⟩ := Option.map_eq_some_iff.mp h
      obtain ⟨h1, h2, h3⟩ := ok_Nms C hj
      obtain ⟨l1, l2⟩ := C.loc l
      refine ⟨pgs_cons (pg_name C.nd (C.ix hi) l1 l2) h1 rfl, ?_, ?_⟩
      · show (assignEach r X.env).length + 1 = _
        rw [h2]; rfl
      · show List.findIdx? (fun x => x.1) ((false, assign (.Name x p) X.env) :: assignEach r X.env) = none
        rw [List.findIdx?_cons]; simp [h3]
    · rw [if_neg l] at h; cases h
theorem ok_NT (C : Ctx G cl X) {t : NT} (h : trNT G e = some t) : PG X e (gN X.K t) := by
  cases e <;> first | cases h | skip
  · rename_i x p
    rw [trNT] at h
    by_cases l : G.loc x = true
    · rw [if_pos l] at h
      obtain ⟨i, hi, rfl⟩ := Option.map_eq_some_iff.mp h
      obtain ⟨l1, l2⟩ := C.loc l
      exact pg_name C.nd (C.ix hi) l1 l2
    · rw [if_neg l] at h; cases h
  · rw [trNT] at h
    obtain ⟨is, hi, rfl⟩ := Option.map_eq_some_iff.mp h
    obtain ⟨h1, h2, h3⟩ := ok_Nms C hi
    exact pg_tup C.calm h1 h2 h3
theorem ok_I (O : OkTr cl T) (C : Ctx G cl X) {tg iter : Expr} {ci : CI} (h : trI T G tg iter = some ci) : PI X tg iter (tI X.K cl ci) := by
  unfold trI at h
  split at h
  · split at h
    · cases h
    · rename_i hs
      rw [Bool.not_eq_true] at hs
      split at h
      · rename_i hb
        obtain ⟨rfl, g, m⟩ := isB_ok C hb
        obtain ⟨x, hx, rfl⟩ := Option.map_eq_some_iff.mp h
        exact i_rng1 g m (O.e _ _ _ hx X C) (star_cons hs)
      · split at h
        · rename_i hb
          rw [Bool.and_eq_true] at hb
          obtain ⟨rfl, g, m⟩ := isB_ok C hb.1
          obtain ⟨x, hx, rfl⟩ := Option.map_eq_some_iff.mp h
          have ht := hb.2
          cases tg <;> first | cases ht | skip
          exact i_enum g m (O.e _ _ _ hx X C) (star_cons hs)
        · split at h
          · rename_i hb
            obtain ⟨rfl, g, m⟩ := isB_ok C hb
            obtain ⟨x, hx, rfl⟩ := Option.map_eq_some_iff.mp h
            exact i_rev g m (O.e _ _ _ hx X C) hs
          · obtain ⟨x, hx, rfl⟩ := Option.map_eq_some_iff.mp h
            exact i_seq (O.e _ _ _ hx X C)
  · split at h
    · cases h
    · rename_i hs
      simp only [Bool.or_eq_true, not_or, Bool.not_eq_true] at hs
      split at h
      · rename_i hb
        obtain ⟨rfl, g, m⟩ := isB_ok C hb
        obtain ⟨x, hx, h⟩ := Option.bind_eq_some_iff.mp h
        obtain ⟨y, hy, rfl⟩ := Option.map_eq_some_iff.mp h
        exact i_rng2 g m (O.e _ _ _ hx X C) (O.e _ _ _ hy X C) hs.1 hs.2
      · obtain ⟨x, hx, rfl⟩ := Option.map_eq_some_iff.mp h
        exact i_seq (O.e _ _ _ hx X C)
  · obtain ⟨x, hx, rfl⟩ := Option.map_eq_some_iff.mp h
    exact i_seq (O.e _ _ _ hx X C)
theorem ok_Ts (O : OkTr cl T) (C : Ctx G cl X) : ∀ {es : List Expr} {c : CB}, trTs T G es = some c → PTs X es (tB X.K cl c)
  | [], _, h => by cases h; exact pts_nilB
  | [a], c, h => pts_one (O.b _ _ _ h X C)
  | _ :: _ :: _, _, h => by cases h
theorem ok_bi {b : Bi} {p : Pos} {es : List Expr} {cs : CL} (C : Ctx G cl X) (hb : b ∈ biAll) (hg : Gl X (biNm b)) (hm : X.mg (biNm b) = none) (ha : PA X (e :: es) (tL X.K cl cs)) (hn : nost (e :: es) = true) :
    PE X (.Call (.Name (biNm b) p) (e :: es) [] pos) (tE X.K cl (.bi b cs)) := by
  have hn := hn
  unfold nost at hn
  simp only [List.all_cons, Bool.and_eq_true, Bool.not_eq_true'] at hn
  have s1 := star_cons (es := es) (env := X.env) hn.1
  have s2 := star_none (env := X.env) (pos := pos) (es := es) (by simpa using hn.2)
  cases b with
  | len => exact p_biB b_len hg hm (by decide +kernel) ha (by decide +kernel) (by decide +kernel) s1 s2
  | any => exact p_biB (b_any C.calm) hg hm (by decide +kernel) ha (by decide +kernel) (by decide +kernel) s1 s2
  | all => exact p_biB (b_all C.calm) hg hm (by decide +kernel) ha (by decide +kernel) (by decide +kernel) s1 s2
  | sorted => exact p_biB b_sorted hg hm (by decide +kernel) ha (by decide +kernel) (by decide +kernel) s1 s2
  | sum => exact p_biB (b_sum C.calm) hg hm (by decide +kernel) ha (by decide +kernel) (by decide +kernel) s1 s2
  | min => exact p_biB (b_min C.calm) hg hm (by decide +kernel) ha (by decide +kernel) (by decide +kernel) s1 s2
  | max => exact p_biB (b_max C.calm) hg hm (by decide +kernel) ha (by decide +kernel) (by decide +kernel) s1 s2
  | abs => exact p_biB b_abs hg hm (by decide +kernel) ha (by decide +kernel) (by decide +kernel) s1 s2
  | list => exact p_biT b_list hg hm (by decide +kernel) ha (by decide +kernel) (by decide +kernel) s1 s2
  | tuple => exact p_biT b_tuple hg hm (by decide +kernel) ha (by decide +kernel) (by decide +kernel) s1 s2
  | int => exact p_biT b_int hg hm (by decide +kernel) ha (by decide +kernel) (by decide +kernel) s1 s2
  | str => exact absurd hb (by decide)
  | set_ => exact absurd hb (by decide)
theorem ok_LC (O : OkTr cl T) (C : Ctx G cl X) {gs : List Comprehension} {scope : Scope} (h : trLC T G e gs scope = some c) : PE X (.ListComp e gs scope pos) (tE X.K cl c) := by
  unfold trLC at h
  split at h
  · dsimp only at h
    split at h
    · cases h
    · rename_i hs
      simp only [Bool.or_eq_true, not_or, Bool.not_eq_true, Bool.not_eq_true', Bool.not_eq_false] at hs
      obtain ⟨t, ht, h⟩ := Option.bind_eq_some_iff.mp h
      split at h
      · rename_i sl
        obtain ⟨ci, hi, h⟩ := Option.bind_eq_some_iff.mp h
        obtain ⟨ct, hc, h⟩ := Option.bind_eq_some_iff.mp h
        obtain ⟨ce, he, rfl⟩ := Option.map_eq_some_iff.mp h
        have ok := blkOk_by hs.2
        rw [← C.N, ← C.sc] at ok
        exact p_lc C.calm C.nd (ok_I O C hi) ok (fun _ _ _ _ _ => ok_NT (cl := cl) (C.blk ok.kind) ht) (fun _ _ _ _ _ => ok_Ts O (C.blk ok.kind) hc) (fun _ _ _ _ _ => O.e _ _ _ he _ (C.blk ok.kind)) hs.1 (subN_eq sl)
      · cases h
  · dsimp only at h
    split at h
    · cases h
    · rename_i hs
      simp only [Bool.or_eq_true, not_or, Bool.not_eq_true, Bool.not_eq_true', Bool.not_eq_false] at hs
      obtain ⟨t, ht, h⟩ := Option.bind_eq_some_iff.mp h
      obtain ⟨t1, ht1, h⟩ := Option.bind_eq_some_iff.mp h
      split at h
      · rename_i sl
        rw [Bool.and_eq_true] at sl
        obtain ⟨ci, hi, h⟩ := Option.bind_eq_some_iff.mp h
        obtain ⟨ct, hc, h⟩ := Option.bind_eq_some_iff.mp h
        obtain ⟨ci1, hi1, h⟩ := Option.bind_eq_some_iff.mp h
        obtain ⟨ct1, hc1, h⟩ := Option.bind_eq_some_iff.mp h
        obtain ⟨ce, he, rfl⟩ := Option.map_eq_some_iff.mp h
        have ok := blkOk_by hs.2
        rw [← C.N, ← C.sc] at ok
        exact p_lc2 C.calm C.nd (ok_I O C hi) ok (fun _ _ _ _ _ => ok_NT (cl := cl) (C.blk ok.kind) ht) (fun _ _ _ _ _ => ok_Ts O (C.blk ok.kind) hc) (fun _ _ _ _ _ => ok_I O (C.blk ok.kind) hi1)
          (fun _ _ _ _ _ => ok_NT (cl := cl) (C.blk ok.kind) ht1) (fun _ _ _ _ _ => ok_Ts O (C.blk ok.kind) hc1) (fun _ _ _ _ _ => O.e _ _ _ he _ (C.blk ok.kind)) hs.1.1 hs.1.2 (subN_eq sl.1) (fun _ h => h) (subN_eq sl.2)
      · cases h
  · cases h
end
end Mi

namespace Mi
open PySem L2
section
variable {cl : Cl} {T : Tr} {G : Sg} {X : Cx} {e : Expr} {c : CE} {pos : Pos}
theorem ok_Call0 (O : OkTr cl T) (C : Ctx G cl X) {f : Str} {args : List Expr} {p : Pos} {b : Bi} {c : CE} (hb : (biOf f).bind (fun b => (trL T G args).map (.bi b)) = some c) (ha : args ≠ []) (g : Gl X f) (m : X.mg f = none) (hn : nost args = true) :
    PE X (.Call (.Name f p) args [] pos) (tE X.K cl c) := by
  obtain ⟨b, e1, h⟩ := Option.bind_eq_some_iff.mp hb
  obtain ⟨cs, hc, rfl⟩ := Option.map_eq_some_iff.mp h
  obtain ⟨rfl, hb2⟩ := biOf_eq e1
  cases args with
  | nil => exact absurd rfl ha
  | cons x r => exact ok_bi C hb2 g m (ok_L O C hc) hn
theorem ok_Call (O : OkTr cl T) (C : Ctx G cl X) {f : Str} {args : List Expr} {p : Pos} (h : trCall T G f args = some c) : PE X (.Call (.Name f p) args [] pos) (tE X.K cl c) := by
  unfold trCall at h
  split at h
  · cases h
  rename_i hs
  simp only [Bool.or_eq_true, not_or, Bool.not_eq_true, Bool.not_eq_true', Bool.not_eq_false] at hs
  obtain ⟨⟨g, nd⟩, ns⟩ := hs
  have g := C.gl g
  split at h
  · rename_i np hd
    obtain ⟨cs, hc, rfl⟩ := Option.map_eq_some_iff.mp h
    obtain ⟨fa, fd, ps, k, F, r, m, kp, bd, ar⟩ := C.df _ _ hd
    cases args with
    | nil =>
      rw [trL] at hc; cases hc
      exact p_call0 F r g m kp bd ar (noDbg_1 nd)
    | cons x es =>
      have hn := ns
      unfold nost at hn
      simp only [List.all_cons, Bool.and_eq_true, Bool.not_eq_true'] at hn
      exact p_call F r g m kp bd ar (ok_L O C hc) (noDbg_1 nd) (star_cons hn.1) (star_none (by simpa using hn.2))
  · split at h
    · cases h
    rename_i hb
    simp only [Bool.not_eq_true, Bool.not_eq_false'] at hb
    have m := C.bi _ (by simpa using hb)
    split at h
    · cases h
    · split at h
      · rename_i q
        simp only [Bool.and_eq_true, Bool.not_eq_true'] at q
        obtain ⟨⟨q1, q2⟩, q3⟩ := q
        obtain ⟨rfl, g1, m1⟩ := isB_ok C q1
        obtain ⟨rfl, g2, m2⟩ := isB_ok C q2
        obtain ⟨x, hx, rfl⟩ := Option.map_eq_some_iff.mp h
        exact p_lrg1 C.calm g2 m2 g1 m1 (O.e _ _ _ hx X C) (star_cons q3)
      · split at h
        · rename_i q
          simp only [Bool.and_eq_true, Bool.not_eq_true'] at q
          obtain ⟨⟨q1, q2⟩, q3⟩ := q
          obtain ⟨rfl, g1, m1⟩ := isB_ok C q1
          obtain ⟨rfl, g2, m2⟩ := isB_ok C q2
          obtain ⟨x, hx, rfl⟩ := Option.map_eq_some_iff.mp h
          exact p_trg1 C.calm g2 m2 g1 m1 (O.e _ _ _ hx X C) (star_cons q3)
        · exact ok_Call0 (b := .len) O C h (by simp) g m ns
    · split at h
      · rename_i q
        simp only [Bool.and_eq_true, Bool.not_eq_true'] at q
        obtain ⟨⟨⟨q1, q2⟩, q3⟩, q4⟩ := q
        obtain ⟨rfl, g1, m1⟩ := isB_ok C q1
        obtain ⟨rfl, g2, m2⟩ := isB_ok C q2
        obtain ⟨x, hx, h⟩ := Option.bind_eq_some_iff.mp h
        obtain ⟨y, hy, rfl⟩ := Option.map_eq_some_iff.mp h
        refine p_lrg2 C.calm g2 m2 g1 m1 (O.e _ _ _ hx X C) (O.e _ _ _ hy X C) (star_cons q3) (star_cons q4) (star_none ?_)
        simp [q4]
      · exact ok_Call0 (b := .len) O C h (by simp) g m ns
    · split at h
      · rename_i q
        cases eqS_eq q
        obtain ⟨t, ht, h⟩ := Option.bind_eq_some_iff.mp h
        cases tyOf_eq ht
        split at h
        · rename_i q2
          rw [Bool.and_eq_true] at q2
          obtain ⟨x, hx, rfl⟩ := Option.map_eq_some_iff.mp h
          have hn := ns
          unfold nost at hn
          simp only [List.all_cons, Bool.and_eq_true, Bool.not_eq_true'] at hn
          exact p_isi g m (C.gl q2.1) (C.bi _ q2.2) (by cases t <;> decide +kernel) (by cases t <;> decide +kernel) (by cases t <;> decide +kernel) (O.e _ _ _ hx X C) (star_cons hn.1)
        · cases h
      · exact ok_Call0 (b := .len) O C h (by simp) g m ns
    · rename_i ne _ _ _
      exact ok_Call0 (b := .len) O C h (by assumption) g m ns
theorem ok_Meth (O : OkTr cl T) (C : Ctx G cl X) {m : Me} {o : Expr} {co : CE} {args : List Expr} {cs : CL} {apos cpos : Pos} (hm : m ∈ meAll) (ho : PE X o (tE X.K cl co)) (ha : trL T G args = some cs) (hc : isCall o = false) (hn : nost args = true) (hl : (apos.endLine == cpos.line) = true) (h9 : args.length < 9) :
    PE X (.Call (.Attribute o (meNm m) apos) args [] cpos) (tE X.K cl (.meth m co cs)) := by
  cases args with
  | nil =>
    rw [trL] at ha; cases ha
    cases m with
    | append => exact p_meth0 PySem.F.slot_list_append PySem.F.type_list_append m_append ho (base_ok hc) hl
    | pop => exact p_meth0 PySem.F.slot_list_pop PySem.F.type_list_pop m_pop ho (base_ok hc) hl
    | extend => exact p_meth0 PySem.F.slot_list_extend PySem.F.type_list_extend m_extend ho (base_ok hc) hl
    | _ => exact absurd hm (by decide)
  | cons e es =>
    have hn' := hn
    unfold nost at hn
    simp only [List.all_cons, Bool.and_eq_true, Bool.not_eq_true'] at hn
    have few : ((backTo cpos (starEach (e :: es) X.env)).all (fun x => !x.1) && (backToKw cpos (keywordEach [] X.env)).all (fun x => x.1.isSome)
      && decide ((e :: es).length + ([] : List Keyword).length + (if ([] : List Keyword).isEmpty then 0 else 1) < 30)) = true := by
      rw [star_all (by exact hn')]
      simp [keywordEach, backToKw]
      simp at h9
      omega
    have s1 := star_cons (es := es) (env := X.env) hn.1
    have s2 := star_none (env := X.env) (pos := cpos) (es := es) (by simpa using hn.2)
    cases m with
    | append => exact p_meth PySem.F.slot_list_append PySem.F.type_list_append m_append ho (ok_L O C ha) (base_ok hc) few hl s1 s2
    | pop => exact p_meth PySem.F.slot_list_pop PySem.F.type_list_pop m_pop ho (ok_L O C ha) (base_ok hc) few hl s1 s2
    | extend => exact p_meth PySem.F.slot_list_extend PySem.F.type_list_extend m_extend ho (ok_L O C ha) (base_ok hc) few hl s1 s2
    | _ => exact absurd hm (by decide)
theorem ok_E (O : OkTr cl T) (C : Ctx G cl X) (h : trE T G e = some c) : PE X e (tE X.K cl c) := by
  unfold trE at h
  split at h
  · -- a name
    split at h
    · cases h
    rename_i nd
    simp only [Bool.not_eq_true, Bool.not_eq_false'] at nd
    split at h
    · rename_i v
      obtain ⟨i, hi, rfl⟩ := Option.map_eq_some_iff.mp h
      exact p_var (C.ix hi) (C.vis v) (noDbg_1 nd) (noDbg_2 nd)
    · split at h
      · rename_i g
        obtain ⟨d, hd, rfl⟩ := Option.map_eq_some_iff.mp h
        obtain ⟨u, v, m, rv, rp⟩ := C.cn _ _ hd
        exact p_lit (pe_glob (C.gl g) m rv (noDbg_1 nd)) rp
      · cases h
  · obtain ⟨d, hd, rfl⟩ := Option.map_eq_some_iff.mp h
    exact ok_C hd
  · split at h
    · rename_i ok
      obtain ⟨x, hx, h⟩ := Option.bind_eq_some_iff.mp h
      obtain ⟨y, hy, rfl⟩ := Option.map_eq_some_iff.mp h
      exact p_bin ok (O.e _ _ _ hx X C) (O.e _ _ _ hy X C)
    · cases h
  · obtain ⟨x, hx, rfl⟩ := Option.map_eq_some_iff.mp h
    exact p_neg (O.e _ _ _ hx X C)
  · obtain ⟨x, hx, rfl⟩ := Option.map_eq_some_iff.mp h
    exact p_notv (O.e _ _ _ hx X C)
  · split at h
    · cases h
    rename_i hs
    obtain ⟨x, hx, h⟩ := Option.bind_eq_some_iff.mp h
    obtain ⟨y, hy, rfl⟩ := Option.map_eq_some_iff.mp h
    exact p_cmp C.hu (marks (by simpa using hs)) (O.e _ _ _ hx X C) (O.e _ _ _ hy X C)
  · split at h
    · cases h
    rename_i hs
    obtain ⟨x, hx, h⟩ := Option.bind_eq_some_iff.mp h
    obtain ⟨y, hy, h⟩ := Option.bind_eq_some_iff.mp h
    obtain ⟨z, hz, rfl⟩ := Option.map_eq_some_iff.mp h
    exact p_chain C.hu (marks2 (by simpa using hs)) (O.e _ _ _ hx X C) (O.e _ _ _ hy X C) (O.e _ _ _ hz X C)
  · exact ok_AV O C h
  · obtain ⟨t, ht, h⟩ := Option.bind_eq_some_iff.mp h
    obtain ⟨x, hx, h⟩ := Option.bind_eq_some_iff.mp h
    obtain ⟨y, hy, rfl⟩ := Option.map_eq_some_iff.mp h
    exact p_ife (O.b _ _ _ ht X C) (O.e _ _ _ hx X C) (O.e _ _ _ hy X C)
  · obtain ⟨x, hx, rfl⟩ := Option.map_eq_some_iff.mp h
    exact p_tup (ok_L O C hx)
  · obtain ⟨x, hx, rfl⟩ := Option.map_eq_some_iff.mp h
    exact p_lst (ok_L O C hx)
  · cases h
    exact p_dct0
  · obtain ⟨x, hx, rfl⟩ := Option.map_eq_some_iff.mp h
    exact p_rev (O.e _ _ _ hx X C)
  · obtain ⟨x, hx, h⟩ := Option.bind_eq_some_iff.mp h
    obtain ⟨y, hy, h⟩ := Option.bind_eq_some_iff.mp h
    obtain ⟨z, hz, rfl⟩ := Option.map_eq_some_iff.mp h
    exact p_slice (O.e _ _ _ hx X C) (ok_O O C hy) (ok_O O C hz)
  · split at h
    · cases h
    rename_i hs
    obtain ⟨x, hx, h⟩ := Option.bind_eq_some_iff.mp h
    obtain ⟨y, hy, rfl⟩ := Option.map_eq_some_iff.mp h
    exact p_ix C.hu (slice_plain (by simpa using hs)) (O.e _ _ _ hx X C) (O.e _ _ _ hy X C)
  · exact ok_Call O C h
  · split at h
    · cases h
    rename_i hs
    simp only [Bool.or_eq_true, not_or, Bool.not_eq_true, Bool.not_eq_true', Bool.not_eq_false, decide_eq_false_iff_not, Decidable.not_not] at hs
    obtain ⟨m, hm, h⟩ := Option.bind_eq_some_iff.mp h
    obtain ⟨x, hx, h⟩ := Option.bind_eq_some_iff.mp h
    obtain ⟨y, hy, rfl⟩ := Option.map_eq_some_iff.mp h
    obtain ⟨rfl, hm2⟩ := meOf_eq hm
    exact ok_Meth O C hm2 (O.e _ _ _ hx X C) hy hs.1.1.1 hs.1.1.2 hs.1.2 hs.2
  · exact ok_LC O C h
  · cases h
theorem ok_B (O : OkTr cl T) (C : Ctx G cl X) {c : CB} (h : trB T G e = some c) : PT X e (tB X.K cl c) := by
  unfold trB at h
  split at h
  · obtain ⟨x, hx, rfl⟩ := Option.map_eq_some_iff.mp h
    exact p_notB (O.b _ _ _ hx X C)
  · exact (ok_AB O C h).pt
  · split at h
    · cases h
    rename_i hs
    obtain ⟨x, hx, h⟩ := Option.bind_eq_some_iff.mp h
    obtain ⟨y, hy, rfl⟩ := Option.map_eq_some_iff.mp h
    exact p_cmpB C.hu (marks (by simpa using hs)) (O.e _ _ _ hx X C) (O.e _ _ _ hy X C)
  · split at h
    · cases h
    rename_i hs
    obtain ⟨x, hx, h⟩ := Option.bind_eq_some_iff.mp h
    obtain ⟨y, hy, h⟩ := Option.bind_eq_some_iff.mp h
    obtain ⟨z, hz, rfl⟩ := Option.map_eq_some_iff.mp h
    exact p_chainB C.hu (marks2 (by simpa using hs)) (O.e _ _ _ hx X C) (O.e _ _ _ hy X C) (O.e _ _ _ hz X C)
  · split at h
    · rename_i hp
      obtain ⟨x, hx, rfl⟩ := Option.map_eq_some_iff.mp h
      exact p_truth (O.e _ _ _ hx X C) (plainT hp)
    · cases h
end
end Mi

namespace Mi
open PySem L2
/-! ## the translator: statements -/
def isName : Expr → Bool
  | .Name _ _ => true
  | _ => false
def isTup : Expr → Bool
  | .Tuple _ _ _ => true
  | _ => false
theorem sw_other {ts : List Expr} {k : Nat} {pt : Pos} {e : Expr} {env : Env} (h : isTup e = false) : swappedStores [.Tuple ts k pt] e env = pure none := by
  cases e <;> first | rfl | cases h
theorem fm_short {α β : Type} {f : α → Option β} : ∀ {l : List α}, (∃ t ∈ l, f t = none) → (l.filterMap f).length < l.length
  | [], h => by obtain ⟨_, h, _⟩ := h; cases h
  | x :: r, h => by
    rw [List.filterMap_cons]
    cases e : f x with
    | none => exact Nat.lt_succ_of_le (List.length_filterMap_le _ _)
    | some y =>
      obtain ⟨t, ht, q⟩ := h
      rcases List.mem_cons.mp ht with ht | ht
      · rw [← ht, q] at e; cases e
      · exact Nat.succ_lt_succ (fm_short ⟨t, ht, q⟩)
theorem sw_non {ts vs : List Expr} {k k2 : Nat} {pt pt2 : Pos} {env : Env} (h : (ts.any (fun t => !isName t) || vs.all (foldedForSure 8)) = true) : swappedStores [.Tuple ts k pt] (.Tuple vs k2 pt2) env = pure none := by
  show (if (!(ts.length == 2 || ts.length == 3) || vs.length != ts.length || env.blockKind != .function) = true then pure none else _ : Sem (Option (List Str))) = pure none
  split
  · rfl
  split
  · rfl
  dsimp only
  split
  · rfl
  rename_i hn
  rw [Bool.or_eq_true] at h
  rcases h with h | h
  · exfalso
    apply hn
    obtain ⟨t, ht, hq⟩ := List.any_eq_true.mp h
    rw [Bool.or_eq_true]
    left
    rw [bne_iff_ne]
    refine Nat.ne_of_lt (fm_short ⟨t, ht, ?_⟩)
    cases t <;> first | rfl | cases hq
  · rw [if_pos h]
def parOk (G : Sg) (vs : List Expr) : Bool := nost vs && !vs.all (foldedForSure 8) && !vs.all (constantsAlone 8)
theorem sw_two {a b : Expr} {x y : Str} {px py pt pt2 : Pos} {k k2 : Nat} {env : Env} (hk : env.blockKind = .function) (hx : env.scope.names.lookup x = some .local) (hy : env.scope.names.lookup y = some .local) (hxy : x ≠ y) (hl : (py.line == px.line) = true)
    (h : parOk G [a, b] = true) : swappedStores [.Tuple [.Name x px, .Name y py] k pt] (.Tuple [a, b] k2 pt2) env = pure (some [x, y]) := by
  unfold parOk at h
  simp only [Bool.and_eq_true, Bool.not_eq_true'] at h
  obtain ⟨⟨h1, h2⟩, h3⟩ := h
  have hst : ([a, b].any fun | .Starred .. => true | _ => false) = false := by
    unfold nost at h1
    simp only [List.all_cons, List.all_nil, Bool.and_true, Bool.and_eq_true, Bool.not_eq_true'] at h1
    simp only [List.any_cons, List.any_nil, Bool.or_false, Bool.or_eq_false_iff]
    constructor
    · cases a <;> first | rfl | (exact absurd h1.1 (by simp [isStar]))
    · cases b <;> first | rfl | (exact absurd h1.2 (by simp [isStar]))
  have hy' : (y == x) = false := by simpa using (Ne.symm hxy)
  have hnm : ([Expr.Name x px, .Name y py].filterMap fun
    | .Name id pos => if env.kindOf id == some .local && pos.line == px.line then some id else none
    | _ => none) = [x, y] := by
    have e1 : env.kindOf x = some .local := hx
    have e2 : env.kindOf y = some .local := hy
    have hl' : py.line = px.line := by simpa using hl
    simp [List.filterMap_cons, e1, e2, hl']
  have key : (([Expr.Name x px, .Name y py].filterMap fun
    | .Name id pos => if env.kindOf id == some .local && pos.line == px.line then some id else none
    | _ => none).length != 2 || ([Expr.Name x px, .Name y py].filterMap fun
    | .Name id pos => if env.kindOf id == some .local && pos.line == px.line then some id else none
    | _ => none).eraseDups.length != ([Expr.Name x px, .Name y py].filterMap fun
    | .Name id pos => if env.kindOf id == some .local && pos.line == px.line then some id else none
    | _ => none).length) = false := by
    rw [hnm]
    simp [List.eraseDups_cons, hy']
  have hb : (!((2 : Nat) == 2 || (2 : Nat) == 3) || (2 : Nat) != 2 || env.blockKind != .function) = false := by rw [hk]; rfl
  show (if (!((2 : Nat) == 2 || (2 : Nat) == 3) || (2 : Nat) != 2 || env.blockKind != .function) = true then pure none else
    if ([a, b].any fun | .Starred .. => true | _ => false) = true then pure none else
    if (([Expr.Name x px, .Name y py].filterMap fun
      | .Name id pos => if env.kindOf id == some .local && pos.line == px.line then some id else none
      | _ => none).length != 2 || ([Expr.Name x px, .Name y py].filterMap fun
      | .Name id pos => if env.kindOf id == some .local && pos.line == px.line then some id else none
      | _ => none).eraseDups.length != ([Expr.Name x px, .Name y py].filterMap fun
      | .Name id pos => if env.kindOf id == some .local && pos.line == px.line then some id else none
      | _ => none).length) = true then pure none else
    if [a, b].all (foldedForSure 8) = true then pure none else
    if [a, b].all (constantsAlone 8) = true then (do unsupported "assign.tuple-of-constant-expressions:order-of-the-stores"; pure (some _)) else pure (some ([Expr.Name x px, .Name y py].filterMap fun
      | .Name id pos => if env.kindOf id == some .local && pos.line == px.line then some id else none
      | _ => none)) : Sem (Option (List Str))) = pure (some [x, y])
  rw [hb, if_neg Bool.false_ne_true, hst, if_neg Bool.false_ne_true, key, if_neg Bool.false_ne_true, h2, if_neg Bool.false_ne_true, h3, if_neg Bool.false_ne_true, hnm]
end Mi

namespace Mi
open PySem L2
def trAT (T : Tr) (G : Sg) : Expr → Option AT
  | .Name x _ => if G.loc x then (G.ix x).map .nm else none
  | .Subscript o i _ => if isSlice i then none else (T.e G o).bind fun a => (T.e G i).map fun b => .sub a b
  | _ => none
def trATs (T : Tr) (G : Sg) : List Expr → Option (List AT)
  | [] => some []
  | t :: r => (trAT T G t).bind fun a => (trATs T G r).map fun as => a :: as
def trSs (T : Tr) (G : Sg) : List Stmt → Option CSs
  | [] => some .nil
  | s :: r => (T.s G s).bind fun x => (trSs T G r).map fun y => .cons x y
/-- the value of the assignment swaps with its one name -/
def swB (G : Sg) (scope : Scope) (y : Str) (py lp : Pos) : Bool := G.isLoc y && py.line == lp.line && !(scope.names.any fun (n, k) => n == y && (k == .local || k == .cell))
def trS (T : Tr) (G : Sg) (st : Stmt) : Option CS := match st with
  | .Expr (.Constant (.str _) _ _) _ => some .pass
  | .Expr e _ => if isComp e then none else (T.e G e).map .ex
  | .Return (some e) _ => (T.e G e).map .ret
  | .Return none _ => some .retn
  | .Pass _ => some .pass
  | .Break _ => some .brk
  | .Continue _ => some .cont
  | .If c a b _ => (T.b G c).bind fun t => (trSs T G a).bind fun x => (trSs T G b).map fun y => .ifs t x y
  | .While c b [] _ => (T.b G c).bind fun t => (trSs T G b).map fun x => .while_ t x
  | .For tg it b [] _ => if isSet it then none else (trNT G tg).bind fun t => (trI T G tg it).bind fun i => (trSs T G b).map fun x => .for_ t i x
  | .AugAssign (.Name x _) op e _ => if augOk op && G.loc x then (G.ix x).bind fun i => (T.e G e).map fun y => .aug i op y else none
  | .Assign [.Name y py] (.ListComp elt gs scope lp) _ =>
    if swB G scope y py lp then (G.ix y).bind fun i => (trLC T G elt gs scope).map fun c => .asg (.nm i) c
    else if !(py.line == lp.line) && G.loc y then (G.ix y).bind fun i => (trLC T G elt gs scope).map fun c => .asg (.nm i) c
    else none
  | .Assign [.Name y _] e _ => if isComp e || !G.loc y then none else (G.ix y).bind fun i => (T.e G e).map fun c => .asg (.nm i) c
  | .Assign [.Subscript o i p] e _ => (trAT T G (.Subscript o i p)).bind fun a => (T.e G e).map fun c => .asg a c
  | .Assign [.Tuple [.Name x px, .Name y py] _ _] (.Tuple [a, b] k p) _ =>
    if parOk G [a, b] then
      if G.isLoc x && G.isLoc y && py.line == px.line then (G.ix x).bind fun i => (G.ix y).bind fun j => if Nat.beq i j then none else (trL T G [a, b]).map fun c => .par [i, j] c else none
    else if !([a, b].all (foldedForSure 8)) then none
    else (trATs T G [.Name x px, .Name y py]).bind fun as => (T.e G (.Tuple [a, b] k p)).map fun c => .asgT as c
  | .Assign [.Tuple ts _ _] (.Tuple vs k p) _ => if !(ts.any (fun t => !isName t) || vs.all (foldedForSure 8)) || !nost ts then none else (trATs T G ts).bind fun as => (T.e G (.Tuple vs k p)).map fun c => .asgT as c
  | .Assign [.Tuple ts _ _] e _ => if isTup e || isComp e || !nost ts then none else (trATs T G ts).bind fun as => (T.e G e).map fun c => .asgT as c
  | _ => none
section
variable {cl : Cl} {T : Tr} {G : Sg} {X : Cx} {e : Expr} {pos : Pos}
theorem sub_asg {o i : Expr} {env : Env} (h : isSlice i = false) (v : Value) : assign (.Subscript o i pos) env v = (do
      let ov ← holding [v] (eval o env)
      let iv ← holding [v, ov] (eval i env)
      standAt pos
      holding [v, ov, iv] (setItem ov iv v)
      release [v, ov, iv] []) := by
  cases i <;> first | rfl | cases h
theorem ok_AT (O : OkTr cl T) (C : Ctx G cl X) {t : AT} (h : trAT T G e = some t) : PG X e (tA X.K cl t) ∧ isStar e = false := by
  unfold trAT at h
  split at h
  · split at h
    · rename_i l
      obtain ⟨i, hi, rfl⟩ := Option.map_eq_some_iff.mp h
      obtain ⟨l1, l2⟩ := C.loc l
      exact ⟨g_nm C.nd (C.ix hi) l1 l2, rfl⟩
    · cases h
  · split at h
    · cases h
    · rename_i hs
      obtain ⟨a, ha, h⟩ := Option.bind_eq_some_iff.mp h
      obtain ⟨b, hb, rfl⟩ := Option.map_eq_some_iff.mp h
      exact ⟨g_sub C.hu (O.e _ _ _ ha X C) (O.e _ _ _ hb X C) (sub_asg (by simpa using hs)), rfl⟩
  · cases h
theorem ok_ATs (O : OkTr cl T) (C : Ctx G cl X) : ∀ {es : List Expr} {ts : List AT}, trATs T G es = some ts → PGs X es (tAs X.K cl ts) ∧ nost es = true ∧ es.length = ts.length
  | [], _, h => by cases h; exact ⟨gs_nil, rfl, rfl⟩
  | t :: r, _, h => by
    rw [trATs] at h
    obtain ⟨a, ha, h⟩ := Option.bind_eq_some_iff.mp h
    obtain ⟨as, hs, rfl⟩ := Option.map_eq_some_iff.mp h
    obtain ⟨g, s⟩ := ok_AT O C ha
    obtain ⟨gs, ns, l⟩ := ok_ATs O C hs
    refine ⟨gs_cons g gs (by rw [asg_cons s]; rfl), ?_, by rw [List.length_cons, List.length_cons, l]⟩
    unfold nost at ns ⊢
    rw [List.all_cons, ns, s]; rfl
theorem ok_Ss (O : OkTr cl T) (C : Ctx G cl X) : ∀ {ss : List Stmt} {cs : CSs}, trSs T G ss = some cs → PSs X ss (tSs X.K cl cs)
  | [], _, h => by cases h; exact s_nil
  | s :: r, _, h => by
    rw [trSs] at h
    obtain ⟨a, ha, h⟩ := Option.bind_eq_some_iff.mp h
    obtain ⟨as, hs, rfl⟩ := Option.map_eq_some_iff.mp h
    exact s_cons (O.s _ _ _ ha X C) (ok_Ss O C hs)
theorem ok_LCs (O : OkTr cl T) (C : Ctx G cl X) {gs : List Comprehension} {scope : Scope} {c : CE} {y : Str} {py lp : Pos} {k : Nat} (hk : X.N[k]? = some y) (sw : swB G scope y py lp = true) (h : trLC T G e gs scope = some c) :
    PS X (.Assign [.Name y py] (.ListComp e gs scope lp) pos) (tS X.K cl (.asg (.nm k) c)) := by
  unfold swB at sw
  simp only [Bool.and_eq_true, Bool.not_eq_true'] at sw
  obtain ⟨⟨sw1, sw2⟩, sw3⟩ := sw
  have hy := C.isLoc sw1
  have hsw : ∀ gs, swapsWith (.ListComp e gs scope lp) (some (.Name y py)) pos.line X.env = pure true := fun gs => sw_true C.kind hy sw2 sw3
  unfold trLC at h
  split at h
  · dsimp only at h
    split at h
    · cases h
    · rename_i hs
      simp only [Bool.or_eq_true, not_or, Bool.not_eq_true, Bool.not_eq_true', Bool.not_eq_false] at hs
      obtain ⟨t, ht, h⟩ := Option.bind_eq_some_iff.mp h
      split at h
      · rename_i sl
        obtain ⟨ci, hi, h⟩ := Option.bind_eq_some_iff.mp h
        obtain ⟨ct, hc, h⟩ := Option.bind_eq_some_iff.mp h
        obtain ⟨ce, he, rfl⟩ := Option.map_eq_some_iff.mp h
        have ok := blkOk_by hs.2
        rw [← C.N, ← C.sc] at ok
        exact s_setLc hk hy (hsw _) C.calm C.nd (ok_I O C hi) ok (fun _ _ _ _ _ => ok_NT (cl := cl) (C.blk ok.kind) ht) (fun _ _ _ _ _ => ok_Ts O (C.blk ok.kind) hc) (fun _ _ _ _ _ => O.e _ _ _ he _ (C.blk ok.kind)) hs.1 (subN_eq sl)
      · cases h
  · dsimp only at h
    split at h
    · cases h
    · rename_i hs
      simp only [Bool.or_eq_true, not_or, Bool.not_eq_true, Bool.not_eq_true', Bool.not_eq_false] at hs
      obtain ⟨t, ht, h⟩ := Option.bind_eq_some_iff.mp h
      obtain ⟨t1, ht1, h⟩ := Option.bind_eq_some_iff.mp h
      split at h
      · rename_i sl
        rw [Bool.and_eq_true] at sl
        obtain ⟨ci, hi, h⟩ := Option.bind_eq_some_iff.mp h
        obtain ⟨ct, hc, h⟩ := Option.bind_eq_some_iff.mp h
        obtain ⟨ci1, hi1, h⟩ := Option.bind_eq_some_iff.mp h
        obtain ⟨ct1, hc1, h⟩ := Option.bind_eq_some_iff.mp h
        obtain ⟨ce, he, rfl⟩ := Option.map_eq_some_iff.mp h
        have ok := blkOk_by hs.2
        rw [← C.N, ← C.sc] at ok
        exact s_setLc2 hk hy (hsw _) C.calm C.nd (ok_I O C hi) ok (fun _ _ _ _ _ => ok_NT (cl := cl) (C.blk ok.kind) ht) (fun _ _ _ _ _ => ok_Ts O (C.blk ok.kind) hc) (fun _ _ _ _ _ => ok_I O (C.blk ok.kind) hi1)
          (fun _ _ _ _ _ => ok_NT (cl := cl) (C.blk ok.kind) ht1) (fun _ _ _ _ _ => ok_Ts O (C.blk ok.kind) hc1) (fun _ _ _ _ _ => O.e _ _ _ he _ (C.blk ok.kind)) hs.1.1 hs.1.2 (subN_eq sl.1) (fun _ h => h) (subN_eq sl.2)
      · cases h
  · cases h
theorem sw_line {gs : List Comprehension} {scope : Scope} {y : Str} {py lp : Pos} {l : Nat} {env : Env} (h : (py.line == lp.line) = false) : swapsWith (.ListComp e gs scope lp) (some (.Name y py)) l env = pure false := by
  unfold swapsWith
  simp only [Expr.pos, h, Bool.and_false, Bool.false_and]
theorem sole {t e : Expr} {l : Nat} {env : Env} : swapsWithSole [t] e l env = swapsWith e (some t) l env := by
  rw [swapsWithSole]
theorem sole_sub {o i e : Expr} {p : Pos} {l : Nat} {env : Env} : swapsWithSole [.Subscript o i p] e l env = pure false := by
  rw [sole]
  cases e <;> rfl
theorem blockKind_ok (C : Ctx G cl X) : X.env.blockKind = .function := by
  unfold Env.blockKind
  rw [C.kind]; rfl
theorem ok_S (O : OkTr cl T) (C : Ctx G cl X) {st : Stmt} {c : CS} (h : trS T G st = some c) : PS X st (tS X.K cl c) := by
  unfold trS at h
  split at h
  · cases h; exact s_doc
  · split at h
    · cases h
    rename_i hs
    obtain ⟨x, hx, rfl⟩ := Option.map_eq_some_iff.mp h
    exact s_ex (O.e _ _ _ hx X C) (swaps (by simpa using hs))
  · obtain ⟨x, hx, rfl⟩ := Option.map_eq_some_iff.mp h
    exact s_ret (O.e _ _ _ hx X C)
  · cases h; exact s_retn
  · cases h; exact s_pass
  · cases h; exact s_brk
  · cases h; exact s_cont
  · obtain ⟨t, ht, h⟩ := Option.bind_eq_some_iff.mp h
    obtain ⟨x, hx, h⟩ := Option.bind_eq_some_iff.mp h
    obtain ⟨y, hy, rfl⟩ := Option.map_eq_some_iff.mp h
    exact s_if (O.b _ _ _ ht X C) (ok_Ss O C hx) (ok_Ss O C hy)
  · obtain ⟨t, ht, h⟩ := Option.bind_eq_some_iff.mp h
    obtain ⟨x, hx, rfl⟩ := Option.map_eq_some_iff.mp h
    exact s_while C.po (O.b _ _ _ ht X C) (ok_Ss O C hx)
  · split at h
    · cases h
    rename_i hs
    obtain ⟨t, ht, h⟩ := Option.bind_eq_some_iff.mp h
    obtain ⟨i, hi, h⟩ := Option.bind_eq_some_iff.mp h
    obtain ⟨x, hx, rfl⟩ := Option.map_eq_some_iff.mp h
    exact s_for C.po C.calm (ok_I O C hi) (ok_NT C ht) (ok_Ss O C hx) fun x => folded (by simpa using hs)
  · split at h
    · rename_i l
      rw [Bool.and_eq_true] at l
      obtain ⟨i, hi, h⟩ := Option.bind_eq_some_iff.mp h
      obtain ⟨x, hx, rfl⟩ := Option.map_eq_some_iff.mp h
      obtain ⟨l1, l2⟩ := C.loc l.2
      exact s_aug l.1 C.nd (C.ix hi) l1 (O.e _ _ _ hx X C) l2
    · cases h
  · split at h
    · rename_i sw
      obtain ⟨i, hi, h⟩ := Option.bind_eq_some_iff.mp h
      obtain ⟨x, hx, rfl⟩ := Option.map_eq_some_iff.mp h
      exact ok_LCs O C (C.ix hi) sw hx
    · split at h
      · rename_i l
        rw [Bool.and_eq_true, Bool.not_eq_true'] at l
        obtain ⟨i, hi, h⟩ := Option.bind_eq_some_iff.mp h
        obtain ⟨x, hx, rfl⟩ := Option.map_eq_some_iff.mp h
        obtain ⟨l1, l2⟩ := C.loc l.2
        exact s_set C.nd (C.ix hi) l1 (ok_LC O C hx) (sw_line l.1) l2
      · cases h
  · split at h
    · cases h
    rename_i hs
    simp only [Bool.or_eq_true, not_or, Bool.not_eq_true, Bool.not_eq_true', Bool.not_eq_false] at hs
    obtain ⟨i, hi, h⟩ := Option.bind_eq_some_iff.mp h
    obtain ⟨x, hx, rfl⟩ := Option.map_eq_some_iff.mp h
    obtain ⟨l1, l2⟩ := C.loc hs.2
    exact s_set C.nd (C.ix hi) l1 (O.e _ _ _ hx X C) (swaps hs.1) l2
  · obtain ⟨a, ha, h⟩ := Option.bind_eq_some_iff.mp h
    obtain ⟨x, hx, rfl⟩ := Option.map_eq_some_iff.mp h
    exact s_asg (O.e _ _ _ hx X C) (ok_AT O C ha).1 sole_sub rfl rfl
  · split at h
    · rename_i pk
      split at h
      · rename_i l
        simp only [Bool.and_eq_true] at l
        obtain ⟨i, hi, h⟩ := Option.bind_eq_some_iff.mp h
        obtain ⟨j, hj, h⟩ := Option.bind_eq_some_iff.mp h
        split at h
        · cases h
        rename_i nij
        have nij : i ≠ j := fun z => nij (by rw [z]; exact Nat.beq_refl _)
        obtain ⟨x, hx, rfl⟩ := Option.map_eq_some_iff.mp h
        have e1 := C.ix hi
        have e2 := C.ix hj
        refine s_par C.calm C.nd e1 e2 nij (C.isLoc l.1.1) (C.isLoc l.1.2) (ok_L O C hx) (sw_two (blockKind_ok C) (C.isLoc l.1.1) (C.isLoc l.1.2) (fun z => ?_) l.2 pk) (sole.trans (swaps rfl))
        subst z
        rw [hi] at hj; cases hj
        exact nij rfl
      · cases h
    · split at h
      · cases h
      rename_i hf
      obtain ⟨as, has, h⟩ := Option.bind_eq_some_iff.mp h
      obtain ⟨x, hx, rfl⟩ := Option.map_eq_some_iff.mp h
      obtain ⟨g, ns, hl⟩ := ok_ATs O C has
      have al := asg_len (env := X.env) ns
      exact s_asgT C.calm (O.e _ _ _ hx X C) g (by rw [al.1, hl]) al.2 (sole.trans (swaps rfl)) (sw_non (by rw [Bool.or_eq_true]; right; simpa using hf)) rfl
  · split at h
    · cases h
    rename_i hs
    simp only [Bool.or_eq_true, not_or, Bool.not_eq_true, Bool.not_eq_true', Bool.not_eq_false] at hs
    obtain ⟨as, has, h⟩ := Option.bind_eq_some_iff.mp h
    obtain ⟨x, hx, rfl⟩ := Option.map_eq_some_iff.mp h
    obtain ⟨g, ns, hl⟩ := ok_ATs O C has
    have al := asg_len (env := X.env) ns
    exact s_asgT C.calm (O.e _ _ _ hx X C) g (by rw [al.1, hl]) al.2 (sole.trans (swaps rfl)) (sw_non (by rw [Bool.or_eq_true]; exact hs.1)) rfl
  · split at h
    · cases h
    rename_i hs
    simp only [Bool.or_eq_true, not_or, Bool.not_eq_true, Bool.not_eq_true', Bool.not_eq_false] at hs
    obtain ⟨as, has, h⟩ := Option.bind_eq_some_iff.mp h
    obtain ⟨x, hx, rfl⟩ := Option.map_eq_some_iff.mp h
    obtain ⟨g, ns, hl⟩ := ok_ATs O C has
    have al := asg_len (env := X.env) ns
    exact s_asgT C.calm (O.e _ _ _ hx X C) g (by rw [al.1, hl]) al.2 (sole.trans (swaps hs.1.2)) (sw_other hs.1.1) rfl
  · cases h
end
/-! ## the fixpoint -/
def Tr.no : Tr := ⟨fun _ _ => none, fun _ _ => none, fun _ _ => none⟩
def Tr.step (T : Tr) : Tr := ⟨trE T, trB T, trS T⟩
def tr : Nat → Tr
  | 0 => .no
  | n + 1 => (tr n).step
theorem tr_ok {cl : Cl} : ∀ n, OkTr cl (tr n)
  | 0 => ⟨fun _ _ _ h => (by cases h), fun _ _ _ h => (by cases h), fun _ _ _ h => (by cases h)⟩
  | n + 1 => ⟨fun _ _ _ h _ C => ok_E (tr_ok n) C h, fun _ _ _ h _ C => ok_B (tr_ok n) C h, fun _ _ _ h _ C => ok_S (tr_ok n) C h⟩
end Mi

namespace Mi
open PySem L2
/-! ## defs -/
theorem lkS_mem {α : Type} {x : Str} {v : α} : ∀ {l : List (Str × α)}, lkS l x = some v → (x, v) ∈ l
  | [], h => by cases h
  | (y, w) :: r, h => by
    rw [lkS] at h
    by_cases c : eqS x y = true
    · rw [if_pos c] at h; cases h
      rw [eqS_eq c]; exact List.mem_cons_self
    · rw [if_neg c] at h
      exact List.mem_cons_of_mem _ (lkS_mem h)
/-- the table, the names that are not the module's, the module's constants -/
structure Md where
  tab : List (Str × Df)
  bi : List Str
  cn : List (Str × D)
def Md.sg (M : Md) (N : List Str) (sc : Scope) : Sg := ⟨N, sc, fun _ => true, fun f => (lkS M.tab f).map (·.np), fun x => M.bi.any fun y => eqS x y, lkS M.cn⟩
abbrev Md.T (M : Md) : Tb := lkS M.tab
structure MdOk (M : Md) (K : PySem.W.Frag) (mg : Str → Option Value) : Prop where
  bi : ∀ x ∈ M.bi, mg x = none
  cn : ∀ p ∈ M.cn, ∃ u v, mg p.1 = some u ∧ RelV v u ∧ ∀ ι H, Rp K ι H p.2 v
/-- a def as it stands in the text, and its translation -/
structure DefI (M : Md) (K : PySem.W.Frag) (mg : Str → Option Value) (f : Str) (d : Df) (fa : Addr) (fd : FuncData) (ps : List Str) : Prop where
  mg : mg f = some (.ref fa)
  bd : Binds K fd ps []
  kp : PySem.W.keepIn K (.ref fa) = true
  np : ps.length = d.np
  run : ∃ st N m, Fun K f f st fa fd ∧ FnScope N ps (defScope st) ∧ N.length = d.n ∧ trSs (tr m) (M.sg N (defScope st)) (defBody st) = some d.body
def AllI (M : Md) (K : PySem.W.Frag) (mg : Str → Option Value) : Prop := ∀ p ∈ M.tab, ∃ fa fd ps, DefI M K mg p.1 p.2 fa fd ps
section
variable {P : Program} {w : World} {K : PySem.W.Frag} {mg : Str → Option Value} {base : Heap} {M : Md}
theorem any_eqS {x : Str} {l : List Str} (h : (l.any fun y => eqS x y) = true) : x ∈ l := by
  obtain ⟨y, hy, e⟩ := List.any_eq_true.mp h
  rw [eqS_eq e]; exact hy
theorem callD_ar {T : Tb} {f : Str} {d : Df} (ht : T f = some d) : ∀ (k : Nat) (args : List D) (h : HS), args.length ≠ d.np → callD T k f args h = .bad
  | 0, _, _, _ => rfl
  | k + 1, args, h, ne => by
    unfold callD
    rw [ht]
    simp only [if_neg ne]
theorem callD_none {T : Tb} {f : Str} (ht : T f = none) : ∀ (k : Nat) (args : List D) (h : HS), callD T k f args h = .bad
  | 0, _, _ => rfl
  | k + 1, args, h => by
    unfold callD
    rw [ht]
/-- the entry's slots -/
theorem start_rel {ι : List Addr} {h : HS} {H : Hp} {args : List D} {vs : List V} {N : List Str} (r : RelH K ι h H) (ra : RpL K ι H args vs) (hl : args.length ≤ N.length) : RelE K ι (startE N.length args) h (L2.start N vs) H := by
  refine ⟨r, ?_, fun i d e => ?_⟩
  · unfold startE L2.start
    simp [ra.length]
  · unfold startE at e
    by_cases hi : i < args.length
    · rw [List.getElem?_append_left (by simpa using hi), List.getElem?_map] at e
      cases ea : args[i]? with
      | none => rw [ea] at e; cases e
      | some x =>
        rw [ea] at e; cases e
        obtain ⟨v, ev, rv⟩ := ra.get ea
        refine ⟨v, ?_, rv⟩
        unfold L2.start
        rw [List.getElem?_append_left (by rw [List.length_map, ← ra.length]; exact hi), List.getElem?_map, ev]
        rfl
    · rw [List.getElem?_append_right (by simpa using hi), List.getElem?_replicate] at e
      split at e <;> cases e
theorem def_ok (O : MdOk M K mg) (A : AllI M K mg) : ∀ (k : Nat) (f : Str) (d : Df) (fa : Addr) (fd : FuncData) (ps : List Str), M.T f = some d → DefI M K mg f d fa fd ps → FnOk P w K mg base CX0 k fa fd ps (spD K (callD M.T k) f d.np)
  | 0, f, d, fa, fd, ps, ht, I => by
    refine ⟨fun vs H Q E h => ?_, fun A outer s H args us vs Q E hr he hb hv h => ?_⟩
    · obtain ⟨ι, hh, args, _, _, _, q⟩ := h
      exact q.elim
    · obtain ⟨ι, hh, args, _, _, _, q⟩ := h
      exact q.elim
  | k + 1, f, d, fa, fd, ps, ht, I => by
    obtain ⟨st, N, m, F, S, hN, ht2⟩ := I.run
    refine F.ok S (fun vs H Q E h => ?_) (fun cdv A' outer s H vs Q E hr h => ?_)
    · obtain ⟨ι, hh, args, _, ra, hl, q⟩ := h
      rw [← ra.length, hl, I.np]
    · obtain ⟨ι, hh, args, rh, ra, hl, q⟩ := h
      have C : Ctx (M.sg N (defScope st)) (callD M.T k) (cxOf CX0 P w K mg base N f (defScope st) fa cdv A' outer s H E).nox := {
        N := rfl
        sc := rfl
        fn := fun _ _ => rfl
        nd := S.nd
        kind := S.kind
        calm := rfl
        hu := by have := hr.un; show (A'.deeper _).units + 64 < cLine; omega
        po := PassesOwn.never
        bi := fun x hx => O.bi x (any_eqS hx)
        df := fun g np hg => by
          obtain ⟨d2, e2, rfl⟩ := Option.map_eq_some_iff.mp hg
          obtain ⟨fa2, fd2, ps2, I2⟩ := A _ (lkS_mem e2)
          exact ⟨fa2, fd2, ps2, k, def_ok O A k g d2 fa2 fd2 ps2 e2 I2, hr, I2.mg, I2.kp, I2.bd, fun args h ne => callD_ar (T := M.T) e2 k args h ne⟩
        cn := fun x d hx => O.cn _ (lkS_mem hx) }
      refine ⟨_, ok_Ss (tr_ok m) C ht2, ?_⟩
      have hps : ps.length ≤ N.length := by have := congrArg List.length S.pre; rw [List.length_take] at this; omega
      have re := start_rel (N := N) rh ra (by rw [hl, ← I.np]; exact hps)
      refine ⟨ι, _, hh, re, ?_⟩
      have q : PostE K ι H (callD M.T (k + 1) f args hh) Q := q
      unfold callD at q
      rw [ht] at q
      simp only [if_pos hl] at q
      rw [hN]
      cases eb : execB (callD M.T k) d.body (startE d.n args) hh with
      | next δ1 h1 =>
        rw [eb] at q
        intro ι1 σ H1 e1 r1
        have q : PostE K ι H (trim hh.length .non h1) Q := q
        exact (PostE.tr (r := .ok .non h1) q rh.len) ι1 .non H1 e1 r1.rel .non
      | ret v h1 =>
        rw [eb] at q
        have q : PostE K ι H (trim hh.length v h1) Q := q
        exact fun ι1 u H1 e1 r1 ru => (PostE.tr (r := .ok v h1) q rh.len) ι1 u H1 e1 r1 ru
      | brk δ1 h1 => rw [eb] at q; exact q.elim
      | cont δ1 h1 => rw [eb] at q; exact q.elim
      | exc _ _ _ => rw [eb] at q; exact q.elim
      | bad => rw [eb] at q; exact q.elim
/-- the law's promise -/
def spL (M : Md) (k : Nat) (f : Str) (K : PySem.W.Frag) : Sp := spD K (callD M.T k) f 1
theorem law_sp {k n : Nat} {f : Str} (L : ∀ ns : List Int, ns.length ≤ n → ∃ h, callD M.T k f [.fz ns] [] = .ok (.bl true) h) {K : PySem.W.Frag} {H : Hp} {a : Addr} {ns : List Int} (hl : ns.length ≤ n) (O : Only H) (S : SqL K H a (ns.map V.int)) :
    spL M k f K [.ref a] H (fun v _ => v = .bl true) fun _ _ _ => False := by
  obtain ⟨h, e⟩ := L ns hl
  refine ⟨[], [], [.fz ns], ⟨rfl, List.nodup_nil, fun n c a e => by simp at e⟩, .cons (.fz ?_) .nil, rfl, ?_⟩
  · rcases S with (S | ⟨o, S⟩) | S
    · rcases O a with z | ⟨o, xs, z⟩
      · rw [z] at S; cases S
      · rw [z] at S; cases S
    · exact .inl ⟨o, S⟩
    · exact .inr S
  · rw [e]
    intro ι1 v H1 _ _ rp
    cases rp; rfl
end
end Mi

namespace Mi
open PySem
/-! ## the plain side: how the small language runs -/
abbrev dN (x : Nat) : D := .int (x : Int)
def P (p : List Nat) : D := .tup (p.map dN)
def WF (h : HS) : Prop := h.all (Cell.lo h.length) = true
theorem WF.nil : WF [] := rfl
mutual
theorem D.lo_mono {m n : Nat} (hmn : m ≤ n) : ∀ {d : D}, d.lo m = true → d.lo n = true
  | .non, _ => rfl
  | .bl _, _ => rfl
  | .int _, _ => rfl
  | .str _, _ => rfl
  | .fz _, _ => rfl
  | .ref k, h => by simp only [D.lo, decide_eq_true_eq] at h ⊢; omega
  | .tup xs, h => by simp only [D.lo] at h ⊢; exact D.los_mono hmn h
  | .kt xs, h => by simp only [D.lo] at h ⊢; exact D.los_mono hmn h
theorem D.los_mono {m n : Nat} (hmn : m ≤ n) : ∀ {xs : List D}, D.los m xs = true → D.los n xs = true
  | [], _ => rfl
  | x :: r, h => by
    simp only [D.los, Bool.and_eq_true] at h ⊢
    exact ⟨D.lo_mono hmn h.1, D.los_mono hmn h.2⟩
end
theorem Cell.lo_mono {m n : Nat} (hmn : m ≤ n) {c : Cell} (h : c.lo m = true) : c.lo n = true := by
  cases c with
  | lst xs => exact D.los_mono hmn h
  | dct kvs =>
    simp only [Cell.lo, List.all_eq_true, Bool.and_eq_true] at h ⊢
    exact fun kv hk => ⟨D.lo_mono hmn (h kv hk).1, D.lo_mono hmn (h kv hk).2⟩
  | ins c fs =>
    simp only [Cell.lo, List.all_eq_true] at h ⊢
    exact fun kv hk => D.lo_mono hmn (h kv hk)
theorem WF.app {h : HS} {c : Cell} (hw : WF h) (hc : c.lo (h.length + 1) = true) : WF (h ++ [c]) := by
  unfold WF at *
  rw [List.all_append, List.length_append]
  simp only [List.length_cons, List.length_nil, List.all_cons, List.all_nil, Bool.and_true, Bool.and_eq_true]
  refine ⟨?_, hc⟩
  rw [List.all_eq_true] at hw ⊢
  exact fun x hx => Cell.lo_mono (Nat.le_succ _) (hw x hx)
theorem WF.set {h : HS} {c : Cell} {n : Nat} (hw : WF h) (hc : c.lo h.length = true) : WF (h.set n c) := by
  unfold WF at *
  rw [List.all_eq_true] at hw ⊢
  rw [List.length_set]
  intro x hx
  rcases List.mem_or_eq_of_mem_set hx with hx | hx
  · exact hw x hx
  · rw [hx]; exact hc
@[simp] theorem trim_self (v : D) (h : HS) : trim h.length v h = .ok v h := by
  unfold trim; rw [if_pos (Nat.le_refl _)]
theorem trim_le {n : Nat} {v : D} {h : HS} (hn : h.length ≤ n) : trim n v h = .ok v h := by
  unfold trim; rw [if_pos hn]
def isRef : D → Bool
  | .ref _ => true
  | _ => false
/-- new cells fall away -/
theorem trim_app {h ext : HS} {v : D} (hw : WF h) (hv : v.lo h.length = true) (hr : isRef v = false) : trim h.length v (h ++ ext) = .ok v h := by
  unfold trim
  by_cases c : (h ++ ext).length ≤ h.length
  · rw [if_pos c]
    have : ext = [] := by
      rw [List.length_append] at c
      exact List.length_eq_zero_iff.mp (by omega)
    rw [this, List.append_nil]
  · have hw : (h.all (Cell.lo h.length)) = true := hw
    rw [if_neg c, List.take_left', if_pos hw]
    · cases v with
      | ref m => cases hr
      | _ => simp only [hv, if_true]
    · rfl
/-- a new list takes the first new place -/
theorem trim_new {h ext : HS} {m : Nat} {c : Cell} (hw : WF h) (hm : h.length ≤ m) (hc : (h ++ ext)[m]? = some c) (hl : c.lo h.length = true) : trim h.length (.ref m) (h ++ ext) = .ok (.ref h.length) (h ++ [c]) := by
  unfold trim
  have hlen : m < (h ++ ext).length := (List.getElem?_eq_some_iff.mp hc).1
  have hw : (h.all (Cell.lo h.length)) = true := hw
  rw [if_neg (by omega), List.take_left', if_pos hw]
  · simp only [if_neg (show ¬ m < h.length by omega), hc, hl, if_true]
  · rfl
/-- one new cell stays as it is -/
theorem trim_one {h : HS} {c : Cell} : trim h.length (.ref h.length) (h ++ [c]) = .ok (.ref h.length) (h ++ [c]) := by
  unfold trim
  rw [if_neg (by simp)]
  split
  · simp only [if_neg (Nat.lt_irrefl _)]
    simp
  · rfl
@[simp] theorem R.tr_ok (n : Nat) (d : D) (h : HS) : (R.ok d h).tr n = trim n d h := rfl
@[simp] theorem R.tr_bad (n : Nat) : (R.bad : R D).tr n = .bad := rfl
@[simp] theorem Fl.then_brk (δ h f) : (Fl.brk δ h).then_ f = .brk δ h := rfl
@[simp] theorem Fl.then_cont (δ h f) : (Fl.cont δ h).then_ f = .cont δ h := rfl
@[simp] theorem ofO_ok {α : Type} (a : α) (h : HS) : ofO (some a) h = .ok a h := rfl
theorem los_nats : ∀ {n : Nat} {p : List Nat}, D.los n (p.map dN) = true
  | _, [] => rfl
  | _, x :: r => by rw [List.map_cons, D.los, los_nats]; rfl
theorem los_ints : ∀ {n : Nat} {p : List Int}, D.los n (p.map .int) = true
  | _, [] => rfl
  | _, x :: r => by rw [List.map_cons, D.los, los_ints]; rfl
@[simp] theorem lo_P {n : Nat} {p : List Nat} : (P p).lo n = true := by unfold P; rw [D.lo]; exact los_nats
theorem los_all {n : Nat} : ∀ {xs : List D}, (∀ x ∈ xs, x.lo n = true) → D.los n xs = true
  | [], _ => rfl
  | x :: r, h => by
    rw [D.los, h x List.mem_cons_self, los_all fun y hy => h y (List.mem_cons_of_mem _ hy)]; rfl
theorem los_map {α : Type} {n : Nat} {f : α → D} {l : List α} (h : ∀ x ∈ l, (f x).lo n = true) : D.los n (l.map f) = true :=
  los_all fun y hy => by obtain ⟨x, hx, rfl⟩ := List.mem_map.mp hy; exact h x hx
/-! ### places -/
theorem ixN_nat {n k : Nat} (h : k < n) : L2.ixN n (k : Int) = some k := by
  unfold L2.ixN
  rw [if_pos (by omega), if_pos (by omega)]; simp
theorem atI_nat {α : Type} {xs : List α} {k : Nat} {x : α} (h : xs[k]? = some x) : L2.atI xs (k : Int) = some x := by
  unfold L2.atI
  rw [ixN_nat (List.getElem?_eq_some_iff.mp h).1]; exact h
theorem ixN_neg1 {n : Nat} (h : 0 < n) : L2.ixN n (-1) = some (n - 1) := by
  unfold L2.ixN
  rw [if_neg (by omega), if_pos (by omega)]
  congr 1; omega
theorem get_app_len {h : HS} {c : Cell} : (h ++ [c])[h.length]? = some c := by simp
theorem set_app_len {h : HS} {c c' : Cell} : (h ++ [c]).set h.length c' = h ++ [c'] := by simp
/-- the x-th of a row of numbers -/
abbrev at_ (p : List Nat) (x : Nat) : Nat := p.getD x 0
theorem at_get {p : List Nat} {x : Nat} (h : x < p.length) : p[x]? = some (at_ p x) := by
  unfold at_
  rw [List.getD_eq_getElem?_getD, List.getElem?_eq_getElem h]; rfl
theorem map_get {p : List Nat} {x : Nat} (h : x < p.length) : (p.map dN)[x]? = some (dN (at_ p x)) := by
  rw [List.getElem?_map, at_get h]; rfl
theorem ixF_P {p : List Nat} {x : Nat} {h : HS} (hx : x < p.length) : ixF (P p) (dN x) h = .ok (dN (at_ p x)) h := by
  unfold P ixF
  simp only
  rw [atI_nat (map_get hx)]; rfl
theorem rngL_nat (n : Nat) : rngL (0, (n : Int)) = (List.range n).map dN := by
  unfold rngL
  have e : ((n : Int) - 0).toNat = n := by omega
  simp only [e, Int.zero_add]
/-! ### loops -/
theorem forD_run {live : HS → Bool} {f : D → En → HS → Fl} : ∀ {xs : List D} {δ : En} {h : HS} (Q : Nat → En → HS → Prop) (k : Nat), Q k δ h →
    (∀ i x δ h, xs[i]? = some x → Q (k + i) δ h → live h = true ∧ ∃ δ' h', (f x δ h = .next δ' h' ∨ f x δ h = .cont δ' h') ∧ Q (k + i + 1) δ' h') → (∀ δ h, Q (k + xs.length) δ h → live h = true) →
    ∃ δ' h', forD live f xs δ h = .next δ' h' ∧ Q (k + xs.length) δ' h'
  | [], δ, h, Q, k, h0, hs, hl => by
    refine ⟨δ, h, ?_, h0⟩
    rw [forD, if_pos (hl δ h h0)]
  | x :: r, δ, h, Q, k, h0, hs, hl => by
    obtain ⟨lv, δ1, h1, e, q1⟩ := hs 0 x δ h rfl h0
    obtain ⟨δ2, h2, e2, q2⟩ := forD_run (live := live) (f := f) (xs := r) Q (k + 1) q1 (fun i y δ h hi hq => by
      have e1 : k + 1 + i = k + (i + 1) := by omega
      rw [e1] at hq ⊢
      exact hs (i + 1) y δ h (by simpa using hi) hq) (fun δ h hq => hl δ h (by
      have e1 : k + 1 + r.length = k + (x :: r).length := by rw [List.length_cons]; omega
      rw [← e1]; exact hq))
    refine ⟨δ2, h2, ?_, ?_⟩
    · rw [forD, if_pos lv]
      rcases e with e | e <;> rw [e] <;> exact e2
    · have e1 : k + 1 + r.length = k + (x :: r).length := by rw [List.length_cons]; omega
      rw [← e1]; exact q2
theorem for_run {live : HS → Bool} {f : D → En → HS → Fl} {xs : List D} {δ : En} {h : HS} (Q : Nat → En → HS → Prop) (h0 : Q 0 δ h)
    (hs : ∀ i x δ h, xs[i]? = some x → Q i δ h → live h = true ∧ ∃ δ' h', (f x δ h = .next δ' h' ∨ f x δ h = .cont δ' h') ∧ Q (i + 1) δ' h') (hl : ∀ δ h, Q xs.length δ h → live h = true) :
    ∃ δ' h', forD live f xs δ h = .next δ' h' ∧ Q xs.length δ' h' := by
  obtain ⟨δ', h', e, q⟩ := forD_run (live := live) (f := f) (xs := xs) (δ := δ) (h := h) Q 0 h0 (fun i x δ h hi hq => by rw [Nat.zero_add] at hq ⊢; exact hs i x δ h hi hq) (fun δ h hq => hl δ h (by rw [Nat.zero_add] at hq; exact hq))
  exact ⟨δ', h', e, by rw [Nat.zero_add] at q; exact q⟩
/-- a while with its measure -/
theorem while_run {c : En → HS → R Bool} {f : En → HS → Fl} : ∀ (m : Nat) {N : Nat} {δ : En} {h : HS} (Q : Nat → En → HS → Prop), m < N → Q m δ h →
    (∀ m δ h, Q m δ h → (∃ h1, c δ h = .ok false h1 ∧ Q 0 δ h1 ∧ m = 0) ∨ (∃ h1 δ' h' m', c δ h = .ok true h1 ∧ (f δ h1 = .next δ' h' ∨ f δ h1 = .cont δ' h') ∧ m' < m ∧ Q m' δ' h')) →
    ∃ δ' h', whileD c f N δ h = .next δ' h' ∧ Q 0 δ' h' := by
  intro m
  induction m using Nat.strongRecOn with
  | _ m ih =>
    intro N δ h Q hN h0 hs
    cases N with
    | zero => omega
    | succ N =>
      rw [whileD]
      rcases hs m δ h h0 with ⟨h1, e, q, _⟩ | ⟨h1, δ', h', m', e, ef, hm, q⟩
      · rw [e]
        exact ⟨δ, h1, rfl, q⟩
      · obtain ⟨δ2, h2, e2, q2⟩ := ih m' hm (N := N) Q (by omega) q hs
        refine ⟨δ2, h2, ?_, q2⟩
        rw [e]
        simp only [R.fl_ok, if_true]
        rcases ef with ef | ef <;> rw [ef] <;> exact e2
/-! ### comprehensions -/
theorem comp_pure {live : HS → Bool} {f : D → HS → R (List D)} {g : D → List D} {h : HS} (hl : live h = true) : ∀ {xs : List D}, (∀ x ∈ xs, f x h = .ok (g x) h) → compD live f xs h = .ok (xs.flatMap g) h
  | [], _ => by rw [compD, if_pos hl]; rfl
  | x :: r, hf => by
    rw [compD, if_pos hl, hf x List.mem_cons_self, R.bind_ok, comp_pure hl fun y hy => hf y (List.mem_cons_of_mem _ hy)]
    rfl
/-- one list from another -/
theorem comp_map {α : Type} {live : HS → Bool} {f : D → HS → R (List D)} {g : α → D} {u : α → D} {h : HS} (hl : live h = true) {l : List α} (hf : ∀ x ∈ l, f (u x) h = .ok [g x] h) : compD live f (l.map u) h = .ok (l.map g) h := by
  induction l with
  | nil => rw [List.map_nil, compD, if_pos hl]; rfl
  | cons x r ih =>
    rw [List.map_cons, compD, if_pos hl, hf x List.mem_cons_self, R.bind_ok, ih fun y hy => hf y (List.mem_cons_of_mem _ hy)]
    rfl
theorem comp_filter {α : Type} {live : HS → Bool} {f : D → HS → R (List D)} {g : α → D} {u : α → D} {b : α → Bool} {h : HS} (hl : live h = true) {l : List α} (hf : ∀ x ∈ l, f (u x) h = .ok (if b x then [g x] else []) h) :
    compD live f (l.map u) h = .ok ((l.filter b).map g) h := by
  induction l with
  | nil => rw [List.map_nil, compD, if_pos hl]; rfl
  | cons x r ih =>
    rw [List.map_cons, compD, if_pos hl, hf x List.mem_cons_self, R.bind_ok, ih fun y hy => hf y (List.mem_cons_of_mem _ hy)]
    rw [List.filter_cons]
    cases b x <;> rfl
/-- the heap goes on -/
theorem comp_run {live : HS → Bool} {f : D → HS → R (List D)} : ∀ {xs : List D} {h : HS} (Q : Nat → List D → HS → Prop) (k : Nat) (ys : List D), Q k ys h →
    (∀ i x ys h, xs[i]? = some x → Q (k + i) ys h → live h = true ∧ ∃ zs h', f x h = .ok zs h' ∧ Q (k + i + 1) (ys ++ zs) h') → (∀ ys h, Q (k + xs.length) ys h → live h = true) →
    ∃ zs h', compD live f xs h = .ok zs h' ∧ Q (k + xs.length) (ys ++ zs) h'
  | [], h, Q, k, ys, h0, hs, hl => by
    refine ⟨[], h, ?_, by rw [List.append_nil]; exact h0⟩
    rw [compD, if_pos (hl ys h h0)]
  | x :: r, h, Q, k, ys, h0, hs, hl => by
    obtain ⟨lv, zs, h1, e, q1⟩ := hs 0 x ys h rfl h0
    obtain ⟨us, h2, e2, q2⟩ := comp_run (live := live) (f := f) (xs := r) Q (k + 1) (ys ++ zs) q1 (fun i y ys h hi hq => by
      have e1 : k + 1 + i = k + (i + 1) := by omega
      rw [e1] at hq ⊢
      exact hs (i + 1) y ys h (by simpa using hi) hq) (fun ys h hq => hl ys h (by
      have e1 : k + 1 + r.length = k + (x :: r).length := by rw [List.length_cons]; omega
      rw [← e1]; exact hq))
    refine ⟨zs ++ us, h2, ?_, ?_⟩
    · rw [compD, if_pos lv, e, R.bind_ok, e2]; rfl
    · have e1 : k + 1 + r.length = k + (x :: r).length := by rw [List.length_cons]; omega
      rw [← e1, ← List.append_assoc]; exact q2
/-! ### calls -/
theorem call_run {T : Tb} {k : Nat} {f : Str} {d : Df} {args : List D} {h h1 : HS} {v : D} (ht : T f = some d) (hl : args.length = d.np) (he : execB (callD T k) d.body (startE d.n args) h = .ret v h1) : callD T (k + 1) f args h = trim h.length v h1 := by
  unfold callD
  rw [ht]
  simp only [if_pos hl, he]
theorem mkL_ok {xs : List D} {h : HS} (c : xs.length ≤ LIM) : mkL xs h = .ok (.ref h.length) (h ++ [.lst xs]) := by unfold mkL; rw [if_pos c]
theorem mkT_ok {xs : List D} {h : HS} (c : xs.length ≤ LIM) : mkT xs h = .ok (.tup xs) h := by unfold mkT; rw [if_pos c]
/-! ### statements -/
def bodyF (t : NT) (g : En → HS → Fl) (x : D) (δ : En) (h : HS) : Fl := match bindN t x δ with
  | some δ2 => g δ2 h
  | none => .bad
theorem bodyF_ok {t : NT} {g : En → HS → Fl} {x : D} {δ δ1 : En} {h : HS} (e : bindN t x δ = some δ1) : bodyF t g x δ h = g δ1 h := by unfold bodyF; rw [e]
theorem execS_for {cl : Cl} {t : NT} {it : CI} {b : CSs} {δ : En} {h : HS} : execS cl (.for_ t it b) δ h = (evalI cl it δ h).fl fun w h1 => forD (liveOk w.live) (bodyF t (execB cl b)) w.items δ h1 := by
  simp only [execS]; rfl
def turnD (cl : Cl) (own : List Nat) (tg : NT) (t : CB) (e : CE) (δ : En) (x : D) (h : HS) : R (List D) := match bindN tg x (wipeE δ own) with
  | some δ1 => (evalB cl t δ1 h).bind fun b h3 => if b then (evalE cl e δ1 h3).bind fun y h4 => .ok [y] h4 else .ok [] h3
  | none => .bad
theorem evalE_lc {cl : Cl} {own : List Nat} {tg : NT} {it : CI} {t : CB} {e : CE} {δ : En} {h : HS} : evalE cl (.lc own tg it t e) δ h = ((evalI cl it δ h).bind fun w h1 => (compD (liveOk w.live) (turnD cl own tg t e δ) w.items h1).bind mkL).tr h.length := by
  simp only [evalE]; rfl
theorem turnD_ok {cl : Cl} {own : List Nat} {tg : NT} {t : CB} {e : CE} {δ δ1 : En} {x y : D} {h h3 h4 : HS} (eb : bindN tg x (wipeE δ own) = some δ1) (et : evalB cl t δ1 h = .ok true h3) (ee : evalE cl e δ1 h3 = .ok y h4) : turnD cl own tg t e δ x h = .ok [y] h4 := by
  unfold turnD; rw [eb]; simp only [et, R.bind_ok, if_true, ee]
theorem turnD_no {cl : Cl} {own : List Nat} {tg : NT} {t : CB} {e : CE} {δ δ1 : En} {x : D} {h h3 : HS} (eb : bindN tg x (wipeE δ own) = some δ1) (et : evalB cl t δ1 h = .ok false h3) : turnD cl own tg t e δ x h = .ok [] h3 := by
  unfold turnD; rw [eb]; simp only [et, R.bind_ok]; rfl
theorem turnD_b {cl : Cl} {own : List Nat} {tg : NT} {t : CB} {e : CE} {δ δ1 : En} {x y : D} {b : Bool} {h : HS} (eb : bindN tg x (wipeE δ own) = some δ1) (et : evalB cl t δ1 h = .ok b h) (ee : evalE cl e δ1 h = .ok y h) : turnD cl own tg t e δ x h = .ok (if b then [y] else []) h := by
  cases b with
  | true => exact turnD_ok eb et ee
  | false => exact turnD_no eb et
section
variable {cl : Cl} {s : CS} {r : CSs} {δ δ1 : En} {h h1 : HS} {e : CE} {v : D} {c : CB} {a b : CSs}
theorem step (he : execS cl s δ h = .next δ1 h1) : execB cl (.cons s r) δ h = execB cl r δ1 h1 := by rw [execB, he, Fl.then_next]
theorem retS (he : evalE cl e δ h = .ok v h1) : execB cl (.cons (.ret e) r) δ h = .ret v h1 := by rw [execB, execS, he]; rfl
theorem asgS {i : Nat} (he : evalE cl e δ h = .ok v h1) (hi : i < δ.length) : execB cl (.cons (.asg (.nm i) e) r) δ h = execB cl r (δ.set i (some v)) h1 := by
  refine step ?_
  simp only [execS, he, R.fl_ok, asgA, if_pos hi]
theorem subS {o i : CE} {x y : D} {h2 h3 h4 : HS} (he : evalE cl e δ h = .ok v h1) (ho : evalE cl o δ h1 = .ok x h2) (hi : evalE cl i δ h2 = .ok y h3) (hs : setF x y v h3 = .ok () h4) : execB cl (.cons (.asg (.sub o i) e) r) δ h = execB cl r δ h4 := by
  refine step ?_
  simp only [execS, he, R.fl_ok, asgA, ho, R.bind_ok, hi, hs]
theorem exS (he : evalE cl e δ h = .ok v h1) : execB cl (.cons (.ex e) r) δ h = execB cl r δ h1 := by
  refine step ?_
  simp only [execS, he, R.fl_ok]
theorem ifT (hc : evalB cl c δ h = .ok true h1) (ha : execB cl a δ h1 = .next δ1 h2) : execB cl (.cons (.ifs c a b) r) δ h = execB cl r δ1 h2 := by
  refine step ?_
  simp only [execS, hc, R.fl_ok, if_true, ha]
theorem ifR (hc : evalB cl c δ h = .ok true h1) (ha : execB cl a δ h1 = .ret v h2) : execB cl (.cons (.ifs c a b) r) δ h = .ret v h2 := by
  rw [execB, execS, hc]
  simp only [R.fl_ok, if_true, ha, Fl.then_ret]
theorem ifF (hc : evalB cl c δ h = .ok false h1) : execB cl (.cons (.ifs c a .nil) r) δ h = execB cl r δ h1 := by
  refine step ?_
  simp only [execS, hc, R.fl_ok]
  rfl
theorem ifE (hc : evalB cl c δ h = .ok false h1) (hb : execB cl b δ h1 = .next δ1 h2) : execB cl (.cons (.ifs c a b) r) δ h = execB cl r δ1 h2 := by
  refine step ?_
  simp only [execS, hc, R.fl_ok]
  exact hb
theorem nilS : execB cl .nil δ h = .next δ h := by rw [execB]
theorem forS {t : NT} {it : CI} {w : Its} (Q : Nat → En → HS → Prop) (hi : evalI cl it δ h = .ok w h1) (h0 : Q 0 δ h1)
    (hs : ∀ i x δ h, w.items[i]? = some x → Q i δ h → liveOk w.live h = true ∧ ∃ δ1 δ' h', bindN t x δ = some δ1 ∧ (execB cl b δ1 h = .next δ' h' ∨ execB cl b δ1 h = .cont δ' h') ∧ Q (i + 1) δ' h') (hl : ∀ δ h, Q w.items.length δ h → liveOk w.live h = true) :
    ∃ δ' h', execB cl (.cons (.for_ t it b) r) δ h = execB cl r δ' h' ∧ Q w.items.length δ' h' := by
  obtain ⟨δ', h', e, q⟩ := for_run (live := liveOk w.live) (f := bodyF t (execB cl b)) (xs := w.items) Q h0 (fun i x δ h hi hq => by
    obtain ⟨lv, δ1, δ', h', eb, ex, q⟩ := hs i x δ h hi hq
    exact ⟨lv, δ', h', by rw [bodyF_ok eb]; exact ex, q⟩) hl
  refine ⟨δ', h', step ?_, q⟩
  rw [execS_for, hi, R.fl_ok, e]
theorem whileS (Q : Nat → En → HS → Prop) (m : Nat) (hm : m < FUEL) (h0 : Q m δ h)
    (hs : ∀ m δ h, Q m δ h → (∃ h1, evalB cl c δ h = .ok false h1 ∧ Q 0 δ h1 ∧ m = 0) ∨ (∃ h1 δ' h' m', evalB cl c δ h = .ok true h1 ∧ (execB cl b δ h1 = .next δ' h' ∨ execB cl b δ h1 = .cont δ' h') ∧ m' < m ∧ Q m' δ' h')) :
    ∃ δ' h', execB cl (.cons (.while_ c b) r) δ h = execB cl r δ' h' ∧ Q 0 δ' h' := by
  obtain ⟨δ', h', e, q⟩ := while_run (c := evalB cl c) (f := execB cl b) m Q hm h0 hs
  refine ⟨δ', h', step ?_, q⟩
  rw [execS, e]
end
/-! ### expressions -/
section
variable {cl : Cl} {δ : En} {h h1 : HS} {e a b : CE} {i : Nat} {v x y : D}
theorem var_ok (e : δ[i]? = some (some v)) : evalE cl (.var i) δ h = .ok v h := by simp only [evalE, e]
theorem lit_ok : evalE cl (.lit v) δ h = .ok v h := by simp only [evalE]
/-- tuple([..]) where the list is made without a trace -/
theorem tuple_new {ys : List D} (he : evalE cl e δ h = .ok (.ref h.length) (h ++ [.lst ys])) (hw : WF h) (hl : D.los h.length ys = true) (c : ys.length ≤ LIM) : evalE cl (.bi .tuple (.cons e .nil)) δ h = .ok (.tup ys) h := by
  simp only [evalE, evalL, he, R.bind_ok, biF, itemsD, get_app_len]
  rw [mkT_ok c, R.tr_ok]
  exact trim_app hw (by rw [D.lo]; exact hl) rfl
/-- a comprehension that leaves no trace -/
theorem lc_new {own : List Nat} {tg : NT} {it : CI} {t : CB} {w : Its} {ys : List D} (hi : evalI cl it δ h = .ok w h)
    (hc : compD (liveOk w.live) (turnD cl own tg t e δ) w.items h = .ok ys h) (c : ys.length ≤ LIM) : evalE cl (.lc own tg it t e) δ h = .ok (.ref h.length) (h ++ [.lst ys]) := by
  rw [evalE_lc, hi, R.bind_ok, hc, R.bind_ok, mkL_ok c, R.tr_ok, trim_one]
theorem seq_tup {xs : List D} (he : evalE cl e δ h = .ok (.tup xs) h) : evalI cl (.seq e) δ h = .ok ⟨xs, none⟩ h := by
  simp only [evalI, he, R.bind_ok]
  rfl
theorem seq_P {p : List Nat} (e : δ[i]? = some (some (P p))) : evalI cl (.seq (.var i)) δ h = .ok ⟨p.map dN, none⟩ h := seq_tup (var_ok e)
theorem enum_P {p : List Nat} (e : δ[i]? = some (some (P p))) : evalI cl (.enum (.var i)) δ h = .ok ⟨enumL 0 (p.map dN), none⟩ h := by
  simp only [evalI, evalE, e, R.bind_ok]
  rfl
theorem rng_ok1 {n : Nat} (he : evalE cl e δ h = .ok (dN n) h1) (hn : n ≤ LIM) : evalI cl (.rng (.cons e .nil)) δ h = .ok ⟨(List.range n).map dN, none⟩ h1 := by
  simp only [evalI, evalL, he, R.bind_ok, rngF]
  rw [if_pos (by simpa using hn)]
  simp only [rngL_nat]
theorem len_P {p : List Nat} (e : δ[i]? = some (some (P p))) : evalE cl (.bi .len (.cons (.var i) .nil)) δ h = .ok (dN p.length) h := by
  simp only [evalE, evalL, e, R.bind_ok, biF, itemsD, P, List.length_map, R.tr_ok, trim_self]
theorem len_ref {n : Nat} {xs : List D} (e : δ[i]? = some (some (.ref n))) (e2 : h[n]? = some (.lst xs)) : evalE cl (.bi .len (.cons (.var i) .nil)) δ h = .ok (dN xs.length) h := by
  simp only [evalE, evalL, e, R.bind_ok, biF, e2, R.tr_ok, trim_self]
theorem ix_P {p : List Nat} {k : Nat} (ha : evalE cl a δ h = .ok (P p) h) (hb : evalE cl b δ h = .ok (dN k) h) (hk : k < p.length) : evalE cl (.ix a b) δ h = .ok (dN (at_ p k)) h := by
  simp only [evalE, ha, hb, R.bind_ok, ixF_P hk, R.tr_ok, trim_self]
theorem call_1 {f : Str} (ha : evalE cl a δ h = .ok x h) (hc : cl f [x] h = .ok v h) : evalE cl (.call f (.cons a .nil)) δ h = .ok v h := by
  simp only [evalE, evalL, ha, R.bind_ok, hc, R.tr_ok, trim_self]
theorem call_2 {f : Str} (ha : evalE cl a δ h = .ok x h) (hb : evalE cl b δ h = .ok y h) (hc : cl f [x, y] h = .ok v h) : evalE cl (.call f (.cons a (.cons b .nil))) δ h = .ok v h := by
  simp only [evalE, evalL, ha, hb, R.bind_ok, hc, R.tr_ok, trim_self]
theorem setF_lst {n k : Nat} {xs : List D} (e : h[n]? = some (.lst xs)) (hk : k < xs.length) : setF (.ref n) (dN k) v h = .ok () (h.set n (.lst (xs.set k v))) := by
  unfold setF
  simp only [e]
  rw [ixN_nat hk]
theorem tuple_ref {m : Nat} {xs : List D} (e : δ[i]? = some (some (.ref m))) (e2 : h[m]? = some (.lst xs)) (c : xs.length ≤ LIM) : evalE cl (.bi .tuple (.cons (.var i) .nil)) δ h = .ok (.tup xs) h := by
  simp only [evalE, evalL, e, R.bind_ok, biF, itemsD, e2]
  rw [mkT_ok c, R.tr_ok, trim_self]
theorem zeros {p : List Nat} (e : δ[i]? = some (some (P p))) (hw : WF h) (hl : p.length ≤ LIM) :
    evalE cl (.bin .Mult (.lst (.cons (.lit (.int 0)) .nil)) (.bi .len (.cons (.var i) .nil))) δ h = .ok (.ref h.length) (h ++ [.lst ((List.replicate p.length 0).map dN)]) := by
  simp only [evalE, evalL, R.bind_ok, e, biF, itemsD, P]
  rw [mkL_ok (by simp [LIM])]
  simp only [R.bind_ok, R.tr_ok, List.length_map, trim_self, binF, get_app_len]
  rw [if_pos ?_]
  · rw [R.tr_ok]
    have : (h ++ [Cell.lst [D.int 0]] ++ [Cell.lst (List.replicate ((p.length : Int).toNat) [D.int 0]).flatten]) = h ++ [Cell.lst [D.int 0], Cell.lst ((List.replicate p.length 0).map dN)] := by
      rw [List.append_assoc]
      congr 2
      simp
    rw [this]
    refine trim_new hw (by simp) (c := .lst ((List.replicate p.length 0).map dN)) ?_ los_nats
    simp
  · simp [LIM] at hl ⊢
    omega
end
theorem enumL_at {xs : List D} {i : Nat} {x : D} (h : (enumL 0 xs)[i]? = some x) : ∃ y, xs[i]? = some y ∧ x = .tup [.int (i : Nat), y] := by
  have key : ∀ (xs : List D) (k i : Nat) (x : D), (enumL k xs)[i]? = some x → ∃ y, xs[i]? = some y ∧ x = .tup [.int ((k + i : Nat) : Int), y] := by
    intro xs
    induction xs with
    | nil => intro k i x h; simp [enumL] at h
    | cons y r ih =>
      intro k i x h
      rw [enumL] at h
      cases i with
      | zero => simp at h; exact ⟨y, rfl, h.symm⟩
      | succ i =>
        obtain ⟨z, e1, e2⟩ := ih (k + 1) i x (by simpa using h)
        refine ⟨z, by simpa using e1, ?_⟩
        rw [e2, show k + 1 + i = k + (i + 1) by omega]
  obtain ⟨y, e1, e2⟩ := key xs 0 i x h
  exact ⟨y, e1, by rw [e2, Nat.zero_add]⟩
theorem enumL_len (xs : List D) : (enumL 0 xs).length = xs.length := enumL_length 0 xs
theorem enumP_at {p : List Nat} {i : Nat} {x : D} (h : (enumL 0 (p.map dN))[i]? = some x) : i < p.length ∧ x = .tup [dN i, dN (at_ p i)] := by
  obtain ⟨y, e1, rfl⟩ := enumL_at h
  have hlt : i < p.length := by
    have := (List.getElem?_eq_some_iff.mp e1).1
    simpa using this
  rw [map_get hlt] at e1
  cases e1
  exact ⟨hlt, rfl⟩
theorem range_at {n i : Nat} {x : D} (h : ((List.range n).map dN)[i]? = some x) : i < n ∧ x = dN i := by
  have hlt : i < n := by
    have := (List.getElem?_eq_some_iff.mp h).1
    simpa using this
  rw [List.getElem?_map, List.getElem?_range hlt] at h
  cases h
  exact ⟨hlt, rfl⟩
/-- writes into a row, one after another -/
def rowW (r : List Nat) (n : Nat) (a b : Nat → Nat) : List Nat := (List.range n).foldl (fun r x => r.set (a x) (b x)) r
theorem rowW_succ {r : List Nat} {n : Nat} {a b : Nat → Nat} : rowW r (n + 1) a b = (rowW r n a b).set (a n) (b n) := by
  unfold rowW
  rw [List.range_succ, List.foldl_append]; rfl
theorem rowW_len {r : List Nat} {n : Nat} {a b : Nat → Nat} : (rowW r n a b).length = r.length := by
  induction n with
  | zero => rfl
  | succ n ih => rw [rowW_succ, List.length_set, ih]
theorem map_set {p : List Nat} {k v : Nat} : (p.map dN).set k (dN v) = (p.set k v).map dN := by rw [List.map_set]
theorem at_lt {p : List Nat} {x n : Nat} (hp : ∀ y ∈ p, y < n) (hx : x < p.length) : at_ p x < n := hp _ (List.mem_of_getElem? (at_get hx))
end Mi

namespace Mi
/-! ## permutations as rows of numbers -/
theorem ph {α : Type} [DecidableEq α] : ∀ {l m : List α}, l.Nodup → (∀ x ∈ l, x ∈ m) → l.length ≤ m.length
  | [], _, _, _ => Nat.zero_le _
  | x :: r, m, nd, h => by
    have hx := h x List.mem_cons_self
    rw [List.nodup_cons] at nd
    have := ph (l := r) (m := m.erase x) nd.2 fun y hy => by
      rw [List.mem_erase_of_ne (fun e => nd.1 (by rw [← e]; exact hy))]
      exact h y (List.mem_cons_of_mem _ hy)
    rw [List.length_erase_of_mem hx] at this
    have pos : 0 < m.length := List.length_pos_of_mem hx
    rw [List.length_cons]; omega
theorem ph_all {n : Nat} {l : List Nat} (nd : l.Nodup) (h : ∀ x ∈ l, x < n) (hl : l.length = n) {y : Nat} (hy : y < n) : y ∈ l := by
  by_cases c : y ∈ l
  · exact c
  · exfalso
    have := ph (l := y :: l) (m := List.range n) (List.nodup_cons.mpr ⟨c, nd⟩) fun x hx => by
      rw [List.mem_range]
      rcases List.mem_cons.mp hx with e | e
      · rw [e]; exact hy
      · exact h x e
    rw [List.length_cons, List.length_range, hl] at this
    omega
structure Pm (n : Nat) (p : List Nat) : Prop where
  len : p.length = n
  nd : p.Nodup
  lt : ∀ x ∈ p, x < n
section
variable {n : Nat} {p q : List Nat} {x y : Nat}
theorem at_eq (h : x < p.length) : at_ p x = p[x] := by
  unfold at_
  rw [List.getD_eq_getElem?_getD, List.getElem?_eq_getElem h]; rfl
theorem Pm.at_lt (h : Pm n p) (hx : x < n) : at_ p x < n := Mi.at_lt h.lt (by rw [h.len]; exact hx)
theorem Pm.at_mem (h : Pm n p) (hx : x < n) : at_ p x ∈ p := List.mem_of_getElem? (at_get (by rw [h.len]; exact hx))
theorem Pm.inj (h : Pm n p) (hx : x < n) (hy : y < n) (e : at_ p x = at_ p y) : x = y := by
  have hx' : x < p.length := by rw [h.len]; exact hx
  have hy' : y < p.length := by rw [h.len]; exact hy
  rw [at_eq hx', at_eq hy'] at e
  exact (List.getElem_inj h.nd).mp e
theorem Pm.surj (h : Pm n p) (hy : y < n) : ∃ x, x < n ∧ at_ p x = y := by
  have := ph_all h.nd h.lt h.len hy
  obtain ⟨x, hx, e⟩ := List.mem_iff_getElem.mp this
  exact ⟨x, by rw [← h.len]; exact hx, by rw [at_eq hx]; exact e⟩
/-- a row given by its entries -/
theorem Pm.of_at (hl : p.length = n) (h1 : ∀ x, x < n → at_ p x < n) (h2 : ∀ x y, x < n → y < n → at_ p x = at_ p y → x = y) : Pm n p := by
  refine ⟨hl, ?_, fun x hx => ?_⟩
  · rw [List.nodup_iff_pairwise_ne, List.pairwise_iff_getElem]
    intro i j hi hj hij e
    have := h2 i j (by omega) (by omega) (by rw [at_eq hi, at_eq hj]; exact e)
    omega
  · obtain ⟨i, hi, e⟩ := List.mem_iff_getElem.mp hx
    rw [← e, ← at_eq hi]; exact h1 i (by omega)
theorem row_ext (hl : p.length = n) (hq : q.length = n) (h : ∀ x, x < n → at_ p x = at_ q x) : p = q := by
  refine List.ext_getElem (by omega) fun i h1 h2 => ?_
  have := h i (by omega)
  rw [at_eq h1, at_eq h2] at this; exact this
theorem Pm.range : Pm n (List.range n) := ⟨List.length_range, List.nodup_range, fun x hx => List.mem_range.mp hx⟩
theorem at_range (h : x < n) : at_ (List.range n) x = x := by
  rw [at_eq (by simpa using h)]; simp
theorem at_map {f : Nat → Nat} (h : x < p.length) : at_ (p.map f) x = f (at_ p x) := by
  rw [at_eq (by simpa using h), at_eq h]; simp
theorem at_set {v : Nat} (h : x < p.length) : at_ (p.set y v) x = if y = x then v else at_ p x := by
  rw [at_eq (by simpa using h), List.getElem_set, at_eq h]
/-! ### products, inverses -/
def tm (p q : List Nat) : List Nat := p.map fun x => at_ q x
theorem tm_len : (tm p q).length = p.length := by unfold tm; rw [List.length_map]
theorem at_tm (h : x < p.length) : at_ (tm p q) x = at_ q (at_ p x) := by unfold tm; exact at_map h
theorem Pm.tm (hp : Pm n p) (hq : Pm n q) : Pm n (tm p q) := by
  refine Pm.of_at (by rw [tm_len, hp.len]) (fun x hx => ?_) (fun x y hx hy e => ?_)
  · rw [at_tm (by rw [hp.len]; exact hx)]; exact hq.at_lt (hp.at_lt hx)
  · rw [at_tm (by rw [hp.len]; exact hx), at_tm (by rw [hp.len]; exact hy)] at e
    exact hp.inj hx hy (hq.inj (hp.at_lt hx) (hp.at_lt hy) e)
theorem rowW_at {r : List Nat} {a b : Nat → Nat} : ∀ {n : Nat}, (∀ x, x < n → a x < r.length) → (∀ x y, x < n → y < n → a x = a y → x = y) → x < n → at_ (rowW r n a b) (a x) = b x
  | 0, _, _, h => by omega
  | n + 1, h1, h2, h => by
    rw [rowW_succ, at_set (by rw [rowW_len]; exact h1 x h)]
    by_cases e : a n = a x
    · rw [if_pos e, h2 n x (by omega) h e]
    · rw [if_neg e]
      have : x ≠ n := fun z => e (by rw [z])
      exact rowW_at (fun x hx => h1 x (by omega)) (fun x y hx hy => h2 x y (by omega) (by omega)) (by omega)
def inv (p : List Nat) : List Nat := rowW (List.replicate p.length 0) p.length (at_ p) id
theorem inv_len : (inv p).length = p.length := by unfold inv; rw [rowW_len, List.length_replicate]
theorem Pm.at_inv (h : Pm n p) (hx : x < n) : at_ (inv p) (at_ p x) = x := by
  unfold inv
  refine rowW_at (b := id) (fun y hy => ?_) (fun y z hy hz => ?_) (by rw [h.len]; exact hx)
  · rw [List.length_replicate, h.len]; rw [h.len] at hy; exact h.at_lt hy
  · rw [h.len] at hy hz; exact h.inj hy hz
theorem Pm.inv_lt (h : Pm n p) (hy : y < n) : at_ (inv p) y < n ∧ at_ p (at_ (inv p) y) = y := by
  obtain ⟨x, hx, rfl⟩ := h.surj hy
  rw [h.at_inv hx]; exact ⟨hx, rfl⟩
theorem Pm.inv (h : Pm n p) : Pm n (inv p) := by
  refine Pm.of_at (by rw [inv_len, h.len]) (fun x hx => (h.inv_lt hx).1) (fun x y hx hy e => ?_)
  rw [← (h.inv_lt hx).2, ← (h.inv_lt hy).2, e]
def cj (p c : List Nat) : List Nat := rowW (List.replicate p.length 0) p.length (at_ c) fun x => at_ c (at_ p x)
theorem cj_len {c : List Nat} : (cj p c).length = p.length := by unfold cj; rw [rowW_len, List.length_replicate]
theorem comm_eq (hp : Pm n p) (hq : Pm n q) : tm (inv (tm q p)) (tm p q) = tm (tm (inv p) (inv q)) (tm p q) := by
  have e : inv (tm q p) = tm (inv p) (inv q) := by
    have hpq := hq.tm hp
    refine row_ext (n := n) (by rw [inv_len, tm_len, hq.len]) (by rw [tm_len, inv_len, hp.len]) fun y hy => ?_
    rw [at_tm (by rw [inv_len, hp.len]; exact hy)]
    have e1 := hpq.inv_lt hy
    have e2 : at_ q (at_ (inv (tm q p)) y) = at_ (inv p) y := by
      have := e1.2
      rw [at_tm (by rw [hq.len]; exact e1.1)] at this
      rw [← hp.at_inv (hq.at_lt e1.1), this]
    rw [← e2, hq.at_inv e1.1]
  rw [e]
/-! ### orbits -/
def it (p : List Nat) : Nat → Nat → Nat
  | 0, x => x
  | k + 1, x => at_ p (it p k x)
theorem Pm.it_lt (h : Pm n p) (hx : x < n) : ∀ k, it p k x < n
  | 0 => hx
  | k + 1 => h.at_lt (h.it_lt hx k)
theorem it_add (a b : Nat) : it p (a + b) x = it p a (it p b x) := by
  induction a with
  | zero => rw [Nat.zero_add]; rfl
  | succ a ih => rw [Nat.add_right_comm]; show at_ p _ = at_ p _; rw [ih]
theorem it_at (k : Nat) : it p k (at_ p x) = it p (k + 1) x := (it_add k 1).symm
theorem Pm.it_inj (h : Pm n p) (hx : x < n) (hy : y < n) : ∀ k, it p k x = it p k y → x = y
  | 0, e => e
  | k + 1, e => h.it_inj hx hy k (h.inj (h.it_lt hx k) (h.it_lt hy k) e)
theorem Pm.back (h : Pm n p) (hx : x < n) : ∃ k, k < n ∧ it p (k + 1) x = x := by
  by_cases c : ((List.range (n + 1)).map fun k => it p k x).Nodup
  · exfalso
    have := ph (m := List.range n) c fun y hy => by
      obtain ⟨k, _, rfl⟩ := List.mem_map.mp hy
      exact List.mem_range.mpr (h.it_lt hx k)
    simp at this
    omega
  · have : ∃ i j, i < j ∧ j < n + 1 ∧ it p i x = it p j x := by
      apply Classical.byContradiction
      intro hn
      apply c
      rw [List.nodup_iff_pairwise_ne, List.pairwise_iff_getElem]
      intro i j hi hj hij e
      simp at hi hj e
      exact hn ⟨i, j, hij, hj, e⟩
    obtain ⟨i, j, hij, hj, e⟩ := this
    refine ⟨j - i - 1, by omega, ?_⟩
    have e2 : j = i + (j - i - 1 + 1) := by omega
    rw [e2, it_add] at e
    exact (h.it_inj hx (h.it_lt hx _) i e).symm
def per (p : List Nat) (x : Nat) : Nat := ((List.range p.length).find? fun k => it p (k + 1) x == x).getD 0 + 1
theorem Pm.per_spec (h : Pm n p) (hx : x < n) : it p (per p x) x = x ∧ per p x ≤ n ∧ ∀ k, 1 ≤ k → k < per p x → it p k x ≠ x := by
  unfold per
  rw [h.len]
  cases e : (List.range n).find? fun k => it p (k + 1) x == x with
  | none =>
    obtain ⟨k, hk, q⟩ := h.back hx
    have := List.find?_eq_none.mp e k (List.mem_range.mpr hk)
    simp [q] at this
  | some k =>
    rw [List.find?_range_eq_some] at e
    obtain ⟨e1, e2, e3⟩ := e
    refine ⟨by simpa using e1, by simp at e2 ⊢; omega, fun j h1 h2 => ?_⟩
    simp at h2
    have := e3 (j - 1) (by omega)
    rw [show j - 1 + 1 = j by omega] at this
    simpa using this
theorem per_pos : 0 < per p x := Nat.succ_pos _
theorem Pm.it_per (h : Pm n p) (hx : x < n) (m k : Nat) : it p (k + m * per p x) x = it p k x := by
  induction m with
  | zero => rw [Nat.zero_mul]; rfl
  | succ m ih => rw [Nat.succ_mul, ← Nat.add_assoc, it_add, (h.per_spec hx).1, ih]
theorem Pm.it_mod (h : Pm n p) (hx : x < n) (k : Nat) : it p (k % per p x) x = it p k x := by
  have := h.it_per hx (k / per p x) (k % per p x)
  rw [Nat.mul_comm, Nat.mod_add_div] at this
  exact this.symm
theorem Pm.it_eq (h : Pm n p) (hx : x < n) {i j : Nat} (hi : i < per p x) (hj : j < per p x) (e : it p i x = it p j x) : i = j := by
  have key : ∀ {i j : Nat}, i < per p x → j < per p x → it p i x = it p j x → ¬ i < j := fun {i j} hi hj e hlt => by
    have e2 : j = i + (j - i) := by omega
    rw [e2, it_add] at e
    have := h.it_inj hx (h.it_lt hx _) i e
    exact (h.per_spec hx).2.2 (j - i) (by omega) (by omega) this.symm
  have a := key hi hj e
  have b := key hj hi e.symm
  omega
def cyc (p : List Nat) (x : Nat) : List Nat := (List.range (per p x)).map fun k => it p k x
theorem cyc_len : (cyc p x).length = per p x := by unfold cyc; simp
theorem Pm.mem_cyc (h : Pm n p) (hx : x < n) : y ∈ cyc p x ↔ ∃ k, it p k x = y := by
  unfold cyc
  rw [List.mem_map]
  constructor
  · rintro ⟨k, _, e⟩; exact ⟨k, e⟩
  · rintro ⟨k, e⟩
    exact ⟨k % per p x, List.mem_range.mpr (Nat.mod_lt _ per_pos), by rw [h.it_mod hx]; exact e⟩
theorem Pm.cyc_nd (h : Pm n p) (hx : x < n) : (cyc p x).Nodup := by
  unfold cyc
  rw [List.nodup_iff_pairwise_ne, List.pairwise_iff_getElem]
  intro i j hi hj hij e
  simp at hi hj e
  have := h.it_eq hx hi hj e
  omega
theorem Pm.cyc_lt (h : Pm n p) (hx : x < n) (hy : y ∈ cyc p x) : y < n := by
  obtain ⟨k, rfl⟩ := (h.mem_cyc hx).mp hy
  exact h.it_lt hx k
theorem Pm.self_cyc (h : Pm n p) (hx : x < n) : x ∈ cyc p x := (h.mem_cyc hx).mpr ⟨0, rfl⟩
/-- to go on, then come back -/
theorem Pm.undo (h : Pm n p) (hx : x < n) (k : Nat) : ∃ j, it p j (it p k x) = x := by
  refine ⟨per p x - k % per p x, ?_⟩
  have e : it p k x = it p (k % per p x) x := (h.it_mod hx k).symm
  have hm := Nat.mod_lt k (per_pos (p := p) (x := x))
  rw [e, ← it_add, show per p x - k % per p x + k % per p x = per p x by omega]
  exact (h.per_spec hx).1
theorem Pm.cyc_symm (h : Pm n p) (hx : x < n) (hy : y < n) (e : y ∈ cyc p x) : x ∈ cyc p y := by
  obtain ⟨k, rfl⟩ := (h.mem_cyc hx).mp e
  exact (h.mem_cyc hy).mpr (h.undo hx k)
theorem Pm.cyc_trans (h : Pm n p) {z : Nat} (hx : x < n) (hy : y < n) (e : y ∈ cyc p x) (e2 : z ∈ cyc p y) : z ∈ cyc p x := by
  obtain ⟨k, rfl⟩ := (h.mem_cyc hx).mp e
  obtain ⟨j, rfl⟩ := (h.mem_cyc hy).mp e2
  exact (h.mem_cyc hx).mpr ⟨j + k, it_add j k⟩
/-- the least of its cycle -/
def mn (p : List Nat) (x : Nat) : Bool := (cyc p x).all fun y => decide (x ≤ y)
theorem mn_iff : mn p x = true ↔ ∀ y ∈ cyc p x, x ≤ y := by
  unfold mn
  rw [List.all_eq_true]
  simp
theorem Pm.mn_unique (h : Pm n p) {z : Nat} (hx : x < n) (hy : y < n) (hz : z < n) (mx : mn p x = true) (my : mn p y = true) (e : z ∈ cyc p x) (e2 : z ∈ cyc p y) : x = y := by
  have a := mn_iff.mp mx y (h.cyc_trans hx hz e (h.cyc_symm hy hz e2))
  have b := mn_iff.mp my x (h.cyc_trans hy hz e2 (h.cyc_symm hx hz e))
  omega
theorem exists_least : ∀ {l : List Nat}, l ≠ [] → ∃ m ∈ l, ∀ y ∈ l, m ≤ y
  | [], h => absurd rfl h
  | [x], _ => ⟨x, List.mem_cons_self, fun y hy => by simp at hy; omega⟩
  | x :: z :: r, _ => by
    obtain ⟨m, hm, h⟩ := exists_least (l := z :: r) (by simp)
    by_cases c : x ≤ m
    · refine ⟨x, List.mem_cons_self, fun y hy => ?_⟩
      rcases List.mem_cons.mp hy with e | e
      · omega
      · have := h y e; omega
    · refine ⟨m, List.mem_cons_of_mem _ hm, fun y hy => ?_⟩
      rcases List.mem_cons.mp hy with e | e
      · omega
      · exact h y e
theorem Pm.has_mn (h : Pm n p) (hx : x < n) : ∃ m, m < n ∧ mn p m = true ∧ x ∈ cyc p m := by
  obtain ⟨m, hm, hl⟩ := exists_least (l := cyc p x) (List.ne_nil_of_mem (h.self_cyc hx))
  have hmn := h.cyc_lt hx hm
  refine ⟨m, hmn, mn_iff.mpr fun y hy => hl y (h.cyc_trans hx hmn hm hy), h.cyc_symm hx hmn hm⟩
def rows (p : List Nat) : List (List Nat) := ((List.range p.length).filter (mn p)).map (cyc p)
theorem Pm.rows_mem (h : Pm n p) {r : List Nat} (hr : r ∈ rows p) : ∃ x, x < n ∧ mn p x = true ∧ r = cyc p x := by
  unfold rows at hr
  obtain ⟨x, hx, rfl⟩ := List.mem_map.mp hr
  rw [List.mem_filter, List.mem_range, h.len] at hx
  exact ⟨x, hx.1, hx.2, rfl⟩
end
end Mi

namespace Mi
/-! ## sums -/
def sm : Nat → (Nat → Nat) → Nat
  | 0, _ => 0
  | n + 1, f => sm n f + f n
theorem sm_congr {f g : Nat → Nat} : ∀ {n : Nat}, (∀ x, x < n → f x = g x) → sm n f = sm n g
  | 0, _ => rfl
  | n + 1, h => by rw [sm, sm, sm_congr fun x hx => h x (by omega), h n (by omega)]
theorem sm_add {f g : Nat → Nat} : ∀ {n : Nat}, sm n (fun x => f x + g x) = sm n f + sm n g
  | 0 => rfl
  | n + 1 => by rw [sm, sm, sm, sm_add]; omega
theorem sm_zero : ∀ {n : Nat}, sm n (fun _ => 0) = 0
  | 0 => rfl
  | n + 1 => by rw [sm, sm_zero]
theorem sm_pt {b : Nat} {f : Nat → Nat} : ∀ {n : Nat}, b < n → sm n f = sm n (fun x => if x = b then 0 else f x) + f b
  | 0, h => by omega
  | n + 1, h => by
    rw [sm, sm]
    by_cases e : n = b
    · subst e
      rw [if_pos rfl, sm_congr (f := f) (g := fun x => if x = n then 0 else f x) fun x hx => by rw [if_neg (by omega)]]; omega
    · rw [if_neg e, sm_pt (b := b) (f := f) (n := n) (by omega)]; omega
theorem sm_cut {b : Nat} {f : Nat → Nat} : ∀ {n : Nat}, b ≤ n → sm n (fun x => if x < b then f x else 0) = sm b f
  | 0, h => by have : b = 0 := by omega
               subst this; rfl
  | n + 1, h => by
    by_cases e : b = n + 1
    · subst e; exact sm_congr fun x hx => if_pos hx
    · rw [sm, if_neg (by omega), sm_cut (by omega)]; omega
theorem sm_filter {P : Nat → Bool} : ∀ {n : Nat}, ((List.range n).filter P).length = sm n fun x => if P x then 1 else 0
  | 0 => rfl
  | n + 1 => by
    rw [List.range_succ, List.filter_append, List.length_append, sm_filter, sm]
    congr 1
    rw [List.filter_cons, List.filter_nil]
    cases P n <;> rfl
/-! ## the parity -/
/-- how many before x are greater -/
def tc (p : List Nat) (x : Nat) : Nat := sm x fun y => if at_ p x < at_ p y then 1 else 0
def turned (n : Nat) (p : List Nat) : Nat := sm n (tc p)
section
variable {n : Nat} {p : List Nat} {x y : Nat}
theorem Pm.mn_it (h : Pm n p) (hx : x < n) : mn p x = true ↔ ∀ k, x ≤ it p k x := by
  rw [mn_iff]
  constructor
  · exact fun a k => a _ ((h.mem_cyc hx).mpr ⟨k, rfl⟩)
  · intro a y hy
    obtain ⟨k, rfl⟩ := (h.mem_cyc hx).mp hy
    exact a k
/-- the last point cut out of its cycle -/
def cutP (n : Nat) (p : List Nat) : List Nat := (List.range n).map fun x => if at_ p x = n then at_ p n else at_ p x
theorem at_cut (hx : x < n) : at_ (cutP n p) x = if at_ p x = n then at_ p n else at_ p x := by
  unfold cutP
  rw [at_map (f := fun x => if at_ p x = n then at_ p n else at_ p x) (by simpa using hx), at_range hx]
theorem cut_pm (h : Pm (n + 1) p) : Pm n (cutP n p) := by
  have ne : ∀ x, x < n → at_ p x = n → at_ p n ≠ n := fun x hx e e2 => by
    have := h.inj (x := x) (y := n) (by omega) (by omega) (by rw [e, e2]); omega
  refine Pm.of_at (by unfold cutP; simp) (fun x hx => ?_) (fun x y hx hy e => ?_)
  · rw [at_cut hx]
    by_cases c : at_ p x = n
    · rw [if_pos c]
      have := h.at_lt (x := n) (by omega)
      have := ne x hx c; omega
    · rw [if_neg c]
      have := h.at_lt (x := x) (by omega); omega
  · rw [at_cut hx, at_cut hy] at e
    by_cases c : at_ p x = n
    · rw [if_pos c] at e
      by_cases d : at_ p y = n
      · exact h.inj (by omega) (by omega) (by rw [c, d])
      · rw [if_neg d] at e
        have := h.inj (x := n) (y := y) (by omega) (by omega) e; omega
    · rw [if_neg c] at e
      by_cases d : at_ p y = n
      · rw [if_pos d] at e
        have := h.inj (x := x) (y := n) (by omega) (by omega) e; omega
      · rw [if_neg d] at e
        exact h.inj (by omega) (by omega) e
theorem cut_mn (h : Pm (n + 1) p) (hx : x < n) : mn p x = mn (cutP n p) x := by
  have hc := cut_pm h
  have A : ∀ k, ∃ j, it (cutP n p) k x = it p j x := by
    intro k
    induction k with
    | zero => exact ⟨0, rfl⟩
    | succ k ih =>
      obtain ⟨j, e⟩ := ih
      have hz := hc.it_lt hx k
      show ∃ j, at_ (cutP n p) (it (cutP n p) k x) = _
      rw [at_cut hz]
      by_cases c : at_ p (it (cutP n p) k x) = n
      · rw [if_pos c]
        refine ⟨j + 2, ?_⟩
        show at_ p n = at_ p (at_ p (it p j x))
        rw [← e, c]
      · rw [if_neg c]
        exact ⟨j + 1, by rw [e]; rfl⟩
  have B : ∀ k, (∃ j, it p k x = it (cutP n p) j x) ∨ (it p k x = n ∧ ∃ j, at_ p (it (cutP n p) j x) = n) := by
    intro k
    induction k with
    | zero => exact .inl ⟨0, rfl⟩
    | succ k ih =>
      rcases ih with ⟨j, e⟩ | ⟨e, j, q⟩
      · show (∃ i, at_ p (it p k x) = _) ∨ (at_ p (it p k x) = n ∧ _)
        rw [e]
        by_cases c : at_ p (it (cutP n p) j x) = n
        · exact .inr ⟨c, j, c⟩
        · refine .inl ⟨j + 1, ?_⟩
          show _ = at_ (cutP n p) (it (cutP n p) j x)
          rw [at_cut (hc.it_lt hx j), if_neg c]
      · refine .inl ⟨j + 1, ?_⟩
        show at_ p (it p k x) = at_ (cutP n p) (it (cutP n p) j x)
        rw [at_cut (hc.it_lt hx j), if_pos q, e]
  rw [Bool.eq_iff_iff, h.mn_it (by omega), hc.mn_it hx]
  constructor
  · intro a k
    obtain ⟨j, e⟩ := A k
    rw [e]; exact a j
  · intro a k
    rcases B k with ⟨j, e⟩ | ⟨e, _⟩
    · rw [e]; exact a j
    · rw [e]; omega
theorem last_mn (h : Pm (n + 1) p) : mn p n = decide (at_ p n = n) := by
  rw [Bool.eq_iff_iff, h.mn_it (by omega), decide_eq_true_eq]
  constructor
  · intro a
    have := a 1
    have e : it p 1 n = at_ p n := rfl
    rw [e] at this
    have := h.at_lt (x := n) (by omega); omega
  · intro e k
    have : ∀ k, it p k n = n := by
      intro k
      induction k with
      | zero => rfl
      | succ k ih => show at_ p (it p k n) = n; rw [ih, e]
    rw [this]; exact Nat.le_refl _
theorem cut_turned (h : Pm (n + 1) p) : (turned (n + 1) p) % 2 = (turned n (cutP n p) + if at_ p n = n then 0 else 1) % 2 := by
  by_cases c : at_ p n = n
  · rw [if_pos c, Nat.add_zero]
    have same : ∀ x, x < n → at_ (cutP n p) x = at_ p x := fun x hx => by
      rw [at_cut hx, if_neg]
      intro e
      have := h.inj (x := x) (y := n) (by omega) (by omega) (by rw [e, c]); omega
    have e1 : tc p n = 0 := by
      unfold tc
      rw [sm_congr (g := fun _ => 0), sm_zero]
      intro y hy
      rw [c, if_neg]
      have := h.at_lt (x := y) (by omega); omega
    show (sm n (tc p) + tc p n) % 2 = (sm n (tc (cutP n p))) % 2
    rw [e1, Nat.add_zero]
    congr 1
    refine sm_congr fun x hx => ?_
    unfold tc
    refine sm_congr fun y hy => ?_
    rw [same x hx, same y (by omega)]
  · rw [if_neg c]
    obtain ⟨b, hb, eb⟩ := h.surj (y := n) (by omega)
    have hbn : b < n := by
      have : b ≠ n := fun z => c (by rw [← z, eb, z])
      omega
    have ha : at_ p n < n := by have := h.at_lt (x := n) (by omega); omega
    have off : ∀ x, x < n → x ≠ b → at_ (cutP n p) x = at_ p x := fun x hx hne => by
      rw [at_cut hx, if_neg]
      intro e
      exact hne (h.inj (by omega) (by omega) (by rw [e, eb]))
    have on : at_ (cutP n p) b = at_ p n := by rw [at_cut hbn, if_pos eb]
    have lt_n : ∀ x, x < n → x ≠ b → at_ p x < n := fun x hx hne => by
      have h1 := h.at_lt (x := x) (by omega)
      have : at_ p x ≠ n := fun e => hne (h.inj (by omega) (by omega) (by rw [e, eb]))
      omega
    have ne_a : ∀ x, x < n → at_ p x ≠ at_ p n := fun x hx e => by
      have := h.inj (x := x) (y := n) (by omega) (by omega) e; omega
    let g : Nat → Nat := fun x => if b < x then (if at_ p n < at_ p x then 1 else 0) else 0
    have gdef : ∀ x, g x = if b < x then (if at_ p n < at_ p x then 1 else 0) else 0 := fun _ => rfl
    have c1 : ∀ x, x < n → x ≠ b → tc p x = tc (cutP n p) x + g x := fun x hx hne => by
      unfold tc
      rw [gdef, off x hx hne]
      by_cases hxb : b < x
      · rw [if_pos hxb, sm_pt hxb (f := fun y => if at_ p x < at_ p y then 1 else 0), sm_pt hxb (f := fun y => if at_ p x < at_ (cutP n p) y then 1 else 0)]
        have e1 : sm x (fun y => if y = b then 0 else if at_ p x < at_ p y then 1 else 0) = sm x (fun y => if y = b then 0 else if at_ p x < at_ (cutP n p) y then 1 else 0) := sm_congr fun y hy => by
          by_cases z : y = b
          · rw [if_pos z, if_pos z]
          · rw [if_neg z, if_neg z, off y (by omega) z]
        rw [e1, eb, on, if_pos (lt_n x hx hne)]
        have := ne_a x hx
        by_cases q : at_ p x < at_ p n
        · rw [if_pos q, if_neg (by omega)]
        · rw [if_neg q, if_pos (by omega)]
      · rw [if_neg hxb, Nat.add_zero]
        refine sm_congr fun y hy => ?_
        rw [off y (by omega) (by omega)]
    have c2 : tc p b = 0 := by
      unfold tc
      rw [sm_congr (g := fun _ => 0), sm_zero]
      intro y hy
      rw [eb, if_neg]
      have := lt_n y (by omega) (by omega); omega
    have c3 : tc p n = tc (cutP n p) b + 1 + sm n g := by
      have e1 : tc (cutP n p) b = sm n fun y => if y < b then (if at_ p n < at_ p y then 1 else 0) else 0 := by
        rw [sm_cut (by omega)]
        unfold tc
        rw [on]
        exact sm_congr fun y hy => by rw [off y (by omega) (by omega)]
      have e2 : (1 : Nat) = sm n fun y => if y = b then 1 else 0 := by
        rw [sm_pt hbn, if_pos rfl, sm_congr (g := fun _ => 0), sm_zero]
        intro y hy
        by_cases z : y = b
        · rw [if_pos z]
        · rw [if_neg z, if_neg z]
      have e3 : sm n (fun y => if at_ p n < at_ p y then 1 else 0) = sm n (fun y => (if y < b then (if at_ p n < at_ p y then 1 else 0) else 0) + (if y = b then 1 else 0) + g y) := by
        refine sm_congr fun y hy => ?_
        rw [gdef]
        by_cases z : y = b
        · subst z
          rw [eb, if_pos ha, if_neg (Nat.lt_irrefl _), if_pos rfl]
        · by_cases w : y < b
          · rw [if_pos w, if_neg z, if_neg (show ¬ b < y by omega)]; omega
          · rw [if_neg w, if_neg z, if_pos (show b < y by omega)]
            omega
      rw [sm_add, sm_add, ← e1, ← e2] at e3
      exact e3
    have c4 : sm n (tc p) + tc (cutP n p) b = sm n (tc (cutP n p)) + sm n g := by
      rw [sm_pt hbn (f := tc p), sm_pt hbn (f := tc (cutP n p)), sm_pt hbn (f := g), c2, gdef b, if_neg (Nat.lt_irrefl _)]
      have : sm n (fun x => if x = b then 0 else tc p x) = sm n (fun x => if x = b then 0 else tc (cutP n p) x) + sm n (fun x => if x = b then 0 else g x) := by
        rw [← sm_add]
        refine sm_congr fun x hx => ?_
        by_cases z : x = b
        · simp only [if_pos z]
        · simp only [if_neg z]
          exact c1 x hx z
      rw [this]; omega
    show (sm n (tc p) + tc p n) % 2 = (sm n (tc (cutP n p)) + 1) % 2
    rw [c3]
    omega
theorem parity : ∀ {n : Nat} {p : List Nat}, Pm n p → (turned n p + n + ((List.range n).filter (mn p)).length) % 2 = 0
  | 0, _, _ => rfl
  | n + 1, p, h => by
    have ih := parity (cut_pm h)
    have e1 := cut_turned h
    have e2 : ((List.range (n + 1)).filter (mn p)).length = ((List.range n).filter (mn (cutP n p))).length + if at_ p n = n then 1 else 0 := by
      rw [sm_filter, sm_filter, sm, last_mn h]
      congr 1
      · exact sm_congr fun x hx => by rw [cut_mn h hx]
      · by_cases c : at_ p n = n
        · simp [c]
        · simp [c]
    rw [e2]
    by_cases c : at_ p n = n
    · rw [if_pos c] at e1 ⊢; omega
    · rw [if_neg c] at e1 ⊢; omega
/-! ## the lengths of the cycles -/
theorem Pm.rows_sum (h : Pm n p) : ((rows p).map List.length).sum = n := by
  rw [← List.length_flatten]
  have nd : (rows p).flatten.Nodup := by
    rw [List.nodup_iff_pairwise_ne, List.pairwise_flatten]
    constructor
    · intro r hr
      obtain ⟨x, hx, _, rfl⟩ := h.rows_mem hr
      exact List.nodup_iff_pairwise_ne.mp (h.cyc_nd hx)
    · unfold rows
      rw [List.pairwise_map]
      have hp : List.Pairwise (fun a b => a ≠ b) ((List.range p.length).filter (mn p)) := (List.nodup_iff_pairwise_ne.mp List.nodup_range).filter _
      refine hp.imp_of_mem fun {a b} ha hb hab x hx y hy e => ?_
      rw [List.mem_filter, List.mem_range, h.len] at ha hb
      subst e
      exact hab (h.mn_unique ha.1 hb.1 (h.cyc_lt ha.1 hx) ha.2 hb.2 hx hy)
  have le : (rows p).flatten.length ≤ n := by
    have := ph (m := List.range n) nd fun x hx => by
      obtain ⟨r, hr, hxr⟩ := List.mem_flatten.mp hx
      obtain ⟨z, hz, _, rfl⟩ := h.rows_mem hr
      exact List.mem_range.mpr (h.cyc_lt hz hxr)
    simpa using this
  have ge : n ≤ (rows p).flatten.length := by
    have := ph (l := List.range n) (m := (rows p).flatten) List.nodup_range fun x hx => by
      obtain ⟨m, hm, hmn, e⟩ := h.has_mn (List.mem_range.mp hx)
      refine List.mem_flatten.mpr ⟨cyc p m, ?_, e⟩
      unfold rows
      exact List.mem_map.mpr ⟨m, by rw [List.mem_filter, List.mem_range, h.len]; exact ⟨hm, hmn⟩, rfl⟩
    simpa using this
  omega
end
end Mi

namespace Mi
open PySem L2
def topS (i : Nat) : Stmt := PySem.Challenge.pw_symhouse_k01_products_and_cycles.main.body.getD i (.Pass ⟨0, 0, 0, 0⟩)
abbrev s_is_integer : Stmt := topS 2
def c_is_integer : CSs := (.cons (.ret (.andv (.isi .int (.var 0)) (.notv (.isi .bool (.var 0))))) .nil)
abbrev s_is_perm : Stmt := topS 3
def c_is_perm : CSs := (.cons (.ifs (.or_ (.not_ (.val (.isi .tuple (.var 0)))) (.not_ (.chain .LtE .LtE (.lit (.int 1)) (.bi .len (.cons (.var 0) .nil)) (.lit (.int (16)))))) (.cons (.ret (.lit (.bl false))) .nil) .nil) (.cons (.ifs (.val (.bi .any (.cons (.lc [1] (.nm 1) (.seq (.var 0)) .tru (.notv (.call "is_integer" (.cons (.var 1) .nil)))) .nil))) (.cons (.ret (.lit (.bl false))) .nil) .nil) (.cons (.ret (.cmp .Eq (.bi .sorted (.cons (.var 0) .nil)) (.lrg (.cons (.bi .len (.cons (.var 0) .nil)) .nil)))) .nil)))
abbrev s_identity : Stmt := topS 4
def c_identity : CSs := (.cons (.ret (.trg (.cons (.var 0) .nil))) .nil)
abbrev s_times : Stmt := topS 5
def c_times : CSs := (.cons (.ret (.bi .tuple (.cons (.lc [2] (.nm 2) (.seq (.var 0)) .tru (.ix (.var 1) (.var 2))) .nil))) .nil)
abbrev s_inverse : Stmt := topS 6
def c_inverse : CSs := (.cons (.asg (.nm 1) (.bin .Mult (.lst (.cons (.lit (.int 0)) .nil)) (.bi .len (.cons (.var 0) .nil)))) (.cons (.for_ (.tp [2, 3]) (.enum (.var 0)) (.cons (.asg (.sub (.var 1) (.var 3)) (.var 2)) .nil)) (.cons (.ret (.bi .tuple (.cons (.var 1) .nil))) .nil)))
abbrev s_cycles : Stmt := topS 7
def c_cycles : CSs := (.cons (.asg (.nm 1) (.lst .nil)) (.cons (.asg (.nm 2) .dct0) (.cons (.for_ (.nm 3) (.rng (.cons (.bi .len (.cons (.var 0) .nil)) .nil)) (.cons (.asg (.nm 4) (.lst .nil)) (.cons (.asg (.nm 5) (.var 3)) (.cons (.while_ (.cmp .NotIn (.var 5) (.var 2)) (.cons (.asg (.sub (.var 2) (.var 5)) (.lit (.bl true))) (.cons (.ex (.meth .append (.var 4) (.cons (.var 5) .nil))) (.cons (.asg (.nm 5) (.ix (.var 0) (.var 5))) .nil)))) (.cons (.ifs (.cmp .Gt (.bi .len (.cons (.var 4) .nil)) (.lit (.int 1))) (.cons (.ex (.meth .append (.var 1) (.cons (.bi .tuple (.cons (.var 4) .nil)) .nil))) .nil) .nil) .nil))))) (.cons (.ret (.bi .tuple (.cons (.var 1) .nil))) .nil))))
abbrev s_kind : Stmt := topS 8
def c_kind : CSs := (.cons (.asg (.nm 1) (.lc [3] (.nm 3) (.seq (.call "cycles" (.cons (.var 0) .nil))) .tru (.bi .len (.cons (.var 3) .nil)))) (.cons (.asg (.nm 2) (.bin .Sub (.bi .len (.cons (.var 0) .nil)) (.bi .sum (.cons (.var 1) .nil)))) (.cons (.ret (.bi .tuple (.cons (.bin .Add (.bin .Mult (.lst (.cons (.lit (.int 1)) .nil)) (.var 2)) (.bi .sorted (.cons (.var 1) .nil))) .nil))) .nil)))
abbrev s_power : Stmt := topS 9
def c_power : CSs := (.cons (.asg (.nm 2) (.bi .list (.cons (.var 0) .nil))) (.cons (.for_ (.nm 3) (.seq (.call "cycles" (.cons (.var 0) .nil))) (.cons (.for_ (.tp [4, 5]) (.enum (.var 3)) (.cons (.asg (.sub (.var 2) (.var 5)) (.ix (.var 3) (.bin .Mod (.bin .Add (.var 4) (.var 1)) (.bi .len (.cons (.var 3) .nil))))) .nil)) .nil)) (.cons (.ret (.bi .tuple (.cons (.var 2) .nil))) .nil)))
abbrev s_greatest_divisor : Stmt := topS 10
def c_greatest_divisor : CSs := (.cons (.while_ (.cmp .Gt (.var 1) (.lit (.int 0))) (.cons (.par [0, 1] (.cons (.var 1) (.cons (.bin .Mod (.var 0) (.var 1)) .nil))) .nil)) (.cons (.ret (.var 0)) .nil))
abbrev s_order : Stmt := topS 11
def c_order : CSs := (.cons (.asg (.nm 1) (.lit (.int 1))) (.cons (.for_ (.nm 2) (.seq (.call "kind" (.cons (.var 0) .nil))) (.cons (.asg (.nm 1) (.bin .Mult (.bin .FloorDiv (.var 1) (.call "greatest_divisor" (.cons (.var 1) (.cons (.var 2) .nil)))) (.var 2))) .nil)) (.cons (.ret (.var 1)) .nil)))
abbrev s_is_even : Stmt := topS 12
def c_is_even : CSs := (.cons (.ret (.cmp .Eq (.bin .Mod (.bin .Sub (.bi .len (.cons (.var 0) .nil)) (.bi .len (.cons (.call "kind" (.cons (.var 0) .nil)) .nil))) (.lit (.int 2))) (.lit (.int 0)))) .nil)
abbrev s_moved : Stmt := topS 13
def c_moved : CSs := (.cons (.ret (.bi .tuple (.cons (.lc [1, 2] (.tp [1, 2]) (.enum (.var 0)) (.cmp .NotEq (.var 1) (.var 2)) (.var 1)) .nil))) .nil)
abbrev s_conjugate : Stmt := topS 14
def c_conjugate : CSs := (.cons (.asg (.nm 2) (.bin .Mult (.lst (.cons (.lit (.int 0)) .nil)) (.bi .len (.cons (.var 0) .nil)))) (.cons (.for_ (.tp [3, 4]) (.enum (.var 0)) (.cons (.asg (.sub (.var 2) (.ix (.var 1) (.var 3))) (.ix (.var 1) (.var 4))) .nil)) (.cons (.ret (.bi .tuple (.cons (.var 2) .nil))) .nil)))
abbrev s_commutator : Stmt := topS 15
def c_commutator : CSs := (.cons (.ret (.call "times" (.cons (.call "inverse" (.cons (.call "times" (.cons (.var 1) (.cons (.var 0) .nil))) .nil)) (.cons (.call "times" (.cons (.var 0) (.cons (.var 1) .nil))) .nil)))) .nil)
abbrev s__law_inverse : Stmt := topS 17
def c__law_inverse : CSs := (.cons (.asg (.nm 1) (.bin .Mult (.lst (.cons (.lit (.int 0)) .nil)) (.bi .len (.cons (.var 0) .nil)))) (.cons (.for_ (.nm 2) (.rng (.cons (.bi .len (.cons (.var 0) .nil)) .nil)) (.cons (.asg (.sub (.var 1) (.ix (.var 0) (.var 2))) (.var 2)) .nil)) (.cons (.ret (.bi .tuple (.cons (.var 1) .nil))) .nil)))
abbrev s__law_take : Stmt := topS 18
def c__law_take : CSs := (.cons (.ifs (.and_ (.cmp .Eq (.ix (.var 0) (.lit (.int 2))) (.lit (.int 0))) (.cmp .Lt (.ix (.var 0) (.lit (.int 1))) (.bi .len (.cons (.ix (.var 0) (.lit (.int 0))) .nil)))) (.cons (.asg (.sub (.var 0) (.lit (.int 2))) (.bi .abs (.cons (.bi .int (.cons (.ix (.ix (.var 0) (.lit (.int 0))) (.ix (.var 0) (.lit (.int 1)))) .nil)) .nil))) (.cons (.asg (.sub (.var 0) (.lit (.int 1))) (.bin .Add (.ix (.var 0) (.lit (.int 1))) (.lit (.int 1)))) (.cons (.ifs (.cmp .Lt (.ix (.var 0) (.lit (.int 2))) (.bin .Pow (.lit (.int 10)) (.lit (.int 18)))) (.cons (.asg (.nm 3) (.bi .int (.cons (.ix (.var 0) (.lit (.int 2))) .nil))) (.cons (.asg (.sub (.var 0) (.lit (.int 2))) (.lit (.int 0))) (.cons (.ret (.bin .Mod (.var 3) (.var 1))) .nil))) .nil) .nil))) .nil) (.cons (.ifs (.cmp .Gt (.ix (.var 0) (.lit (.int 2))) (.lit (.int 0))) (.cons (.asg (.nm 2) (.bin .Mod (.bi .int (.cons (.ix (.var 0) (.lit (.int 2))) .nil)) (.var 1))) (.cons (.asg (.sub (.var 0) (.lit (.int 2))) (.bin .FloorDiv (.bi .int (.cons (.ix (.var 0) (.lit (.int 2))) .nil)) (.var 1))) (.cons (.ret (.var 2)) .nil))) .nil) (.cons (.asg (.sub (.var 0) (.lit (.int 3))) (.bin .Mod (.bi .int (.cons (.bin .Add (.bin .Mult (.ix (.var 0) (.lit (.int 3))) (.lit (.int 69621))) (.lit (.int 7))) .nil)) (.lit (.int 2147483647)))) (.cons (.ret (.bin .Mod (.bi .int (.cons (.bin .FloorDiv (.ix (.var 0) (.lit (.int 3))) (.lit (.int 5))) .nil)) (.var 1))) .nil))))
abbrev s__law_begin : Stmt := topS 19
def c__law_begin : CSs := (.cons (.asg (.nm 1) (.lit (.int 5))) (.cons (.for_ (.nm 2) (.seq (.var 0)) (.cons (.asg (.nm 1) (.bin .Mod (.bin .Add (.bin .Add (.bin .Mult (.var 1) (.lit (.int 48271))) (.bin .Mod (.bi .int (.cons (.var 2) .nil)) (.lit (.int 2147483629)))) (.lit (.int 11))) (.lit (.int 2147483647)))) .nil)) (.cons (.ret (.lst (.cons (.bi .list (.cons (.var 0) .nil)) (.cons (.lit (.int 0)) (.cons (.lit (.int 0)) (.cons (.var 1) .nil)))))) .nil)))
abbrev s__law_shuffled : Stmt := topS 20
def c__law_shuffled : CSs := (.cons (.asg (.nm 2) (.lrg (.cons (.var 1) .nil))) (.cons (.ret (.bi .tuple (.cons (.lc [3] (.nm 3) (.rng (.cons (.var 1) .nil)) .tru (.meth .pop (.var 2) (.cons (.call "_law_take" (.cons (.var 0) (.cons (.bi .len (.cons (.var 2) .nil)) .nil))) .nil))) .nil))) .nil))
abbrev s__law_times : Stmt := topS 21
def c__law_times : CSs := (.cons (.ret (.bi .tuple (.cons (.lc [2] (.nm 2) (.seq (.var 0)) .tru (.ix (.var 1) (.var 2))) .nil))) .nil)
abbrev s__law_cycle : Stmt := topS 22
def c__law_cycle : CSs := (.cons (.asg (.nm 2) (.lrg (.cons (.var 0) .nil))) (.cons (.for_ (.nm 3) (.rng (.cons (.bi .len (.cons (.var 1) .nil)) .nil)) (.cons (.asg (.sub (.var 2) (.ix (.var 1) (.var 3))) (.ix (.var 1) (.bin .Mod (.bin .Add (.var 3) (.lit (.int 1))) (.bi .len (.cons (.var 1) .nil))))) .nil)) (.cons (.ret (.bi .tuple (.cons (.var 2) .nil))) .nil)))
abbrev s__law_conj : Stmt := topS 23
def c__law_conj : CSs := (.cons (.asg (.nm 2) (.bin .Mult (.lst (.cons (.lit (.int 0)) .nil)) (.bi .len (.cons (.var 0) .nil)))) (.cons (.for_ (.nm 3) (.rng (.cons (.bi .len (.cons (.var 0) .nil)) .nil)) (.cons (.asg (.sub (.var 2) (.ix (.var 1) (.var 3))) (.ix (.var 1) (.ix (.var 0) (.var 3)))) .nil)) (.cons (.ret (.bi .tuple (.cons (.var 2) .nil))) .nil)))
abbrev s__law_comm : Stmt := topS 24
def c__law_comm : CSs := (.cons (.ret (.call "_law_times" (.cons (.call "_law_times" (.cons (.call "_law_inverse" (.cons (.var 0) .nil)) (.cons (.call "_law_inverse" (.cons (.var 1) .nil)) .nil))) (.cons (.call "_law_times" (.cons (.var 0) (.cons (.var 1) .nil))) .nil)))) .nil)
abbrev s__law_walk : Stmt := topS 25
def c__law_walk : CSs := (.cons (.asg (.nm 3) (.ife (.cmp .GtE (.var 2) (.lit (.int 0))) (.var 0) (.call "_law_inverse" (.cons (.var 0) .nil)))) (.cons (.asg (.nm 4) (.lit (.int 1))) (.cons (.asg (.nm 5) (.ix (.var 3) (.var 1))) (.cons (.while_ (.cmp .NotEq (.var 5) (.var 1)) (.cons (.asg (.nm 5) (.ix (.var 3) (.var 5))) (.cons (.asg (.nm 4) (.bin .Add (.var 4) (.lit (.int 1)))) .nil))) (.cons (.for_ (.nm 6) (.rng (.cons (.bin .Mod (.bi .int (.cons (.bi .abs (.cons (.var 2) .nil)) .nil)) (.var 4)) .nil)) (.cons (.asg (.nm 1) (.ix (.var 3) (.var 1))) .nil)) (.cons (.ret (.var 1)) .nil))))))
abbrev s__law_rows : Stmt := topS 26
def c__law_rows : CSs := (.cons (.asg (.nm 1) (.lst .nil)) (.cons (.for_ (.nm 2) (.rng (.cons (.bi .len (.cons (.var 0) .nil)) .nil)) (.cons (.asg (.nm 3) (.lst (.cons (.var 2) .nil))) (.cons (.while_ (.cmp .NotEq (.ix (.var 0) (.ix (.var 3) (.neg (.lit (.int 1))))) (.var 2)) (.cons (.ex (.meth .append (.var 3) (.cons (.ix (.var 0) (.ix (.var 3) (.neg (.lit (.int 1))))) .nil))) .nil)) (.cons (.ifs (.cmp .Eq (.bi .min (.cons (.var 3) .nil)) (.var 2)) (.cons (.ex (.meth .append (.var 1) (.cons (.bi .tuple (.cons (.var 3) .nil)) .nil))) .nil) .nil) .nil)))) (.cons (.ret (.var 1)) .nil)))
abbrev s__law_right : Stmt := topS 27
def c__law_right : CSs := (.cons (.asg (.nm 1) (.call "_law_rows" (.cons (.var 0) .nil))) (.cons (.ifs (.cmp .NotEq (.call "cycles" (.cons (.var 0) .nil)) (.bi .tuple (.cons (.lc [6] (.nm 6) (.seq (.var 1)) (.cmp .Gt (.bi .len (.cons (.var 6) .nil)) (.lit (.int 1))) (.var 6)) .nil))) (.cons (.ret (.lit (.bl false))) .nil) .nil) (.cons (.ifs (.or_ (.cmp .NotEq (.call "kind" (.cons (.var 0) .nil)) (.bi .tuple (.cons (.bi .sorted (.cons (.lc [6] (.nm 6) (.seq (.var 1)) .tru (.bi .len (.cons (.var 6) .nil))) .nil)) .nil))) (.cmp .NotEq (.call "moved" (.cons (.var 0) .nil)) (.bi .tuple (.cons (.lc [3] (.nm 3) (.rng (.cons (.bi .len (.cons (.var 0) .nil)) .nil)) (.cmp .NotEq (.ix (.var 0) (.var 3)) (.var 3)) (.var 3)) .nil)))) (.cons (.ret (.lit (.bl false))) .nil) .nil) (.cons (.asg (.nm 2) (.lit (.int 0))) (.cons (.for_ (.nm 3) (.rng (.cons (.bi .len (.cons (.var 0) .nil)) .nil)) (.cons (.asg (.nm 2) (.bin .Add (.var 2) (.bi .len (.cons (.lc [7] (.nm 7) (.rng (.cons (.var 3) .nil)) (.cmp .Gt (.ix (.var 0) (.var 7)) (.ix (.var 0) (.var 3))) (.var 7)) .nil)))) .nil)) (.cons (.ifs (.cmp .NotEq (.call "is_even" (.cons (.var 0) .nil)) (.cmp .Eq (.bin .Mod (.var 2) (.lit (.int 2))) (.lit (.int 0)))) (.cons (.ret (.lit (.bl false))) .nil) .nil) (.cons (.asg (.nm 4) (.call "order" (.cons (.var 0) .nil))) (.cons (.ifs (.or_ (.val (.isi .bool (.var 4))) (.or_ (.not_ (.val (.isi .int (.var 4)))) (.or_ (.cmp .Lt (.var 4) (.lit (.int 1))) (.val (.bi .any (.cons (.lc [6] (.nm 6) (.seq (.var 1)) .tru (.cmp .NotEq (.bin .Mod (.var 4) (.bi .len (.cons (.var 6) .nil))) (.lit (.int 0)))) .nil)))))) (.cons (.ret (.lit (.bl false))) .nil) .nil) (.cons (.ret (.bi .all (.cons (.lc [5] (.nm 5) (.seq (.lst (.cons (.lit (.int 2)) (.cons (.lit (.int 3)) (.cons (.lit (.int 5)) (.cons (.lit (.int 7)) (.cons (.lit (.int 11)) (.cons (.lit (.int 13)) .nil)))))))) (.cmp .Eq (.bin .Mod (.var 4) (.var 5)) (.lit (.int 0))) (.bi .any (.cons (.lc [6] (.nm 6) (.seq (.var 1)) .tru (.cmp .NotEq (.bin .Mod (.bin .FloorDiv (.var 4) (.var 5)) (.bi .len (.cons (.var 6) .nil))) (.lit (.int 0)))) .nil))) .nil))) .nil)))))))))
abbrev s__law_wrong : Stmt := topS 28
def c__law_wrong : CSs := (.cons (.asg (.nm 2) (.bi .list (.cons (.var 1) .nil))) (.cons (.asg (.nm 3) (.call "_law_take" (.cons (.var 0) (.cons (.bi .len (.cons (.var 2) .nil)) .nil)))) (.cons (.asg (.nm 4) (.call "_law_take" (.cons (.var 0) (.cons (.lit (.int 6)) .nil)))) (.cons (.ifs (.cmp .Eq (.var 4) (.lit (.int 0))) (.cons (.ret (.var 2)) .nil) .nil) (.cons (.ifs (.cmp .Eq (.var 4) (.lit (.int 1))) (.cons (.ret (.bin .Add (.var 1) (.tup (.cons (.bin .Add (.bi .len (.cons (.var 1) .nil)) (.call "_law_take" (.cons (.var 0) (.cons (.lit (.int 2)) .nil)))) .nil)))) .nil) .nil) (.cons (.asg (.sub (.var 2) (.var 3)) (.ix (.lst (.cons (.lit .non) (.cons (.lit (.bl true)) (.cons (.bin .Sub (.bin .Sub (.lit (.int 0)) (.lit (.int 1))) (.call "_law_take" (.cons (.var 0) (.cons (.lit (.int 3)) .nil)))) (.cons (.bin .Add (.bi .len (.cons (.var 1) .nil)) (.call "_law_take" (.cons (.var 0) (.cons (.lit (.int 9)) .nil)))) (.cons (.ife (.cmp .Gt (.bi .len (.cons (.var 1) .nil)) (.lit (.int 1))) (.ix (.var 1) (.bin .Sub (.var 3) (.lit (.int 1)))) (.lit (.int 5))) (.cons (.lit (.str "0")) .nil))))))) (.var 4))) (.cons (.ret (.bi .tuple (.cons (.var 2) .nil))) .nil)))))))
abbrev s__law_known : Stmt := topS 29
def c__law_known : CSs := (.cons (.ifs (.or_ (.not_ (.val (.isi .tuple (.var 0)))) (.not_ (.chain .LtE .LtE (.lit (.int 1)) (.bi .len (.cons (.var 0) .nil)) (.lit (.int 16))))) (.cons (.ret (.lit (.bl false))) .nil) .nil) (.cons (.ifs (.val (.bi .any (.cons (.lc [1] (.nm 1) (.seq (.var 0)) .tru (.orv (.isi .bool (.var 1)) (.notv (.isi .int (.var 1))))) .nil))) (.cons (.ret (.lit (.bl false))) .nil) .nil) (.cons (.ret (.cmp .Eq (.bi .sorted (.cons (.var 0) .nil)) (.lrg (.cons (.bi .len (.cons (.var 0) .nil)) .nil)))) .nil)))
abbrev s_law : Stmt := topS 30
def c_law : CSs := (.cons (.asg (.nm 1) (.call "_law_begin" (.cons (.var 0) .nil))) (.cons (.asg (.nm 2) (.bin .Add (.lit (.int 1)) (.call "_law_take" (.cons (.var 1) (.cons (.lit (.int 16)) .nil))))) (.cons (.asg (.nm 3) (.ife (.cmp .Gt (.call "_law_take" (.cons (.var 1) (.cons (.lit (.int 3)) .nil))) (.lit (.int 0))) (.call "_law_shuffled" (.cons (.var 1) (.cons (.var 2) .nil))) (.call "_law_times" (.cons (.call "_law_cycle" (.cons (.var 2) (.cons (.slice (.call "_law_shuffled" (.cons (.var 1) (.cons (.var 2) .nil))) .no (.so (.bin .Add (.lit (.int 1)) (.call "_law_take" (.cons (.var 1) (.cons (.var 2) .nil)))))) .nil))) (.cons (.trg (.cons (.var 2) .nil)) .nil))))) (.cons (.asg (.nm 4) (.call "_law_shuffled" (.cons (.var 1) (.cons (.var 2) .nil)))) (.cons (.ifs (.or_ (.cmp .NotEq (.call "identity" (.cons (.var 2) .nil)) (.trg (.cons (.var 2) .nil))) (.or_ (.cmp .NotEq (.call "times" (.cons (.var 3) (.cons (.var 4) .nil))) (.bi .tuple (.cons (.lc [8] (.nm 8) (.rng (.cons (.var 2) .nil)) .tru (.ix (.var 4) (.ix (.var 3) (.var 8)))) .nil))) (.not_ (.val (.call "_law_right" (.cons (.var 3) .nil)))))) (.cons (.ret (.lit (.bl false))) .nil) .nil) (.cons (.asg (.nm 5) (.call "inverse" (.cons (.var 3) .nil))) (.cons (.ifs (.or_ (.not_ (.val (.isi .tuple (.var 5)))) (.or_ (.cmp .NotEq (.bi .len (.cons (.var 5) .nil)) (.var 2)) (.val (.bi .any (.cons (.lc [8] (.nm 8) (.rng (.cons (.var 2) .nil)) .tru (.cmp .NotEq (.ix (.var 5) (.ix (.var 3) (.var 8))) (.var 8))) .nil))))) (.cons (.ret (.lit (.bl false))) .nil) .nil) (.cons (.for_ (.nm 6) (.seq (.lst (.cons (.lit (.int 0)) (.cons (.lit (.int 1)) (.cons (.bin .Sub (.lit (.int 0)) (.lit (.int 1))) (.cons (.call "_law_take" (.cons (.var 1) (.cons (.lit (.int 10001)) .nil))) (.cons (.bin .Sub (.lit (.int 0)) (.call "_law_take" (.cons (.var 1) (.cons (.lit (.int 10001)) .nil)))) (.cons (.bin .Sub (.lit (.int 0)) (.call "_law_take" (.cons (.var 1) (.cons (.lit (.int 9)) .nil)))) .nil)))))))) (.cons (.ifs (.cmp .NotEq (.call "power" (.cons (.var 3) (.cons (.var 6) .nil))) (.bi .tuple (.cons (.lc [8] (.nm 8) (.rng (.cons (.var 2) .nil)) .tru (.call "_law_walk" (.cons (.var 3) (.cons (.var 8) (.cons (.var 6) .nil))))) .nil))) (.cons (.ret (.lit (.bl false))) .nil) .nil) .nil)) (.cons (.ifs (.or_ (.cmp .NotEq (.call "conjugate" (.cons (.var 3) (.cons (.var 4) .nil))) (.call "_law_conj" (.cons (.var 3) (.cons (.var 4) .nil)))) (.cmp .NotEq (.call "commutator" (.cons (.var 3) (.cons (.var 4) .nil))) (.call "_law_comm" (.cons (.var 3) (.cons (.var 4) .nil))))) (.cons (.ret (.lit (.bl false))) .nil) .nil) (.cons (.asg (.nm 7) (.call "_law_wrong" (.cons (.var 1) (.cons (.var 3) .nil)))) (.cons (.ret (.andv (.cmp .Is (.call "is_perm" (.cons (.var 3) .nil)) (.lit (.bl true))) (.andv (.cmp .Eq (.call "is_perm" (.cons (.var 7) .nil)) (.call "_law_known" (.cons (.var 7) .nil))) (.andv (.cmp .Is (.call "is_perm" (.cons (.tup .nil) .nil)) (.lit (.bl false))) (.cmp .Is (.call "is_perm" (.cons (.lit .non) .nil)) (.lit (.bl false))))))) .nil)))))))))))
def M : Md := ⟨[("is_integer", ⟨1, 1, c_is_integer⟩),
  ("is_perm", ⟨1, 2, c_is_perm⟩),
  ("identity", ⟨1, 1, c_identity⟩),
  ("times", ⟨2, 3, c_times⟩),
  ("inverse", ⟨1, 4, c_inverse⟩),
  ("cycles", ⟨1, 6, c_cycles⟩),
  ("kind", ⟨1, 4, c_kind⟩),
  ("power", ⟨2, 6, c_power⟩),
  ("greatest_divisor", ⟨2, 2, c_greatest_divisor⟩),
  ("order", ⟨1, 3, c_order⟩),
  ("is_even", ⟨1, 1, c_is_even⟩),
  ("moved", ⟨1, 3, c_moved⟩),
  ("conjugate", ⟨2, 5, c_conjugate⟩),
  ("commutator", ⟨2, 2, c_commutator⟩),
  ("_law_inverse", ⟨1, 3, c__law_inverse⟩),
  ("_law_take", ⟨2, 4, c__law_take⟩),
  ("_law_begin", ⟨1, 3, c__law_begin⟩),
  ("_law_shuffled", ⟨2, 4, c__law_shuffled⟩),
  ("_law_times", ⟨2, 3, c__law_times⟩),
  ("_law_cycle", ⟨2, 4, c__law_cycle⟩),
  ("_law_conj", ⟨2, 4, c__law_conj⟩),
  ("_law_comm", ⟨2, 2, c__law_comm⟩),
  ("_law_walk", ⟨3, 7, c__law_walk⟩),
  ("_law_rows", ⟨1, 4, c__law_rows⟩),
  ("_law_right", ⟨1, 8, c__law_right⟩),
  ("_law_wrong", ⟨2, 5, c__law_wrong⟩),
  ("_law_known", ⟨1, 2, c__law_known⟩),
  ("law", ⟨1, 9, c_law⟩)], ["len", "any", "all", "sorted", "list", "tuple", "sum", "min", "abs", "int", "bool", "isinstance", "range", "enumerate"], [("MOST_POINTS", (.int (16)))]⟩
end Mi
namespace Mi
open PySem
abbrev C (k : Nat) : Cl := callD M.T k
theorem tm_dN {p q : List Nat} : (tm p q).map dN = p.map (fun x => dN (at_ q x)) := by unfold tm; rw [List.map_map]; rfl
theorem sp_times {k : Nat} {p q : List Nat} {h : HS} (hw : WF h) (hx : ∀ x ∈ p, x < q.length) (hl : p.length ≤ LIM) : C (k + 1) "times" [P p, P q] h = .ok (P (tm p q)) h := by
  refine (call_run (d := ⟨2, 3, c_times⟩) rfl rfl (v := P (tm p q)) (h1 := h) ?_).trans (trim_self _ _)
  refine retS (tuple_new (lc_new (seq_P rfl) ?_ ?_) hw los_nats ?_)
  · rw [tm_dN]
    exact comp_map rfl fun x hx' => turnD_ok rfl rfl (ix_P (p := q) (k := x) rfl rfl (hx x hx'))
  · simpa [tm] using hl
  · simpa [tm] using hl
theorem sp_ltimes {k : Nat} {p q : List Nat} {h : HS} (hw : WF h) (hx : ∀ x ∈ p, x < q.length) (hl : p.length ≤ LIM) : C (k + 1) "_law_times" [P p, P q] h = .ok (P (tm p q)) h := by
  refine (call_run (d := ⟨2, 3, c__law_times⟩) rfl rfl (v := P (tm p q)) (h1 := h) ?_).trans (trim_self _ _)
  refine retS (tuple_new (lc_new (seq_P rfl) ?_ ?_) hw los_nats ?_)
  · rw [tm_dN]
    exact comp_map rfl fun x hx' => turnD_ok rfl rfl (ix_P (p := q) (k := x) rfl rfl (hx x hx'))
  · simpa [tm] using hl
  · simpa [tm] using hl
theorem sp_inverse {k : Nat} {p : List Nat} {h : HS} (hw : WF h) (hx : ∀ x ∈ p, x < p.length) (hl : p.length ≤ LIM) : C (k + 1) "inverse" [P p] h = .ok (P (inv p)) h := by
  refine (call_run (d := ⟨1, 4, c_inverse⟩) rfl rfl (v := P (inv p)) (h1 := h ++ [.lst ((inv p).map dN)]) ?_).trans (trim_app hw lo_P rfl)
  refine (asgS (zeros rfl hw hl) (by simp [startE])).trans ?_
  obtain ⟨δ', h', e, ⟨u, v, rfl⟩, rfl⟩ := forS (cl := C k) (r := .cons (.ret (.bi .tuple (.cons (.var 1) .nil))) .nil) (b := .cons (.asg (.sub (.var 1) (.var 3)) (.var 2)) .nil) (t := .tp [2, 3]) (it := .enum (.var 0)) (δ := [some (P p), some (.ref h.length), none, none]) (h := h ++ [.lst ((List.replicate p.length 0).map dN)])
    (fun i δ' h' => (∃ u v, δ' = [some (P p), some (.ref h.length), u, v]) ∧ h' = h ++ [.lst ((rowW (List.replicate p.length 0) i (at_ p) id).map dN)]) (enum_P rfl) ⟨⟨none, none, rfl⟩, rfl⟩ (fun i x δ1 h1 hi hq => by
      obtain ⟨⟨u, v, rfl⟩, rfl⟩ := hq
      obtain ⟨hlt, rfl⟩ := enumP_at hi
      refine ⟨rfl, _, _, _, rfl, .inl ((subS rfl rfl rfl (setF_lst get_app_len (by simpa [rowW_len] using at_lt hx hlt))).trans nilS), ⟨_, _, rfl⟩, ?_⟩
      rw [set_app_len, map_set, rowW_succ]; rfl) (fun _ _ _ => rfl)
  refine e.trans (retS ?_)
  simp only [enumL_len, List.length_map]
  exact tuple_ref rfl get_app_len (by first | (simpa [inv_len] using hl) | (simpa [cj_len] using hl))
theorem sp_linverse {k : Nat} {p : List Nat} {h : HS} (hw : WF h) (hx : ∀ x ∈ p, x < p.length) (hl : p.length ≤ LIM) : C (k + 1) "_law_inverse" [P p] h = .ok (P (inv p)) h := by
  refine (call_run (d := ⟨1, 3, c__law_inverse⟩) rfl rfl (v := P (inv p)) (h1 := h ++ [.lst ((inv p).map dN)]) ?_).trans (trim_app hw lo_P rfl)
  refine (asgS (zeros rfl hw hl) (by simp [startE])).trans ?_
  obtain ⟨δ', h', e, ⟨u, rfl⟩, rfl⟩ := forS (cl := C k) (r := .cons (.ret (.bi .tuple (.cons (.var 1) .nil))) .nil) (b := .cons (.asg (.sub (.var 1) (.ix (.var 0) (.var 2))) (.var 2)) .nil) (t := .nm 2) (it := .rng (.cons (.bi .len (.cons (.var 0) .nil)) .nil)) (δ := [some (P p), some (.ref h.length), none]) (h := h ++ [.lst ((List.replicate p.length 0).map dN)])
    (fun i δ' h' => (∃ u, δ' = [some (P p), some (.ref h.length), u]) ∧ h' = h ++ [.lst ((rowW (List.replicate p.length 0) i (at_ p) id).map dN)]) (rng_ok1 (len_P rfl) hl) ⟨⟨none, rfl⟩, rfl⟩ (fun i x δ1 h1 hi hq => by
      obtain ⟨⟨u, rfl⟩, rfl⟩ := hq
      obtain ⟨hlt, rfl⟩ := range_at hi
      refine ⟨rfl, _, _, _, rfl, .inl ((subS rfl rfl (ix_P rfl rfl hlt) (setF_lst get_app_len (by simpa [rowW_len] using at_lt hx hlt))).trans nilS), ⟨_, rfl⟩, ?_⟩
      rw [set_app_len, map_set, rowW_succ]; rfl) (fun _ _ _ => rfl)
  refine e.trans (retS ?_)
  simp only [List.length_map, List.length_range]
  exact tuple_ref rfl get_app_len (by first | (simpa [inv_len] using hl) | (simpa [cj_len] using hl))
theorem sp_conjugate {k : Nat} {p c : List Nat} {h : HS} (hw : WF h) (hx : ∀ x ∈ p, x < p.length) (hc : ∀ x ∈ c, x < p.length) (he : c.length = p.length) (hl : p.length ≤ LIM) : C (k + 1) "conjugate" [P p, P c] h = .ok (P (cj p c)) h := by
  refine (call_run (d := ⟨2, 5, c_conjugate⟩) rfl rfl (v := P (cj p c)) (h1 := h ++ [.lst ((cj p c).map dN)]) ?_).trans (trim_app hw lo_P rfl)
  refine (asgS (zeros rfl hw hl) (by simp [startE])).trans ?_
  obtain ⟨δ', h', e, ⟨u, v, rfl⟩, rfl⟩ := forS (cl := C k) (r := .cons (.ret (.bi .tuple (.cons (.var 2) .nil))) .nil) (b := .cons (.asg (.sub (.var 2) (.ix (.var 1) (.var 3))) (.ix (.var 1) (.var 4))) .nil) (t := .tp [3, 4]) (it := .enum (.var 0)) (δ := [some (P p), some (P c), some (.ref h.length), none, none]) (h := h ++ [.lst ((List.replicate p.length 0).map dN)])
    (fun i δ' h' => (∃ u v, δ' = [some (P p), some (P c), some (.ref h.length), u, v]) ∧ h' = h ++ [.lst ((rowW (List.replicate p.length 0) i (at_ c) (fun x => at_ c (at_ p x))).map dN)]) (enum_P rfl) ⟨⟨none, none, rfl⟩, rfl⟩ (fun i x δ1 h1 hi hq => by
      obtain ⟨⟨u, v, rfl⟩, rfl⟩ := hq
      obtain ⟨hlt, rfl⟩ := enumP_at hi
      refine ⟨rfl, _, _, _, rfl, .inl ((subS (ix_P (k := at_ p i) rfl rfl (by rw [he]; exact at_lt hx hlt)) rfl (ix_P (k := i) rfl rfl (by omega)) (setF_lst get_app_len (by simpa [rowW_len] using at_lt hc (by omega)))).trans nilS), ⟨_, _, rfl⟩, ?_⟩
      rw [set_app_len, map_set, rowW_succ]) (fun _ _ _ => rfl)
  refine e.trans (retS ?_)
  simp only [enumL_len, List.length_map]
  exact tuple_ref rfl get_app_len (by first | (simpa [inv_len] using hl) | (simpa [cj_len] using hl))
theorem sp_lconj {k : Nat} {p c : List Nat} {h : HS} (hw : WF h) (hx : ∀ x ∈ p, x < p.length) (hc : ∀ x ∈ c, x < p.length) (he : c.length = p.length) (hl : p.length ≤ LIM) : C (k + 1) "_law_conj" [P p, P c] h = .ok (P (cj p c)) h := by
  refine (call_run (d := ⟨2, 4, c__law_conj⟩) rfl rfl (v := P (cj p c)) (h1 := h ++ [.lst ((cj p c).map dN)]) ?_).trans (trim_app hw lo_P rfl)
  refine (asgS (zeros rfl hw hl) (by simp [startE])).trans ?_
  obtain ⟨δ', h', e, ⟨u, rfl⟩, rfl⟩ := forS (cl := C k) (r := .cons (.ret (.bi .tuple (.cons (.var 2) .nil))) .nil) (b := .cons (.asg (.sub (.var 2) (.ix (.var 1) (.var 3))) (.ix (.var 1) (.ix (.var 0) (.var 3)))) .nil) (t := .nm 3) (it := .rng (.cons (.bi .len (.cons (.var 0) .nil)) .nil)) (δ := [some (P p), some (P c), some (.ref h.length), none]) (h := h ++ [.lst ((List.replicate p.length 0).map dN)])
    (fun i δ' h' => (∃ u, δ' = [some (P p), some (P c), some (.ref h.length), u]) ∧ h' = h ++ [.lst ((rowW (List.replicate p.length 0) i (at_ c) (fun x => at_ c (at_ p x))).map dN)]) (rng_ok1 (len_P rfl) hl) ⟨⟨none, rfl⟩, rfl⟩ (fun i x δ1 h1 hi hq => by
      obtain ⟨⟨u, rfl⟩, rfl⟩ := hq
      obtain ⟨hlt, rfl⟩ := range_at hi
      refine ⟨rfl, _, _, _, rfl, .inl ((subS (ix_P (k := at_ p i) rfl (ix_P (k := i) rfl rfl hlt) (by rw [he]; exact at_lt hx hlt)) rfl (ix_P (k := i) rfl rfl (by omega)) (setF_lst get_app_len (by simpa [rowW_len] using at_lt hc (by omega)))).trans nilS), ⟨_, rfl⟩, ?_⟩
      rw [set_app_len, map_set, rowW_succ]) (fun _ _ _ => rfl)
  refine e.trans (retS ?_)
  simp only [List.length_map, List.length_range]
  exact tuple_ref rfl get_app_len (by first | (simpa [inv_len] using hl) | (simpa [cj_len] using hl))
theorem Pm.lts {n : Nat} {p q : List Nat} (hp : Pm n p) (hq : Pm n q) : ∀ x ∈ p, x < q.length := fun x hx => by rw [hq.len]; exact hp.lt x hx
theorem sp_commutator {k n : Nat} {p q : List Nat} {h : HS} (hw : WF h) (hp : Pm n p) (hq : Pm n q) (hl : n ≤ LIM) : C (k + 2) "commutator" [P p, P q] h = .ok (P (tm (inv (tm q p)) (tm p q))) h := by
  refine (call_run (d := ⟨2, 2, c_commutator⟩) rfl rfl (h1 := h) ?_).trans (trim_self _ _)
  have a := hq.tm hp
  have b := hp.tm hq
  refine retS (call_2 (call_1 (call_2 (x := P q) (y := P p) rfl rfl (sp_times hw (hq.lts hp) (by rw [hq.len]; exact hl))) (sp_inverse hw (a.lts a) (by rw [a.len]; exact hl)))
    (call_2 (x := P p) (y := P q) rfl rfl (sp_times hw (hp.lts hq) (by rw [hp.len]; exact hl))) (sp_times hw (a.inv.lts b) (by rw [a.inv.len]; exact hl)))
theorem sp_lcomm {k n : Nat} {p q : List Nat} {h : HS} (hw : WF h) (hp : Pm n p) (hq : Pm n q) (hl : n ≤ LIM) : C (k + 2) "_law_comm" [P p, P q] h = .ok (P (tm (tm (inv p) (inv q)) (tm p q))) h := by
  refine (call_run (d := ⟨2, 2, c__law_comm⟩) rfl rfl (h1 := h) ?_).trans (trim_self _ _)
  have a := hp.inv.tm hq.inv
  have b := hp.tm hq
  refine retS (call_2 (call_2 (call_1 (x := P p) rfl (sp_linverse hw (hp.lts hp) (by rw [hp.len]; exact hl))) (call_1 (x := P q) rfl (sp_linverse hw (hq.lts hq) (by rw [hq.len]; exact hl))) (sp_ltimes hw (hp.inv.lts hq.inv) (by rw [hp.inv.len]; exact hl)))
    (call_2 (x := P p) (y := P q) rfl rfl (sp_ltimes hw (hp.lts hq) (by rw [hp.len]; exact hl))) (sp_ltimes hw (a.lts b) (by rw [a.len]; exact hl)))
theorem trg_ok {cl : Cl} {e : CE} {δ : En} {h : HS} {n : Nat} (he : evalE cl e δ h = .ok (dN n) h) (hn : n ≤ LIM) : evalE cl (.trg (.cons e .nil)) δ h = .ok (P (List.range n)) h := by
  simp only [evalE, evalL, he, R.bind_ok, rngF]
  rw [if_pos (by simpa using hn)]
  simp only [rngL_nat]
  rw [mkT_ok (by simpa using hn), R.tr_ok, trim_self]; rfl
theorem sp_identity {k n : Nat} {h : HS} (hl : n ≤ LIM) : C (k + 1) "identity" [dN n] h = .ok (P (List.range n)) h := by
  refine (call_run (d := ⟨1, 1, c_identity⟩) rfl rfl (h1 := h) ?_).trans (trim_self _ _)
  exact retS (trg_ok rfl hl)
end Mi

namespace Mi
open PySem
/-! ## equality of plain data -/
/-- ints, and tuples of such, not deeper than d -/
def pI : Nat → D → Bool
  | _, .int _ => true
  | d + 1, .tup xs => pIs d xs
  | _, _ => false
where pIs (d : Nat) : List D → Bool
  | [] => true
  | x :: r => pI d x && pIs d r
theorem pIs_all {d : Nat} : ∀ {xs : List D}, (∀ x ∈ xs, pI d x = true) → pI.pIs d xs = true
  | [], _ => by rw [pI.pIs]
  | x :: r, h => by rw [pI.pIs, h x List.mem_cons_self, pIs_all fun y hy => h y (List.mem_cons_of_mem _ hy)]; rfl
theorem pI_tup {d : Nat} {xs : List D} (h : ∀ x ∈ xs, pI d x = true) : pI (d + 1) (.tup xs) = true := by
  rw [pI]; exact pIs_all h
theorem pI_int {d : Nat} {i : Int} : pI d (.int i) = true := by cases d <;> rw [pI]
theorem pI_P {d : Nat} {p : List Nat} : pI (d + 1) (P p) = true := pI_tup fun x hx => by
  obtain ⟨y, _, rfl⟩ := List.mem_map.mp hx
  exact pI_int
theorem pI_ref {d n : Nat} : pI d (.ref n) = false := by cases d <;> simp [pI]
def PyIs (d : Nat) (a : D) (x : PyData) : Prop := a.py0 = some x ∧ x.canLay0 = true ∧ x.depth ≤ d
theorem py_of : ∀ (d : Nat), (∀ a, pI d a = true → ∃ x, PyIs d a x) ∧ (∀ xs, pI.pIs d xs = true → ∃ ys, D.py0s xs = some ys ∧ PyData.canLayAll0 ys = true ∧ PyData.depthAll ys ≤ d)
  | 0 => by
    have one : ∀ a, pI 0 a = true → ∃ x, PyIs 0 a x := fun a h => by
      cases a <;> first | (exact ⟨_, rfl, rfl, Nat.le_refl _⟩) | (simp [pI] at h; done)
    refine ⟨one, fun xs => ?_⟩
    induction xs with
    | nil => intro _; exact ⟨[], rfl, rfl, Nat.le_refl _⟩
    | cons x r ih =>
      intro h
      rw [pI.pIs, Bool.and_eq_true] at h
      obtain ⟨y, e1, e2, e3⟩ := one x h.1
      obtain ⟨ys, f1, f2, f3⟩ := ih h.2
      refine ⟨y :: ys, by rw [D.py0s, e1, f1], by rw [PyData.canLayAll0, e2, f2]; rfl, ?_⟩
      rw [PyData.depthAll]; omega
  | d + 1 => by
    obtain ⟨_, ihs⟩ := py_of d
    have one : ∀ a, pI (d + 1) a = true → ∃ x, PyIs (d + 1) a x := fun a h => by
      cases a with
      | int i => exact ⟨_, rfl, rfl, Nat.zero_le _⟩
      | tup xs =>
        rw [pI] at h
        obtain ⟨ys, f1, f2, f3⟩ := ihs xs h
        refine ⟨.tuple ys, by rw [D.py0, f1]; rfl, by rw [PyData.canLay0]; exact f2, ?_⟩
        rw [PyData.depth]; omega
      | _ => simp [pI] at h
    refine ⟨one, fun xs => ?_⟩
    induction xs with
    | nil => intro _; exact ⟨[], rfl, rfl, Nat.zero_le _⟩
    | cons x r ih =>
      intro h
      rw [pI.pIs, Bool.and_eq_true] at h
      obtain ⟨y, e1, e2, e3⟩ := one x h.1
      obtain ⟨ys, f1, f2, f3⟩ := ih h.2
      refine ⟨y :: ys, by rw [D.py0s, e1, f1], by rw [PyData.canLayAll0, e2, f2]; rfl, ?_⟩
      rw [PyData.depthAll]; omega
theorem eqv_of : ∀ (d : Nat), (∀ a b x y, pI d a = true → pI d b = true → a.py0 = some x → b.py0 = some y → PyData.eqv x y = decide (a = b)) ∧
    (∀ xs ys us vs, pI.pIs d xs = true → pI.pIs d ys = true → D.py0s xs = some us → D.py0s ys = some vs → PyData.eqvAll us vs = decide (xs = ys)) := by
  have lists : ∀ d, (∀ a b x y, pI d a = true → pI d b = true → a.py0 = some x → b.py0 = some y → PyData.eqv x y = decide (a = b)) →
      (∀ xs ys us vs, pI.pIs d xs = true → pI.pIs d ys = true → D.py0s xs = some us → D.py0s ys = some vs → PyData.eqvAll us vs = decide (xs = ys)) := by
    intro d one xs
    induction xs with
    | nil =>
      intro ys us vs _ hy e1 e2
      cases e1
      cases ys with
      | nil => cases e2; rw [PyData.eqvAll]; simp
      | cons y s =>
        obtain ⟨zs, f, _⟩ := (py_of d).2 (y :: s) hy
        rw [f] at e2; cases e2
        rw [D.py0s] at f
        split at f
        · cases f; rw [PyData.eqvAll]; simp
        · cases f
    | cons x r ih =>
      intro ys us vs hx hy e1 e2
      have hx0 := hx
      rw [pI.pIs, Bool.and_eq_true] at hx
      obtain ⟨x1, ex, _⟩ := (py_of d).1 x hx.1
      obtain ⟨r1, er, _⟩ := (py_of d).2 r hx.2
      rw [D.py0s, ex, er] at e1
      cases e1
      cases ys with
      | nil => cases e2; rw [PyData.eqvAll]; simp
      | cons y s =>
        rw [pI.pIs, Bool.and_eq_true] at hy
        obtain ⟨y1, ey, _⟩ := (py_of d).1 y hy.1
        obtain ⟨s1, es, _⟩ := (py_of d).2 s hy.2
        rw [D.py0s, ey, es] at e2
        cases e2
        rw [PyData.eqvAll, one x y _ _ hx.1 hy.1 ex ey, ih s _ _ hx.2 hy.2 er es]
        rw [Bool.eq_iff_iff]; simp
  intro d
  induction d with
  | zero =>
    have one : ∀ a b x y, pI 0 a = true → pI 0 b = true → a.py0 = some x → b.py0 = some y → PyData.eqv x y = decide (a = b) := by
      intro a b x y ha hb ea eb
      cases a <;> first | (simp [pI] at ha; done) | skip
      cases b <;> first | (simp [pI] at hb; done) | skip
      cases ea; cases eb
      rw [PyData.eqv]
      rw [Bool.eq_iff_iff]; simp
    exact ⟨one, lists 0 one⟩
  | succ d ih =>
    have one : ∀ a b x y, pI (d + 1) a = true → pI (d + 1) b = true → a.py0 = some x → b.py0 = some y → PyData.eqv x y = decide (a = b) := by
      intro a b x y ha hb ea eb
      cases a <;> first | (simp [pI] at ha; done) | skip
      · cases b <;> first | (simp [pI] at hb; done) | skip
        · cases ea; cases eb
          rw [PyData.eqv]
          rw [Bool.eq_iff_iff]; simp
        · rw [pI] at hb
          obtain ⟨ys, f1, _⟩ := (py_of d).2 _ hb
          rw [D.py0, f1] at eb
          cases ea; cases eb
          rw [PyData.eqv]; simp
      · rename_i xs
        rw [pI] at ha
        obtain ⟨us, f0, _⟩ := (py_of d).2 _ ha
        rw [D.py0, f0] at ea
        cases ea
        cases b <;> first | (simp [pI] at hb; done) | skip
        · cases eb
          rw [PyData.eqv]; simp
        · rename_i ys
          rw [pI] at hb
          obtain ⟨vs, f1, _⟩ := (py_of d).2 _ hb
          rw [D.py0, f1] at eb
          cases eb
          rw [PyData.eqv, ih.2 xs ys us vs ha hb f0 f1]
          simp
    exact ⟨one, lists (d + 1) one⟩
theorem py_non {h : HS} {a : D} {d : Nat} (ha : pI d a = true) : a.py h = a.py0 := by
  cases a <;> first | rfl | (rw [pI_ref] at ha; cases ha)
theorem shaped_of {x : PyData} (h1 : x.canLay0 = true) (h2 : x.depth ≤ 64) : SeqAt.shaped x = true := by
  unfold SeqAt.shaped
  rw [h1]; simpa using h2
theorem eqD_pI {h : HS} {a b : D} (ha : pI 60 a = true) (hb : pI 60 b = true) : eqD h a b = some (decide (a = b)) := by
  obtain ⟨x, ex, cx, dx⟩ := (py_of 60).1 a ha
  obtain ⟨y, ey, cy, dy⟩ := (py_of 60).1 b hb
  unfold eqD
  rw [py_non ha, py_non hb, ex, ey]
  simp only [shaped_of cx (by omega), shaped_of cy (by omega), Bool.and_self, if_true]
  rw [(eqv_of 60).1 a b x y ha hb ex ey]
theorem eqD_int {h : HS} {i j : Int} : eqD h (.int i) (.int j) = some (decide (i = j)) := by
  rw [eqD_pI pI_int pI_int]; simp
theorem eqD_nat {h : HS} {i j : Nat} : eqD h (dN i) (dN j) = some (decide (i = j)) := by
  rw [eqD_int]
  congr 1
  rw [Bool.eq_iff_iff]; simp; omega
theorem eqD_self {h : HS} {a : D} (ha : pI 60 a = true) : eqD h a a = some true := by rw [eqD_pI ha ha]; simp
theorem eqD_bl {h : HS} {i j : Bool} : eqD h (.bl i) (.bl j) = some (decide (i = j)) := by
  unfold eqD
  show (if (SeqAt.shaped (.bool i) && SeqAt.shaped (.bool j)) = true then some (PyData.eqv (.bool i) (.bool j)) else none) = _
  rw [shaped_of (x := .bool i) rfl (Nat.zero_le _), shaped_of (x := .bool j) rfl (Nat.zero_le _)]
  cases i <;> cases j <;> rfl
theorem eqD_lists {h : HS} {m n : Nat} {xs ys : List D} (hm : h[m]? = some (.lst xs)) (hn : h[n]? = some (.lst ys)) (hx : ∀ x ∈ xs, pI 50 x = true) (hy : ∀ x ∈ ys, pI 50 x = true) : eqD h (.ref m) (.ref n) = some (decide (xs = ys)) := by
  obtain ⟨us, e1, c1, d1⟩ := (py_of 50).2 xs (pIs_all hx)
  obtain ⟨vs, e2, c2, d2⟩ := (py_of 50).2 ys (pIs_all hy)
  unfold eqD D.py
  simp only [hm, hn, e1, e2, Option.map_some]
  rw [shaped_of (x := .list us) (by rw [PyData.canLay0]; exact c1) (by rw [PyData.depth]; omega), shaped_of (x := .list vs) (by rw [PyData.canLay0]; exact c2) (by rw [PyData.depth]; omega)]
  simp only [Bool.and_self, if_true]
  rw [PyData.eqv, (eqv_of 50).2 xs ys us vs (pIs_all hx) (pIs_all hy) e1 e2]
/-! ## tests -/
section
variable {cl : Cl} {δ : En} {h : HS} {a b : CE} {x y : D} {k : Bool} {o : CmpOp}
theorem cmpB (ha : evalE cl a δ h = .ok x h) (hb : evalE cl b δ h = .ok y h) (hc : cmpF o x y h = some k) : evalB cl (.cmp o a b) δ h = .ok k h := by
  simp only [evalB, ha, hb, R.bind_ok, hc, trim_self]
theorem cmpE (ha : evalE cl a δ h = .ok x h) (hb : evalE cl b δ h = .ok y h) (hc : cmpF o x y h = some k) : evalE cl (.cmp o a b) δ h = .ok (.bl k) h := by
  simp only [evalE, ha, hb, R.bind_ok, hc, Option.map_some, ofO_ok, R.tr_ok, trim_self]
theorem valB (ha : evalE cl a δ h = .ok (.bl k) h) : evalB cl (.val a) δ h = .ok k h := by
  simp only [evalB, ha, R.bind_ok, truD, ofO_ok]
theorem notB {c : CB} (hc : evalB cl c δ h = .ok k h) : evalB cl (.not_ c) δ h = .ok (!k) h := by
  simp only [evalB, hc, R.bind_ok]
theorem orF {c d : CB} (hc : evalB cl c δ h = .ok false h) (hd : evalB cl d δ h = .ok k h) : evalB cl (.or_ c d) δ h = .ok k h := by
  simp only [evalB, hc, R.bind_ok]; exact hd
theorem orT {c d : CB} (hc : evalB cl c δ h = .ok true h) : evalB cl (.or_ c d) δ h = .ok true h := by
  simp only [evalB, hc, R.bind_ok, if_true]
theorem andT {c d : CB} (hc : evalB cl c δ h = .ok true h) (hd : evalB cl d δ h = .ok k h) : evalB cl (.and_ c d) δ h = .ok k h := by
  simp only [evalB, hc, R.bind_ok, if_true]; exact hd
theorem andF {c d : CB} (hc : evalB cl c δ h = .ok false h) : evalB cl (.and_ c d) δ h = .ok false h := by
  simp only [evalB, hc, R.bind_ok]; rfl
theorem binE {op : Operator} {v : D} (ha : evalE cl a δ h = .ok x h) (hb : evalE cl b δ h = .ok y h) (hc : binF op x y h = .ok v h) : evalE cl (.bin op a b) δ h = .ok v h := by
  simp only [evalE, ha, hb, R.bind_ok, hc, R.tr_ok, trim_self]
end
end Mi

namespace Mi
open PySem
/-! ## draws -/
/-- the heap of a law: the script's numbers, the state of the draws, the rest -/
def DS (ns : List Int) (i v s : Nat) (rest : HS) : HS := .lst (ns.map .int) :: .lst [.ref 0, dN i, dN v, dN s] :: rest
theorem ds1 {ns : List Int} {i v s : Nat} {rest : HS} : (DS ns i v s rest)[1]? = some (.lst [.ref 0, dN i, dN v, dN s]) := rfl
theorem ds0 {ns : List Int} {i v s : Nat} {rest : HS} : (DS ns i v s rest)[0]? = some (.lst (ns.map .int)) := rfl
theorem DS.wf {ns : List Int} {i v s : Nat} : WF (DS ns i v s []) := by
  unfold WF DS
  simp only [List.all_cons, List.all_nil, Bool.and_true, Bool.and_eq_true]
  exact ⟨los_ints, rfl⟩
section
variable {cl : Cl} {δ : En} {ns : List Int} {i v s : Nat} {rest : HS}
theorem dix {j : Nat} {x : D} {k : Nat} (e : δ[j]? = some (some (.ref 1))) (hx : ([.ref 0, dN i, dN v, dN s] : List D)[k]? = some x) : evalE cl (.ix (.var j) (.lit (.int (k : Int)))) δ (DS ns i v s rest) = .ok x (DS ns i v s rest) := by
  simp only [evalE, e, R.bind_ok, ixF, ds1, atI_nat hx, ofO_ok, R.tr_ok, trim_self]
theorem dset {j : Nat} {e : CE} {x : D} {k : Nat} {i' v' s' : Nat} {r : CSs} (he : δ[j]? = some (some (.ref 1))) (hv : evalE cl e δ (DS ns i v s rest) = .ok x (DS ns i v s rest)) (hk : k < 4) (hs : ([.ref 0, dN i, dN v, dN s] : List D).set k x = [.ref 0, dN i', dN v', dN s']) :
    execB cl (.cons (.asg (.sub (.var j) (.lit (.int (k : Int)))) e) r) δ (DS ns i v s rest) = execB cl r δ (DS ns i' v' s' rest) := by
  refine subS hv (var_ok he) lit_ok (setF_lst ds1 (by simpa using hk)) |>.trans ?_
  rw [hs]; rfl
end
theorem int_1 {cl : Cl} {δ : En} {h : HS} {e : CE} {x : Int} (he : evalE cl e δ h = .ok (.int x) h) : evalE cl (.bi .int (.cons e .nil)) δ h = .ok (.int x) h := by
  simp only [evalE, evalL, he, R.bind_ok, biF, R.tr_ok, trim_self]
theorem abs_1 {cl : Cl} {δ : En} {h : HS} {e : CE} {x : Int} (he : evalE cl e δ h = .ok (.int x) h) : evalE cl (.bi .abs (.cons e .nil)) δ h = .ok (dN x.natAbs) h := by
  simp only [evalE, evalL, he, R.bind_ok, biF, R.tr_ok, trim_self]
  have : (if x < 0 then -x else x) = (x.natAbs : Int) := by
    by_cases c : x < 0
    · rw [if_pos c]; omega
    · rw [if_neg c]; omega
  rw [this]
theorem mod_nat {a b : Nat} {h : HS} (hb : 0 < b) : binF .Mod (dN a) (dN b) h = .ok (dN (a % b)) h := by
  unfold binF
  simp only [show decide ((0 : Int) < (b : Int)) = true by simp; omega, if_true]
  rfl
theorem div_nat {a b : Nat} {h : HS} (hb : 0 < b) (hl : b < 1073741824) : binF .FloorDiv (dN a) (dN b) h = .ok (dN (a / b)) h := by
  unfold binF
  simp only [show decide ((0 : Int) < (b : Int)) = true by simp; omega, show decide ((b : Int) < 1073741824) = true by simp; omega, Bool.and_self, if_true]
  rfl
theorem add_nat {a b : Nat} {h : HS} : binF .Add (dN a) (dN b) h = .ok (dN (a + b)) h := rfl
theorem mul_nat {a b : Nat} {h : HS} (hb : b < 2 ^ 64) : binF .Mult (dN a) (dN b) h = .ok (dN (a * b)) h := by
  unfold binF
  simp only
  rw [if_pos]
  · rfl
  · unfold mulOk
    rw [Bool.or_eq_true]; right
    simp; omega
theorem cmp_eq {a b : Nat} {h : HS} : cmpF .Eq (dN a) (dN b) h = some (decide (a = b)) := eqD_nat (h := h)
theorem cmp_ne {a b : Nat} {h : HS} : cmpF .NotEq (dN a) (dN b) h = some (!decide (a = b)) := by
  show (eqD h (dN a) (dN b)).map (!·) = _
  rw [eqD_nat]; rfl
theorem cmp_lt {a b : Nat} {h : HS} : cmpF .Lt (dN a) (dN b) h = some (decide (a < b)) := by
  show some (decide ((a : Int) < (b : Int))) = _
  congr 1; rw [Bool.eq_iff_iff]; simp
theorem cmp_gt {a b : Nat} {h : HS} : cmpF .Gt (dN a) (dN b) h = some (decide (b < a)) := by
  show some (decide ((b : Int) < (a : Int))) = _
  congr 1; rw [Bool.eq_iff_iff]; simp
/-- a draw below many -/
theorem sp_take {k many i v s : Nat} {ns : List Int} {rest : HS} (h0 : 0 < many) (h1 : many < 1073741824) :
    ∃ r i' v' s', C (k + 1) "_law_take" [.ref 1, dN many] (DS ns i v s rest) = .ok (dN r) (DS ns i' v' s' rest) ∧ r < many := by
  have fin : ∀ {r i' v' s' : Nat}, execB (C k) c__law_take [some (.ref 1), some (dN many), none, none] (DS ns i v s rest) = .ret (dN r) (DS ns i' v' s' rest) → C (k + 1) "_law_take" [.ref 1, dN many] (DS ns i v s rest) = .ok (dN r) (DS ns i' v' s' rest) := fun {r i' v' s'} e =>
    (call_run (d := ⟨2, 4, c__law_take⟩) rfl rfl e).trans (trim_le (by unfold DS; simp))
  -- behind the first if
  have tail : ∀ {i v s : Nat} {z : Option D}, ∃ r i' v' s', execB (C k) (.cons (.ifs (.cmp .Gt (.ix (.var 0) (.lit (.int 2))) (.lit (.int 0))) (.cons (.asg (.nm 2) (.bin .Mod (.bi .int (.cons (.ix (.var 0) (.lit (.int 2))) .nil)) (.var 1))) (.cons (.asg (.sub (.var 0) (.lit (.int 2))) (.bin .FloorDiv (.bi .int (.cons (.ix (.var 0) (.lit (.int 2))) .nil)) (.var 1))) (.cons (.ret (.var 2)) .nil))) .nil) (.cons (.asg (.sub (.var 0) (.lit (.int 3))) (.bin .Mod (.bi .int (.cons (.bin .Add (.bin .Mult (.ix (.var 0) (.lit (.int 3))) (.lit (.int 69621))) (.lit (.int 7))) .nil)) (.lit (.int 2147483647)))) (.cons (.ret (.bin .Mod (.bi .int (.cons (.bin .FloorDiv (.ix (.var 0) (.lit (.int 3))) (.lit (.int 5))) .nil)) (.var 1))) .nil)))
      [some (.ref 1), some (dN many), none, z] (DS ns i v s rest) = .ret (dN r) (DS ns i' v' s' rest) ∧ r < many := by
    intro i v s z
    by_cases c : 0 < v
    · refine ⟨v % many, i, v / many, s, ?_, Nat.mod_lt _ h0⟩
      refine ifR (cmpB (x := dN v) (y := dN 0) (dix (k := 2) rfl rfl) lit_ok (by rw [cmp_gt, decide_eq_true c])) ?_
      refine (asgS (binE (x := dN v) (y := dN many) (int_1 (dix (k := 2) rfl rfl)) rfl (mod_nat h0)) (by simp)).trans ?_
      refine (dset (k := 2) (i' := i) (v' := v / many) (s' := s) rfl (binE (x := dN v) (y := dN many) (int_1 (dix (k := 2) rfl rfl)) rfl (div_nat h0 h1)) (by omega) rfl).trans ?_
      exact retS rfl
    · refine ⟨((s * 69621 + 7) % 2147483647) / 5 % many, i, v, (s * 69621 + 7) % 2147483647, ?_, Nat.mod_lt _ h0⟩
      refine (ifF (cmpB (x := dN v) (y := dN 0) (dix (k := 2) rfl rfl) lit_ok (by rw [cmp_gt, decide_eq_false c]))).trans ?_
      refine (dset (k := 3) (i' := i) (v' := v) (s' := (s * 69621 + 7) % 2147483647) rfl (binE (x := dN (s * 69621 + 7)) (y := dN 2147483647) (int_1 (binE (x := dN (s * 69621)) (y := dN 7) (binE (x := dN s) (y := dN 69621) (dix (k := 3) rfl rfl) lit_ok (mul_nat (by decide))) lit_ok add_nat)) lit_ok (mod_nat (by decide))) (by omega) rfl).trans ?_
      exact retS (binE (x := dN ((s * 69621 + 7) % 2147483647 / 5)) (y := dN many) (int_1 (binE (x := dN ((s * 69621 + 7) % 2147483647)) (y := dN 5) (dix (k := 3) rfl rfl) lit_ok (div_nat (by decide) (by decide)))) rfl (mod_nat h0))
  have hlen : ∀ {i v s : Nat} {z : Option D}, evalE (C k) (.bi .len (.cons (.ix (.var 0) (.lit (.int 0))) .nil)) [some (.ref 1), some (dN many), none, z] (DS ns i v s rest) = .ok (dN ns.length) (DS ns i v s rest) := by
    intro i v s z
    have := dix (cl := C k) (δ := [some (.ref 1), some (dN many), none, z]) (ns := ns) (i := i) (v := v) (s := s) (rest := rest) (j := 0) (k := 0) (x := .ref 0) rfl rfl
    have e : evalE (C k) (.ix (.var 0) (.lit (.int 0))) [some (.ref 1), some (dN many), none, z] (DS ns i v s rest) = .ok (.ref 0) (DS ns i v s rest) := this
    simp only [evalE] at e ⊢
    simp only [evalL, evalE]
    rw [e]
    simp only [R.bind_ok, biF, ds0, List.length_map, R.tr_ok, trim_self]
  by_cases c : v = 0 ∧ i < ns.length
  · obtain ⟨rfl, hi⟩ := c
    have hcond : evalB (C k) (.and_ (.cmp .Eq (.ix (.var 0) (.lit (.int 2))) (.lit (.int 0))) (.cmp .Lt (.ix (.var 0) (.lit (.int 1))) (.bi .len (.cons (.ix (.var 0) (.lit (.int 0))) .nil)))) [some (.ref 1), some (dN many), none, none] (DS ns i 0 s rest) = .ok true (DS ns i 0 s rest) :=
      andT (cmpB (x := dN 0) (y := dN 0) (dix (k := 2) rfl rfl) lit_ok (by rw [cmp_eq]; rfl)) (cmpB (x := dN i) (y := dN ns.length) (dix (k := 1) rfl rfl) hlen (by rw [cmp_lt, decide_eq_true hi]))
    have hcell : evalE (C k) (.ix (.ix (.var 0) (.lit (.int 0))) (.ix (.var 0) (.lit (.int 1)))) [some (.ref 1), some (dN many), none, none] (DS ns i 0 s rest) = .ok (.int ns[i]) (DS ns i 0 s rest) := by
      have e1 : evalE (C k) (.ix (.var 0) (.lit (.int 0))) [some (.ref 1), some (dN many), none, none] (DS ns i 0 s rest) = .ok (.ref 0) (DS ns i 0 s rest) := dix (k := 0) rfl rfl
      have e2 : evalE (C k) (.ix (.var 0) (.lit (.int 1))) [some (.ref 1), some (dN many), none, none] (DS ns i 0 s rest) = .ok (dN i) (DS ns i 0 s rest) := dix (k := 1) rfl rfl
      rw [evalE, e1, R.bind_ok, e2, R.bind_ok]
      simp only [ixF, ds0]
      rw [atI_nat (x := .int ns[i]) (by rw [List.getElem?_map, List.getElem?_eq_getElem hi]; rfl)]
      simp only [ofO_ok, R.tr_ok, trim_self]
    let m := (ns[i]).natAbs
    have rd : ∀ (r : CSs), execB (C k) (.cons (.asg (.sub (.var 0) (.lit (.int 2))) (.bi .abs (.cons (.bi .int (.cons (.ix (.ix (.var 0) (.lit (.int 0))) (.ix (.var 0) (.lit (.int 1)))) .nil)) .nil))) (.cons (.asg (.sub (.var 0) (.lit (.int 1))) (.bin .Add (.ix (.var 0) (.lit (.int 1))) (.lit (.int 1)))) r)) [some (.ref 1), some (dN many), none, none] (DS ns i 0 s rest) = execB (C k) r [some (.ref 1), some (dN many), none, none] (DS ns (i + 1) m s rest) := fun r =>
      (dset (k := 2) (i' := i) (v' := m) (s' := s) rfl (abs_1 (int_1 hcell)) (by omega) rfl).trans
        (dset (k := 1) (i' := i + 1) (v' := m) (s' := s) rfl (binE (x := dN i) (y := dN 1) (dix (k := 1) rfl rfl) lit_ok add_nat) (by omega) rfl)
    have pow : evalE (C k) (.bin .Pow (.lit (.int 10)) (.lit (.int 18))) [some (.ref 1), some (dN many), none, none] (DS ns (i + 1) m s rest) = .ok (dN 1000000000000000000) (DS ns (i + 1) m s rest) :=
      binE (x := .int 10) (y := .int 18) lit_ok lit_ok rfl
    by_cases c2 : m < 1000000000000000000
    · refine ⟨m % many, i + 1, 0, s, fin ?_, Nat.mod_lt _ h0⟩
      refine ifR hcond ((rd _).trans ?_)
      refine ifR (cmpB (x := dN m) (y := dN 1000000000000000000) (dix (k := 2) rfl rfl) pow (by rw [cmp_lt, decide_eq_true c2])) ?_
      refine (asgS (int_1 (x := (m : Int)) (dix (k := 2) rfl rfl)) (by simp)).trans ?_
      refine (dset (k := 2) (i' := i + 1) (v' := 0) (s' := s) rfl lit_ok (by omega) rfl).trans ?_
      exact retS (binE (x := dN m) (y := dN many) rfl rfl (mod_nat h0))
    · obtain ⟨r, i', v', s', e, hr⟩ := tail (i := i + 1) (v := m) (s := s) (z := none)
      refine ⟨r, i', v', s', fin ?_, hr⟩
      refine (ifT hcond ((rd _).trans ?_)).trans e
      exact (ifF (cmpB (x := dN m) (y := dN 1000000000000000000) (dix (k := 2) rfl rfl) pow (by rw [cmp_lt, decide_eq_false c2]))).trans nilS
  · obtain ⟨r, i', v', s', e, hr⟩ := tail (i := i) (v := v) (s := s) (z := none)
    refine ⟨r, i', v', s', fin ?_, hr⟩
    refine (ifF ?_).trans e
    by_cases c1 : v = 0
    · refine andT (cmpB (x := dN v) (y := dN 0) (dix (k := 2) rfl rfl) lit_ok (by rw [cmp_eq, decide_eq_true c1])) (cmpB (x := dN i) (y := dN ns.length) (dix (k := 1) rfl rfl) hlen (by rw [cmp_lt, decide_eq_false (fun z => c ⟨c1, z⟩)]))
    · exact andF (cmpB (x := dN v) (y := dN 0) (dix (k := 2) rfl rfl) lit_ok (by rw [cmp_eq, decide_eq_false c1]))
end Mi

namespace Mi
open PySem
theorem erase_map {α β : Type} {f : α → β} : ∀ {l : List α} {r : Nat}, (l.map f).eraseIdx r = (l.eraseIdx r).map f
  | [], _ => rfl
  | x :: l, 0 => rfl
  | x :: l, r + 1 => by simp [erase_map]
theorem erase_perm {α : Type} : ∀ {l : List α} {r : Nat} (h : r < l.length), (l[r] :: l.eraseIdx r).Perm l
  | x :: l, 0, _ => List.Perm.refl _
  | x :: l, r + 1, h => by
    have hr : r < l.length := by simpa using h
    have := erase_perm (l := l) (r := r) hr
    show (l[r] :: x :: l.eraseIdx r).Perm (x :: l)
    exact (List.Perm.swap _ _ _).trans (List.Perm.cons _ this)
theorem consL {cl : Cl} {a : CE} {r : CL} {δ : En} {h h1 h2 : HS} {x : D} {xs : List D} (ha : evalE cl a δ h = .ok x h1) (hr : evalL cl r δ h1 = .ok xs h2) : evalL cl (.cons a r) δ h = .ok (x :: xs) h2 := by
  simp only [evalL, ha, hr, R.bind_ok]
theorem nilL {cl : Cl} {δ : En} {h : HS} : evalL cl .nil δ h = .ok [] h := by simp only [evalL]
theorem lstE {cl : Cl} {es : CL} {δ : En} {h h1 : HS} {xs : List D} (hl : evalL cl es δ h = .ok xs h1) (c : xs.length ≤ LIM) : evalE cl (.lst es) δ h = .ok (.ref h1.length) (h1 ++ [.lst xs]) := by
  simp only [evalE, hl, R.bind_ok]
  exact mkL_ok c
theorem trim_to {n : Nat} {v : D} {h ext : HS} (hn : n = h.length) (hw : WF h) (hv : v.lo h.length = true) (hr : isRef v = false) : trim n v (h ++ ext) = .ok v h := by
  subst hn; exact trim_app hw hv hr
theorem tuple_run {cl : Cl} {e : CE} {δ : En} {h h' : HS} {ys : List D} (he : evalE cl e δ h = .ok (.ref h'.length) (h' ++ [.lst ys])) (hn : h.length = h'.length) (hw : WF h') (hl : D.los h'.length ys = true) (c : ys.length ≤ LIM) : evalE cl (.bi .tuple (.cons e .nil)) δ h = .ok (.tup ys) h' := by
  simp only [evalE, evalL, he, R.bind_ok, biF, itemsD, get_app_len]
  rw [mkT_ok c, R.tr_ok]
  exact trim_to hn hw (by rw [D.lo]; exact hl) rfl
theorem lc_run {cl : Cl} {own : List Nat} {tg : NT} {it : CI} {t : CB} {e : CE} {δ : En} {h h' : HS} {w : Its} {ys : List D} (hi : evalI cl it δ h = .ok w h)
    (hc : compD (liveOk w.live) (turnD cl own tg t e δ) w.items h = .ok ys h') (hn : h.length = h'.length) (c : ys.length ≤ LIM) : evalE cl (.lc own tg it t e) δ h = .ok (.ref h'.length) (h' ++ [.lst ys]) := by
  rw [evalE_lc, hi, R.bind_ok, hc, R.bind_ok, mkL_ok c, R.tr_ok, hn, trim_one]
theorem lrg_ok {cl : Cl} {e : CE} {δ : En} {h : HS} {n : Nat} (he : evalE cl e δ h = .ok (dN n) h) (hn : n ≤ LIM) : evalE cl (.lrg (.cons e .nil)) δ h = .ok (.ref h.length) (h ++ [.lst ((List.range n).map dN)]) := by
  simp only [evalE, evalL, he, R.bind_ok, rngF]
  rw [if_pos (by simpa using hn)]
  simp only [rngL_nat]
  rw [mkL_ok (by simpa using hn), R.tr_ok, trim_one]
theorem meth_run {cl : Cl} {m : Me} {o : CE} {es : CL} {δ : En} {h h1 h2 : HS} {x v : D} {xs : List D} (ho : evalE cl o δ h = .ok x h) (hr : rcvOk m x h = true) (hl : evalL cl es δ h = .ok xs h1) (hm : meF m x xs h1 = .ok v h2) (hn : h2.length ≤ h.length) : evalE cl (.meth m o es) δ h = .ok v h2 := by
  simp only [evalE, ho, R.bind_ok, hr, if_true, hl, hm, R.tr_ok]
  exact trim_le hn
theorem call_run2 {cl : Cl} {f : Str} {a b : CE} {δ : En} {h h1 : HS} {x y v : D} (ha : evalE cl a δ h = .ok x h) (hb : evalE cl b δ h = .ok y h) (hc : cl f [x, y] h = .ok v h1) (hn : h1.length ≤ h.length) : evalE cl (.call f (.cons a (.cons b .nil))) δ h = .ok v h1 := by
  simp only [evalE, evalL, ha, hb, R.bind_ok, hc, R.tr_ok]
  exact trim_le hn
theorem one_L {cl : Cl} {a : CE} {δ : En} {h h1 : HS} {x : D} (ha : evalE cl a δ h = .ok x h1) : evalL cl (.cons a .nil) δ h = .ok [x] h1 := by
  simp only [evalL, ha, R.bind_ok]
theorem wf3 {ns : List Int} {i v s : Nat} {l : List Nat} : WF (DS ns i v s [.lst (l.map dN)]) := by
  unfold WF DS
  simp only [List.all_cons, List.all_nil, Bool.and_true, Bool.and_eq_true]
  exact ⟨los_ints, rfl, los_nats⟩
theorem pop_at {h : HS} {m k : Nat} {ys : List D} {y : D} (e : h[m]? = some (.lst ys)) (hk : ys[k]? = some y) (hl : k < 16777216) : meF .pop (.ref m) [dN k] h = .ok y (h.set m (.lst (ys.eraseIdx k))) := by
  have hlt := (List.getElem?_eq_some_iff.mp hk).1
  simp only [meF, e, lstMe]
  rw [if_pos (by simp; omega), ixN_nat hlt]
  simp only [hk]
theorem sp_shuffled {k n i v s : Nat} {ns : List Int} (h1 : n < 16777216) :
    ∃ p i' v' s', C (k + 2) "_law_shuffled" [.ref 1, dN n] (DS ns i v s []) = .ok (P p) (DS ns i' v' s' []) ∧ Pm n p := by
  have hn : n ≤ LIM := by unfold LIM; omega
  obtain ⟨ys, h', ec, i', v', s', l, zs, rfl, rfl, hp, hl⟩ := comp_run (live := liveOk none) (f := turnD (C (k + 1)) [3] (.nm 3) .tru (.meth .pop (.var 2) (.cons (.call "_law_take" (.cons (.var 0) (.cons (.bi .len (.cons (.var 2) .nil)) .nil))) .nil)) [some (.ref 1), some (dN n), some (.ref 2), none])
    (xs := (List.range n).map dN) (h := DS ns i v s [.lst ((List.range n).map dN)])
    (fun j ys h => ∃ i v s l zs, h = DS ns i v s [.lst (l.map dN)] ∧ ys = zs.map dN ∧ (zs ++ l).Perm (List.range n) ∧ l.length = n - j) 0 [] ⟨i, v, s, List.range n, [], rfl, rfl, List.Perm.refl _, by simp⟩
    (fun j x ys h hj hq => by
      obtain ⟨i, v, s, l, zs, rfl, rfl, hp, hl⟩ := hq
      obtain ⟨hlt, rfl⟩ := range_at hj
      have pos : 0 < l.length := by omega
      obtain ⟨r, i', v', s', et, hr⟩ := sp_take (k := k) (i := i) (v := v) (s := s) (ns := ns) (rest := [.lst (l.map dN)]) pos (by omega)
      refine ⟨rfl, [dN l[r]], DS ns i' v' s' [.lst ((l.eraseIdx r).map dN)], ?_, i', v', s', l.eraseIdx r, zs ++ [l[r]], rfl, by simp, ?_, by rw [List.length_eraseIdx_of_lt hr]; omega⟩
      · refine turnD_ok (δ1 := [some (.ref 1), some (dN n), some (.ref 2), some (dN j)]) rfl rfl ?_
        refine meth_run (x := .ref 2) rfl rfl (one_L (call_run2 (x := .ref 1) (y := dN l.length) rfl ?_ et (by unfold DS; simp))) ((pop_at (m := 2) (k := r) (ys := l.map dN) (y := dN l[r]) rfl (by rw [List.getElem?_map, List.getElem?_eq_getElem hr]; rfl) (by omega)).trans ?_) (by unfold DS; simp)
        · have := len_ref (cl := C (k + 1)) (i := 2) (δ := [some (.ref 1), some (dN n), some (.ref 2), some (dN j)]) (h := DS ns i v s [.lst (l.map dN)]) (n := 2) (xs := l.map dN) rfl rfl
          rw [List.length_map] at this; exact this
        · rw [erase_map]; rfl
      · rw [List.append_assoc]
        refine List.Perm.trans (List.Perm.append_left zs ?_) hp
        exact erase_perm hr) (fun _ _ _ => rfl)
  have hl0 : l = [] := by
    simp at hl
    exact hl
  subst hl0
  rw [List.append_nil] at hp
  refine ⟨zs, i', v', s', (call_run (d := ⟨2, 4, c__law_shuffled⟩) rfl rfl (v := P zs) (h1 := DS ns i' v' s' [.lst []]) ?_).trans ?_, ⟨by rw [hp.length_eq, List.length_range], hp.nodup_iff.mpr List.nodup_range, fun x hx => List.mem_range.mp (hp.mem_iff.mp hx)⟩⟩
  · refine (asgS (lrg_ok (n := n) rfl hn) (by simp [startE])).trans ?_
    refine retS (tuple_run (h' := DS ns i' v' s' [.lst []]) (lc_run (rng_ok1 (n := n) rfl hn) ec rfl ?_) rfl (wf3 (l := [])) los_nats ?_)
    · rw [List.length_map, hp.length_eq, List.length_range]; exact hn
    · rw [List.length_map, hp.length_eq, List.length_range]; exact hn
  · exact trim_to (h := DS ns i' v' s' []) (ext := [.lst []]) rfl DS.wf lo_P rfl
/-! ### the seed -/
theorem sp_begin {k : Nat} {ns : List Int} (hl : ns.length ≤ LIM) : ∃ s, C (k + 1) "_law_begin" [.fz ns] [] = .ok (.ref 1) (DS ns 0 0 s []) := by
  obtain ⟨δ', h', e, ⟨s, u, rfl⟩, rfl⟩ := forS (cl := C k) (r := .cons (.ret (.lst (.cons (.bi .list (.cons (.var 0) .nil)) (.cons (.lit (.int 0)) (.cons (.lit (.int 0)) (.cons (.var 1) .nil)))))) .nil) (b := .cons (.asg (.nm 1) (.bin .Mod (.bin .Add (.bin .Add (.bin .Mult (.var 1) (.lit (.int 48271))) (.bin .Mod (.bi .int (.cons (.var 2) .nil)) (.lit (.int 2147483629)))) (.lit (.int 11))) (.lit (.int 2147483647)))) .nil)
    (t := .nm 2) (it := .seq (.var 0)) (δ := [some (.fz ns), some (dN 5), none]) (h := []) (w := ⟨ns.map .int, none⟩) (h1 := [])
    (fun _ δ h => (∃ (s : Nat) (u : Option D), δ = [some (.fz ns), some (dN s), u]) ∧ h = []) rfl ⟨⟨5, none, rfl⟩, rfl⟩ (fun i x δ h hi hq => by
      obtain ⟨⟨s, u, rfl⟩, rfl⟩ := hq
      obtain ⟨z, hz⟩ : ∃ z, x = .int z := by
        have := List.mem_of_getElem? hi
        obtain ⟨z, _, rfl⟩ := List.mem_map.mp this
        exact ⟨z, rfl⟩
      subst hz
      have hm : ((z % 2147483629).toNat : Int) = z % 2147483629 := Int.toNat_of_nonneg (Int.emod_nonneg _ (by decide))
      refine ⟨rfl, _, _, _, rfl, .inl ((asgS (v := dN ((s * 48271 + (z % 2147483629).toNat + 11) % 2147483647)) (h1 := []) ?_ (by simp)).trans nilS), ⟨_, _, rfl⟩, rfl⟩
      refine binE (x := dN (s * 48271 + (z % 2147483629).toNat + 11)) (y := dN 2147483647) ?_ lit_ok (mod_nat (by decide))
      refine binE (x := dN (s * 48271 + (z % 2147483629).toNat)) (y := dN 11) ?_ lit_ok add_nat
      refine binE (x := dN (s * 48271)) (y := dN (z % 2147483629).toNat) (binE (x := dN s) (y := dN 48271) rfl lit_ok (mul_nat (by decide))) ?_ add_nat
      rw [show dN (z % 2147483629).toNat = .int (z % 2147483629) from congrArg D.int hm]
      exact binE (x := .int z) (y := .int 2147483629) (int_1 rfl) lit_ok rfl) (fun _ _ _ => rfl)
  refine ⟨s, (call_run (d := ⟨1, 3, c__law_begin⟩) rfl rfl (v := .ref 1) (h1 := DS ns 0 0 s []) ?_).trans rfl⟩
  refine (asgS (v := dN 5) (h1 := []) lit_ok (by simp [startE])).trans (e.trans (retS ?_))
  refine (lstE (h1 := [.lst (ns.map .int)]) (xs := [.ref 0, dN 0, dN 0, dN s]) (consL (x := .ref 0) (h1 := [.lst (ns.map .int)]) ?_ (consL lit_ok (consL lit_ok (consL rfl nilL)))) (by simp [LIM])).trans rfl
  simp only [evalE, evalL, R.bind_ok]
  show (mkL (ns.map D.int) []).tr 0 = _
  rw [mkL_ok (by simpa using hl), R.tr_ok]
  exact trim_one (h := [])
end Mi

namespace Mi
open PySem
/-! ## places behind a heap -/
theorem g0 {h t : HS} {a : Cell} : (h ++ a :: t)[h.length]? = some a := by simp
theorem g1 {h t : HS} {a b : Cell} : (h ++ a :: b :: t)[h.length + 1]? = some b := by simp
theorem gl {h J : HS} {a b l : Cell} : (h ++ a :: b :: (J ++ [l]))[h.length + (J.length + 2)]? = some l := by
  rw [List.getElem?_append_right (by omega)]
  simp [show h.length + (J.length + 2) - h.length = J.length + 2 by omega]
theorem s0 {h t : HS} {a a' : Cell} : (h ++ a :: t).set h.length a' = h ++ a' :: t := by simp
theorem s1 {h t : HS} {a b b' : Cell} : (h ++ a :: b :: t).set (h.length + 1) b' = h ++ a :: b' :: t := by simp
theorem sl {h J : HS} {a b l l' : Cell} : (h ++ a :: b :: (J ++ [l])).set (h.length + (J.length + 2)) l' = h ++ a :: b :: (J ++ [l']) := by
  rw [List.set_append_right _ _ (by omega)]
  simp [show h.length + (J.length + 2) - h.length = J.length + 2 by omega]
theorem hl2 {h J : HS} {a b : Cell} : (h ++ a :: b :: J).length = h.length + (J.length + 2) := by simp
/-! ## the dict of points seen -/
def seenD (sx : List Nat) : List (D × D) := sx.map fun x => (dN x, .bl true)
theorem seen_key {sx : List Nat} {x : Nat} : keyOk (seenD sx) (dN x) = true := by
  unfold keyOk seenD
  rw [Bool.or_eq_true]; left
  rw [Bool.and_eq_true]
  refine ⟨rfl, ?_⟩
  rw [List.all_map, List.all_eq_true]
  intro y _; rfl
theorem seen_get {sx : List Nat} {x : Nat} : (getK (seenD sx) (dN x)).isSome = decide (x ∈ sx) := by
  unfold getK seenD
  rw [Option.isSome_map]
  induction sx with
  | nil => rfl
  | cons y r ih =>
    rw [List.map_cons, List.find?_cons]
    by_cases c : y = x
    · subst c; simp
    · have : decide (dN y = dN x) = false := by
        rw [decide_eq_false_iff_not]
        intro e
        injection e with e
        omega
      rw [this]
      simp only
      rw [ih]
      rw [Bool.eq_iff_iff]; simp
      intro e; exact absurd e.symm c
theorem seen_put {sx : List Nat} {x : Nat} (h : x ∉ sx) : putK (seenD sx) (dN x) (.bl true) = seenD (sx ++ [x]) := by
  unfold putK
  have : ((seenD sx).any fun kv => decide (kv.1 = dN x)) = false := by
    unfold seenD
    rw [List.any_map, List.any_eq_false]
    intro y hy
    simp only [Function.comp, decide_eq_true_eq]
    intro e
    injection e with e
    have : y = x := by omega
    exact h (this ▸ hy)
  rw [this]
  simp [seenD]
theorem notin_seen {h : HS} {m x : Nat} {sx : List Nat} (e : h[m]? = some (.dct (seenD sx))) : cmpF .NotIn (dN x) (.ref m) h = some (!decide (x ∈ sx)) := by
  show (cmpF.inF (dN x) (.ref m) h).map (!·) = _
  unfold cmpF.inF
  simp only [e, seen_key, if_true, seen_get]
  rfl
theorem set_seen {h : HS} {m x : Nat} {sx : List Nat} (e : h[m]? = some (.dct (seenD sx))) (hx : x ∉ sx) (hl : sx.length < LIM) : setF (.ref m) (dN x) (.bl true) h = .ok () (h.set m (.dct (seenD (sx ++ [x])))) := by
  unfold setF
  simp only [e, seen_key, Bool.true_and]
  rw [if_pos (by simpa [seenD] using hl), seen_put hx]
theorem app_run {cl : Cl} {δ : En} {h : HS} {i m : Nat} {a : CE} {x : D} {ys : List D} (e : δ[i]? = some (some (.ref m))) (e2 : h[m]? = some (.lst ys)) (ha : evalE cl a δ h = .ok x h) (hl : ys.length < LIM) : evalE cl (.meth .append (.var i) (.cons a .nil)) δ h = .ok .non (h.set m (.lst (ys ++ [x]))) := by
  refine meth_run (x := .ref m) (var_ok e) ?_ (one_L ha) ?_ (by simp)
  · simp only [rcvOk, e2]
  · simp only [meF, e2, lstMe]
    rw [if_pos hl]
/-! ## cycles -/
def Pr (rs : List (List Nat)) : D := .tup (rs.map P)
def long (r : List Nat) : Bool := decide (1 < r.length)
def rows2 (p : List Nat) : List (List Nat) := (rows p).filter long
/-- what is found below s -/
def fnd (p : List Nat) (s : Nat) : List (List Nat) := (((List.range s).filter (mn p)).map (cyc p)).filter long
def its (p : List Nat) (s j : Nat) : List Nat := (List.range j).map fun i => it p i s
theorem its_succ {p : List Nat} {s j : Nat} : its p s (j + 1) = its p s j ++ [it p j s] := by
  unfold its
  rw [List.range_succ, List.map_append]; rfl
theorem its_len {p : List Nat} {s j : Nat} : (its p s j).length = j := by unfold its; simp
theorem fnd_succ {p : List Nat} {s : Nat} : fnd p (s + 1) = fnd p s ++ (if mn p s && long (cyc p s) then [cyc p s] else []) := by
  unfold fnd
  rw [List.range_succ, List.filter_append, List.map_append, List.filter_append]
  congr 1
  rw [List.filter_cons, List.filter_nil]
  cases mn p s <;> cases e : long (cyc p s) <;> simp [e]
theorem fnd_all {p : List Nat} : fnd p p.length = rows2 p := rfl
section
variable {n : Nat} {p : List Nat}
/-- s is seen before its turn just when it is not the least of its cycle -/
theorem Pm.seen_iff (hp : Pm n p) {s : Nat} (hs : s < n) {sx : List Nat} (hx : ∀ y, y ∈ sx ↔ ∃ m, m < s ∧ mn p m = true ∧ y ∈ cyc p m) : s ∈ sx ↔ mn p s = false := by
  rw [hx]
  constructor
  · rintro ⟨m, hm, _, hy⟩
    rw [← Bool.not_eq_true]
    intro e
    have := mn_iff.mp e m (hp.cyc_symm (by omega) hs hy)
    omega
  · intro e
    obtain ⟨m, hm, hmn, hy⟩ := hp.has_mn hs
    refine ⟨m, ?_, hmn, hy⟩
    have h1 := mn_iff.mp hmn s hy
    have : m ≠ s := fun z => by rw [z, e] at hmn; cases hmn
    omega
theorem sp_cycles {k : Nat} {h : HS} (hp : Pm n p) (hw : WF h) (hl : n < LIM) : C (k + 1) "cycles" [P p] h = .ok (Pr (rows2 p)) h := by
  have hpl : p.length = n := hp.len
  obtain ⟨δ', h', e, ⟨sx, J, x3, x4, x5, rfl, rfl, hsx, hnd⟩⟩ := forS (cl := C k) (r := .cons (.ret (.bi .tuple (.cons (.var 1) .nil))) .nil)
    (b := (.cons (.asg (.nm 4) (.lst .nil)) (.cons (.asg (.nm 5) (.var 3)) (.cons (.while_ (.cmp .NotIn (.var 5) (.var 2)) (.cons (.asg (.sub (.var 2) (.var 5)) (.lit (.bl true))) (.cons (.ex (.meth .append (.var 4) (.cons (.var 5) .nil))) (.cons (.asg (.nm 5) (.ix (.var 0) (.var 5))) .nil)))) (.cons (.ifs (.cmp .Gt (.bi .len (.cons (.var 4) .nil)) (.lit (.int 1))) (.cons (.ex (.meth .append (.var 1) (.cons (.bi .tuple (.cons (.var 4) .nil)) .nil))) .nil) .nil) .nil)))))
    (t := .nm 3) (it := .rng (.cons (.bi .len (.cons (.var 0) .nil)) .nil)) (δ := [some (P p), some (.ref h.length), some (.ref (h.length + 1)), none, none, none]) (h := h ++ .lst [] :: .dct (seenD []) :: [])
    (fun s δ h' => ∃ sx J x3 x4 x5, δ = [some (P p), some (.ref h.length), some (.ref (h.length + 1)), x3, x4, x5] ∧ h' = h ++ .lst ((fnd p s).map P) :: .dct (seenD sx) :: J ∧ (∀ y, y ∈ sx ↔ ∃ m, m < s ∧ mn p m = true ∧ y ∈ cyc p m) ∧ sx.Nodup)
    (rng_ok1 (len_P rfl) (by omega)) ⟨[], [], none, none, none, rfl, rfl, fun y => by simp, List.nodup_nil⟩ (fun s x δ h1 hi hq => by
      obtain ⟨sx, J, x3, x4, x5, rfl, rfl, hsx, hnd⟩ := hq
      obtain ⟨hlt, rfl⟩ := range_at hi
      have hs : s < n := by omega
      -- the new list, the point
      have st : ∀ r : CSs, execB (C k) (.cons (.asg (.nm 4) (.lst .nil)) (.cons (.asg (.nm 5) (.var 3)) r)) [some (P p), some (.ref h.length), some (.ref (h.length + 1)), some (dN s), x4, x5] (h ++ .lst ((fnd p s).map P) :: .dct (seenD sx) :: J) =
          execB (C k) r [some (P p), some (.ref h.length), some (.ref (h.length + 1)), some (dN s), some (.ref (h.length + (J.length + 2))), some (dN s)] (h ++ .lst ((fnd p s).map P) :: .dct (seenD sx) :: (J ++ [.lst []])) := fun r => by
        refine (asgS (lstE nilL (by simp [LIM])) (by simp)).trans ?_
        rw [hl2]
        refine (asgS (v := dN s) rfl (by simp)).trans ?_
        simp
      refine ⟨rfl, [some (P p), some (.ref h.length), some (.ref (h.length + 1)), some (dN s), x4, x5], ?_⟩
      by_cases hm : mn p s = true
      · -- a new cycle
        have hns : s ∉ sx := fun hh => by rw [(hp.seen_iff hs hsx).mp hh] at hm; cases hm
        have off : ∀ j, it p j s ∉ sx := fun j hh => by
          obtain ⟨m, hm', hmn, hy⟩ := (hsx _).mp hh
          have := hp.mn_unique (by omega) hs (hp.it_lt hs j) hmn hm hy ((hp.mem_cyc hs).mpr ⟨j, rfl⟩)
          omega
        obtain ⟨δw, hw', ew, j, hj0, hj, rfl, rfl⟩ := whileS (cl := C k) (r := (.cons (.ifs (.cmp .Gt (.bi .len (.cons (.var 4) .nil)) (.lit (.int 1))) (.cons (.ex (.meth .append (.var 1) (.cons (.bi .tuple (.cons (.var 4) .nil)) .nil))) .nil) .nil) .nil)) (c := .cmp .NotIn (.var 5) (.var 2))
          (b := (.cons (.asg (.sub (.var 2) (.var 5)) (.lit (.bl true))) (.cons (.ex (.meth .append (.var 4) (.cons (.var 5) .nil))) (.cons (.asg (.nm 5) (.ix (.var 0) (.var 5))) .nil))))
          (δ := [some (P p), some (.ref h.length), some (.ref (h.length + 1)), some (dN s), some (.ref (h.length + (J.length + 2))), some (dN s)]) (h := h ++ .lst ((fnd p s).map P) :: .dct (seenD sx) :: (J ++ [.lst []]))
          (fun m δ h' => ∃ j, m = per p s - j ∧ j ≤ per p s ∧ δ = [some (P p), some (.ref h.length), some (.ref (h.length + 1)), some (dN s), some (.ref (h.length + (J.length + 2))), some (dN (it p j s))] ∧ h' = h ++ .lst ((fnd p s).map P) :: .dct (seenD (sx ++ its p s j)) :: (J ++ [.lst ((its p s j).map dN)]))
          (per p s) (by have := (hp.per_spec hs).2.1; unfold FUEL; unfold LIM at hl; omega) ⟨0, rfl, Nat.zero_le _, rfl, by simp [its]⟩ (fun m δ h' hq => by
            obtain ⟨j, rfl, hj, rfl, rfl⟩ := hq
            have nin : it p j s ∈ sx ++ its p s j ↔ j = per p s := by
              rw [List.mem_append]
              constructor
              · rintro (hh | hh)
                · exact absurd hh (off j)
                · unfold its at hh
                  obtain ⟨i, hi, ei⟩ := List.mem_map.mp hh
                  rw [List.mem_range] at hi
                  by_cases c : j = per p s
                  · exact c
                  · have := hp.it_eq hs (i := i) (j := j) (by omega) (by omega) ei
                    omega
              · intro c
                right
                rw [c, (hp.per_spec hs).1]
                unfold its
                exact List.mem_map.mpr ⟨0, List.mem_range.mpr per_pos, rfl⟩
            by_cases c : j = per p s
            · refine .inl ⟨_, cmpB (x := dN (it p j s)) (y := .ref (h.length + 1)) rfl rfl ?_, ⟨j, by omega, hj, rfl, rfl⟩, by omega⟩
              rw [notin_seen g1, decide_eq_true (nin.mpr c)]; rfl
            · refine .inr ⟨_, _, _, per p s - (j + 1), cmpB (x := dN (it p j s)) (y := .ref (h.length + 1)) rfl rfl (by rw [notin_seen g1, decide_eq_false (fun z => c (nin.mp z))]; rfl), .inl ?_, by omega, j + 1, rfl, by omega, rfl, rfl⟩
              have hitl := hp.it_lt hs j
              have cnt : (sx ++ its p s j).length < LIM := by
                have : (sx ++ its p s j).length ≤ n := by
                  have := ph (l := sx ++ its p s j) (m := List.range n) ?_ ?_
                  · simpa using this
                  · rw [List.nodup_append]
                    refine ⟨hnd, ?_, fun a ha b hb e => ?_⟩
                    · unfold its
                      rw [List.nodup_iff_pairwise_ne, List.pairwise_iff_getElem]
                      intro a b ha hb hab e
                      simp at ha hb e
                      have := hp.it_eq hs (by omega) (by omega) e
                      omega
                    · unfold its at hb
                      obtain ⟨i, _, rfl⟩ := List.mem_map.mp hb
                      exact off i (e ▸ ha)
                  · intro y hy
                    rw [List.mem_range]
                    rcases List.mem_append.mp hy with hy | hy
                    · obtain ⟨m, hm', _, hy⟩ := (hsx _).mp hy
                      exact hp.cyc_lt (by omega) hy
                    · unfold its at hy
                      obtain ⟨i, _, rfl⟩ := List.mem_map.mp hy
                      exact hp.it_lt hs i
                omega
              refine (subS (x := .ref (h.length + 1)) (y := dN (it p j s)) lit_ok rfl rfl (set_seen g1 (fun z => c (nin.mp z)) cnt)).trans ?_
              rw [s1]
              refine (exS (app_run (m := h.length + (J.length + 2)) rfl gl rfl (by
                rw [List.length_map, its_len]
                have := (hp.per_spec hs).2.1; omega))).trans ?_
              rw [sl]
              refine (asgS (ix_P (p := p) (k := it p j s) rfl rfl (by omega)) (by simp)).trans (nilS.trans ?_)
              rw [its_succ, List.map_append, List.append_assoc]
              rfl)
        have hjp : j = per p s := by omega
        subst hjp
        have hcyc : its p s (per p s) = cyc p s := rfl
        rw [hcyc] at ew
        have sx' : ∀ y, y ∈ sx ++ cyc p s ↔ ∃ m, m < s + 1 ∧ mn p m = true ∧ y ∈ cyc p m := fun y => by
          rw [List.mem_append, hsx]
          constructor
          · rintro (⟨m, h1, h2, h3⟩ | h3)
            · exact ⟨m, by omega, h2, h3⟩
            · exact ⟨s, by omega, hm, h3⟩
          · rintro ⟨m, h1, h2, h3⟩
            by_cases c : m = s
            · subst c; exact .inr h3
            · exact .inl ⟨m, by omega, h2, h3⟩
        have nd' : (sx ++ cyc p s).Nodup := by
          rw [List.nodup_append]
          refine ⟨hnd, hp.cyc_nd hs, fun a ha b hb e => ?_⟩
          obtain ⟨i, rfl⟩ := (hp.mem_cyc hs).mp hb
          exact off i (e ▸ ha)
        have hlen : evalE (C k) (.bi .len (.cons (.var 4) .nil)) [some (P p), some (.ref h.length), some (.ref (h.length + 1)), some (dN s), some (.ref (h.length + (J.length + 2))), some (dN (it p (per p s) s))] (h ++ .lst ((fnd p s).map P) :: .dct (seenD (sx ++ cyc p s)) :: (J ++ [.lst ((cyc p s).map dN)])) = .ok (dN (cyc p s).length) (h ++ .lst ((fnd p s).map P) :: .dct (seenD (sx ++ cyc p s)) :: (J ++ [.lst ((cyc p s).map dN)])) := by
          have := len_ref (cl := C k) (i := 4) (δ := [some (P p), some (.ref h.length), some (.ref (h.length + 1)), some (dN s), some (.ref (h.length + (J.length + 2))), some (dN (it p (per p s) s))]) (h := h ++ .lst ((fnd p s).map P) :: .dct (seenD (sx ++ cyc p s)) :: (J ++ [.lst ((cyc p s).map dN)])) rfl gl
          rw [List.length_map] at this; exact this
        by_cases cl : long (cyc p s) = true
        · refine ⟨_, _, rfl, .inl ((st _).trans (ew.trans ((ifT (cmpB (x := dN (cyc p s).length) (y := dN 1) hlen lit_ok (by rw [cmp_gt]; unfold long at cl; rw [cl])) ((exS (app_run (m := h.length) (ys := (fnd p s).map P) (x := P (cyc p s)) rfl g0 (tuple_ref rfl gl ?_) ?_)).trans nilS)).trans nilS))), sx ++ cyc p s, J ++ [.lst ((cyc p s).map dN)], _, _, _, rfl, ?_, sx', nd'⟩
          · rw [List.length_map, cyc_len]; have := (hp.per_spec hs).2.1; omega
          · rw [List.length_map]
            have : (fnd p s).length ≤ s := by
              unfold fnd
              refine Nat.le_trans (List.length_filter_le _ _) ?_
              rw [List.length_map]
              refine Nat.le_trans (List.length_filter_le _ _) ?_
              simp
            omega
          · rw [s0, fnd_succ, hm, cl]; simp
        · refine ⟨_, _, rfl, .inl ((st _).trans (ew.trans ((ifF (cmpB (x := dN (cyc p s).length) (y := dN 1) hlen lit_ok (by rw [cmp_gt]; unfold long at cl; simpa using cl))).trans nilS))), sx ++ cyc p s, J ++ [.lst ((cyc p s).map dN)], _, _, _, rfl, ?_, sx', nd'⟩
          rw [fnd_succ, hm]
          simp [cl]
      · -- it was seen
        have hm : mn p s = false := by simpa using hm
        have hin : s ∈ sx := (hp.seen_iff hs hsx).mpr hm
        have wend : execB (C k) (.cons (.while_ (.cmp .NotIn (.var 5) (.var 2)) (.cons (.asg (.sub (.var 2) (.var 5)) (.lit (.bl true))) (.cons (.ex (.meth .append (.var 4) (.cons (.var 5) .nil))) (.cons (.asg (.nm 5) (.ix (.var 0) (.var 5))) .nil)))) (.cons (.ifs (.cmp .Gt (.bi .len (.cons (.var 4) .nil)) (.lit (.int 1))) (.cons (.ex (.meth .append (.var 1) (.cons (.bi .tuple (.cons (.var 4) .nil)) .nil))) .nil) .nil) .nil))
            [some (P p), some (.ref h.length), some (.ref (h.length + 1)), some (dN s), some (.ref (h.length + (J.length + 2))), some (dN s)] (h ++ .lst ((fnd p s).map P) :: .dct (seenD sx) :: (J ++ [.lst []])) =
            .next [some (P p), some (.ref h.length), some (.ref (h.length + 1)), some (dN s), some (.ref (h.length + (J.length + 2))), some (dN s)] (h ++ .lst ((fnd p s).map P) :: .dct (seenD sx) :: (J ++ [.lst []])) := by
          obtain ⟨δw, hw', ew, _, rfl, rfl⟩ := whileS (cl := C k) (r := (.cons (.ifs (.cmp .Gt (.bi .len (.cons (.var 4) .nil)) (.lit (.int 1))) (.cons (.ex (.meth .append (.var 1) (.cons (.bi .tuple (.cons (.var 4) .nil)) .nil))) .nil) .nil) .nil)) (c := .cmp .NotIn (.var 5) (.var 2))
            (b := (.cons (.asg (.sub (.var 2) (.var 5)) (.lit (.bl true))) (.cons (.ex (.meth .append (.var 4) (.cons (.var 5) .nil))) (.cons (.asg (.nm 5) (.ix (.var 0) (.var 5))) .nil))))
            (fun m δ h' => m = 0 ∧ δ = [some (P p), some (.ref h.length), some (.ref (h.length + 1)), some (dN s), some (.ref (h.length + (J.length + 2))), some (dN s)] ∧ h' = h ++ .lst ((fnd p s).map P) :: .dct (seenD sx) :: (J ++ [.lst []])) 0 (by unfold FUEL; decide) ⟨rfl, rfl, rfl⟩ (fun m δ h' hq => by
              obtain ⟨rfl, rfl, rfl⟩ := hq
              refine .inl ⟨_, cmpB (x := dN s) (y := .ref (h.length + 1)) rfl rfl ?_, ⟨rfl, rfl, rfl⟩, rfl⟩
              rw [notin_seen g1, decide_eq_true hin]; rfl)
          exact ew.trans ((ifF (cmpB (x := dN 0) (y := dN 1) (len_ref rfl gl) lit_ok (by rw [cmp_gt]; rfl))).trans nilS)
        refine ⟨_, _, rfl, .inl ((st _).trans wend), sx, J ++ [.lst []], _, _, _, rfl, ?_, fun y => ?_, hnd⟩
        · rw [fnd_succ, hm]; simp
        · rw [hsx]
          constructor
          · rintro ⟨m, h1, h2, h3⟩; exact ⟨m, by omega, h2, h3⟩
          · rintro ⟨m, h1, h2, h3⟩
            by_cases c : m = s
            · subst c; rw [hm] at h2; cases h2
            · exact ⟨m, by omega, h2, h3⟩) (fun _ _ _ => rfl)
  have main : execB (C k) c_cycles [some (P p), none, none, none, none, none] h = .ret (Pr (rows2 p)) (h ++ .lst ((rows2 p).map P) :: .dct (seenD sx) :: J) := by
    refine (asgS (lstE nilL (by simp [LIM])) (by simp)).trans ?_
    refine (asgS (v := .ref (h.length + 1)) (h1 := h ++ .lst [] :: .dct (seenD []) :: []) ?_ (by simp)).trans ?_
    · simp only [evalE]
      simp [seenD]
    · refine e.trans (retS ?_)
      simp only [List.length_map, List.length_range, fnd_all]
      refine tuple_ref rfl g0 ?_
      rw [List.length_map]
      have : (rows2 p).length ≤ n := by
        unfold rows2 rows
        refine Nat.le_trans (List.length_filter_le _ _) ?_
        rw [List.length_map]
        refine Nat.le_trans (List.length_filter_le _ _) ?_
        simp [hpl]
      omega
  exact (call_run (d := ⟨1, 6, c_cycles⟩) rfl rfl main).trans (trim_app hw (by unfold Pr; rw [D.lo]; exact los_map fun x _ => lo_P) rfl)
end
end Mi

namespace Mi
open PySem
/-! ## rows of cycles, made by the law -/
theorem cmpEq {x y : D} {h : HS} : cmpF .Eq x y h = eqD h x y := rfl
theorem cmpNe {x y : D} {h : HS} : cmpF .NotEq x y h = (eqD h x y).map (!·) := rfl
theorem h1l {h J : HS} {a : Cell} : (h ++ a :: J).length = h.length + (J.length + 1) := by simp
theorem gl1 {h J : HS} {a l : Cell} : (h ++ a :: (J ++ [l]))[h.length + (J.length + 1)]? = some l := by
  rw [List.getElem?_append_right (by omega)]
  simp [show h.length + (J.length + 1) - h.length = J.length + 1 by omega]
theorem sl1 {h J : HS} {a l l' : Cell} : (h ++ a :: (J ++ [l])).set (h.length + (J.length + 1)) l' = h ++ a :: (J ++ [l']) := by
  rw [List.set_append_right _ _ (by omega)]
  simp [show h.length + (J.length + 1) - h.length = J.length + 1 by omega]
theorem atI_end {α : Type} {xs : List α} {v : α} : L2.atI (xs ++ [v]) (-1) = some v := by
  unfold L2.atI
  rw [ixN_neg1 (by simp)]
  simp
theorem ix_last {cl : Cl} {δ : En} {h : HS} {i m : Nat} {xs : List D} {v : D} (e : δ[i]? = some (some (.ref m))) (e2 : h[m]? = some (.lst (xs ++ [v]))) : evalE cl (.ix (.var i) (.neg (.lit (.int 1)))) δ h = .ok v h := by
  simp only [evalE, e, R.bind_ok, ixF, e2]
  rw [show (-(1 : Int)) = -1 from rfl, atI_end]
  simp only [ofO_ok, R.tr_ok, trim_self]
theorem intsD_nats : ∀ {l : List Nat}, intsD (l.map dN) = some (l.map fun (x : Nat) => (x : Int))
  | [] => rfl
  | x :: r => by
    rw [List.map_cons, intsD, intsD_nats]; rfl
theorem least_eq {l : List Nat} {x : Nat} (h : x ∈ l) : decide (leastI (l.map fun (y : Nat) => (y : Int)) = (x : Int)) = l.all fun y => decide (x ≤ y) := by
  have ne : (l.map fun (y : Nat) => (y : Int)) ≠ [] := by intro e; rw [List.map_eq_nil_iff] at e; rw [e] at h; cases h
  obtain ⟨h1, h2⟩ := leastI_mem ne
  rw [Bool.eq_iff_iff, decide_eq_true_eq, List.all_eq_true]
  constructor
  · intro e y hy
    have := h2 (y : Int) (List.mem_map.mpr ⟨y, hy, rfl⟩)
    rw [e] at this
    simp; omega
  · intro a
    obtain ⟨y, hy, e⟩ := List.mem_map.mp h1
    have b := a y hy
    have c := h2 (x : Int) (List.mem_map.mpr ⟨x, h, rfl⟩)
    simp at b
    omega
theorem min_ref {cl : Cl} {δ : En} {h : HS} {i m : Nat} {l : List Nat} (e : δ[i]? = some (some (.ref m))) (e2 : h[m]? = some (.lst (l.map dN))) (ne : l ≠ []) : evalE cl (.bi .min (.cons (.var i) .nil)) δ h = .ok (.int (leastI (l.map fun (y : Nat) => (y : Int)))) h := by
  simp only [evalE, evalL, e, R.bind_ok, biF, e2, intsD_nats]
  rw [if_neg]
  · simp only [R.tr_ok, trim_self]
  · simpa using ne
theorem trim_ref {n m : Nat} {h ext : HS} {c : Cell} (hn : n = h.length) (hw : WF h) (hm : h.length ≤ m) (hc : (h ++ ext)[m]? = some c) (hl : c.lo h.length = true) : trim n (.ref m) (h ++ ext) = .ok (.ref h.length) (h ++ [c]) := by
  subst hn; exact trim_new hw hm hc hl
def rfnd (p : List Nat) (s : Nat) : List (List Nat) := ((List.range s).filter (mn p)).map (cyc p)
theorem rfnd_succ {p : List Nat} {s : Nat} : rfnd p (s + 1) = rfnd p s ++ (if mn p s then [cyc p s] else []) := by
  unfold rfnd
  rw [List.range_succ, List.filter_append, List.map_append]
  congr 1
  rw [List.filter_cons, List.filter_nil]
  cases mn p s <;> rfl
section
variable {n : Nat} {p : List Nat}
theorem rfnd_len {s : Nat} : (rfnd p s).length ≤ s := by
  unfold rfnd
  rw [List.length_map]
  refine Nat.le_trans (List.length_filter_le _ _) ?_
  simp
theorem sp_rows {k : Nat} {h : HS} (hp : Pm n p) (hw : WF h) (hl : n < LIM) : C (k + 1) "_law_rows" [P p] h = .ok (.ref h.length) (h ++ [.lst ((rows p).map P)]) := by
  have hpl : p.length = n := hp.len
  obtain ⟨δ', h', e, ⟨J, x2, x3, rfl, rfl⟩⟩ := forS (cl := C k) (r := .cons (.ret (.var 1)) .nil)
    (b := (.cons (.asg (.nm 3) (.lst (.cons (.var 2) .nil))) (.cons (.while_ (.cmp .NotEq (.ix (.var 0) (.ix (.var 3) (.neg (.lit (.int 1))))) (.var 2)) (.cons (.ex (.meth .append (.var 3) (.cons (.ix (.var 0) (.ix (.var 3) (.neg (.lit (.int 1))))) .nil))) .nil)) (.cons (.ifs (.cmp .Eq (.bi .min (.cons (.var 3) .nil)) (.var 2)) (.cons (.ex (.meth .append (.var 1) (.cons (.bi .tuple (.cons (.var 3) .nil)) .nil))) .nil) .nil) .nil))))
    (t := .nm 2) (it := .rng (.cons (.bi .len (.cons (.var 0) .nil)) .nil)) (δ := [some (P p), some (.ref h.length), none, none]) (h := h ++ .lst [] :: [])
    (fun s δ h' => ∃ J x2 x3, δ = [some (P p), some (.ref h.length), x2, x3] ∧ h' = h ++ .lst ((rfnd p s).map P) :: J)
    (rng_ok1 (len_P rfl) (by omega)) ⟨[], none, none, rfl, rfl⟩ (fun s x δ h1 hi hq => by
      obtain ⟨J, x2, x3, rfl, rfl⟩ := hq
      obtain ⟨hlt, rfl⟩ := range_at hi
      have hs : s < n := by omega
      refine ⟨rfl, [some (P p), some (.ref h.length), some (dN s), x3], ?_⟩
      have st : ∀ r : CSs, execB (C k) (.cons (.asg (.nm 3) (.lst (.cons (.var 2) .nil))) r) [some (P p), some (.ref h.length), some (dN s), x3] (h ++ .lst ((rfnd p s).map P) :: J) =
          execB (C k) r [some (P p), some (.ref h.length), some (dN s), some (.ref (h.length + (J.length + 1)))] (h ++ .lst ((rfnd p s).map P) :: (J ++ [.lst ((its p s 1).map dN)])) := fun r => by
        refine (asgS (lstE (xs := [dN s]) (consL rfl nilL) (by simp [LIM])) (by simp)).trans ?_
        rw [h1l]
        simp [its, it]
      have ixl : ∀ j, evalE (C k) (.ix (.var 0) (.ix (.var 3) (.neg (.lit (.int 1))))) [some (P p), some (.ref h.length), some (dN s), some (.ref (h.length + (J.length + 1)))] (h ++ .lst ((rfnd p s).map P) :: (J ++ [.lst ((its p s (j + 1)).map dN)])) = .ok (dN (it p (j + 1) s)) (h ++ .lst ((rfnd p s).map P) :: (J ++ [.lst ((its p s (j + 1)).map dN)])) := fun j => by
        refine ix_P (p := p) (k := it p j s) rfl (ix_last (m := h.length + (J.length + 1)) (xs := (its p s j).map dN) rfl ?_) (by have := hp.it_lt hs j; omega)
        rw [gl1, its_succ, List.map_append]; rfl
      have hper := (hp.per_spec hs)
      have hpos : 0 < per p s := per_pos
      obtain ⟨δw, hw', ew, j, hj0, hj, rfl, rfl⟩ := whileS (cl := C k) (r := (.cons (.ifs (.cmp .Eq (.bi .min (.cons (.var 3) .nil)) (.var 2)) (.cons (.ex (.meth .append (.var 1) (.cons (.bi .tuple (.cons (.var 3) .nil)) .nil))) .nil) .nil) .nil)) (c := .cmp .NotEq (.ix (.var 0) (.ix (.var 3) (.neg (.lit (.int 1))))) (.var 2))
        (b := (.cons (.ex (.meth .append (.var 3) (.cons (.ix (.var 0) (.ix (.var 3) (.neg (.lit (.int 1))))) .nil))) .nil))
        (δ := [some (P p), some (.ref h.length), some (dN s), some (.ref (h.length + (J.length + 1)))]) (h := h ++ .lst ((rfnd p s).map P) :: (J ++ [.lst ((its p s 1).map dN)]))
        (fun m δ h' => ∃ j, m = per p s - (j + 1) ∧ j + 1 ≤ per p s ∧ δ = [some (P p), some (.ref h.length), some (dN s), some (.ref (h.length + (J.length + 1)))] ∧ h' = h ++ .lst ((rfnd p s).map P) :: (J ++ [.lst ((its p s (j + 1)).map dN)]))
        (per p s - 1) (by have := hper.2.1; unfold FUEL; unfold LIM at hl; omega) ⟨0, rfl, hpos, rfl, rfl⟩ (fun m δ h' hq => by
          obtain ⟨j, rfl, hj, rfl, rfl⟩ := hq
          by_cases c : j + 1 = per p s
          · refine .inl ⟨_, cmpB (x := dN (it p (j + 1) s)) (y := dN s) (ixl j) rfl ?_, ⟨j, by omega, hj, rfl, rfl⟩, by omega⟩
            rw [cmp_ne, c, hper.1, decide_eq_true rfl]; rfl
          · refine .inr ⟨_, _, _, per p s - (j + 2), cmpB (x := dN (it p (j + 1) s)) (y := dN s) (ixl j) rfl (by rw [cmp_ne, decide_eq_false (hper.2.2 (j + 1) (by omega) (by omega))]; rfl), .inl ?_, by omega, j + 1, rfl, by omega, rfl, rfl⟩
            refine (exS (app_run (m := h.length + (J.length + 1)) rfl gl1 (ixl j) (by
                rw [List.length_map, its_len]
                have := hper.2.1; omega))).trans (nilS.trans ?_)
            rw [sl1, its_succ (j := j + 1), List.map_append]; rfl)
      have hjp : j + 1 = per p s := by omega
      have hcyc : its p s (j + 1) = cyc p s := by rw [hjp]; rfl
      rw [hcyc] at ew
      have ne : cyc p s ≠ [] := List.ne_nil_of_mem (hp.self_cyc hs)
      have hmin : evalB (C k) (.cmp .Eq (.bi .min (.cons (.var 3) .nil)) (.var 2)) [some (P p), some (.ref h.length), some (dN s), some (.ref (h.length + (J.length + 1)))] (h ++ .lst ((rfnd p s).map P) :: (J ++ [.lst ((cyc p s).map dN)])) = .ok (mn p s) (h ++ .lst ((rfnd p s).map P) :: (J ++ [.lst ((cyc p s).map dN)])) :=
        cmpB (x := .int (leastI ((cyc p s).map fun (y : Nat) => (y : Int)))) (y := dN s) (min_ref rfl gl1 ne) rfl (by
          rw [cmpEq, eqD_int, least_eq (hp.self_cyc hs)]; rfl)
      by_cases hm : mn p s = true
      · rw [hm] at hmin
        refine ⟨_, _, rfl, .inl ((st _).trans (ew.trans ((ifT hmin ((exS (app_run (m := h.length) (ys := (rfnd p s).map P) (x := P (cyc p s)) rfl g0 (tuple_ref rfl gl1 ?_) ?_)).trans nilS)).trans nilS))), J ++ [.lst ((cyc p s).map dN)], _, _, rfl, ?_⟩
        · rw [List.length_map, cyc_len]; have := hper.2.1; omega
        · rw [List.length_map]; have := rfnd_len (p := p) (s := s); omega
        · rw [s0, rfnd_succ, hm]; simp
      · have hm : mn p s = false := by simpa using hm
        rw [hm] at hmin
        refine ⟨_, _, rfl, .inl ((st _).trans (ew.trans ((ifF hmin).trans nilS))), J ++ [.lst ((cyc p s).map dN)], _, _, rfl, ?_⟩
        rw [rfnd_succ, hm]; simp) (fun _ _ _ => rfl)
  have main : execB (C k) c__law_rows [some (P p), none, none, none] h = .ret (.ref h.length) (h ++ .lst ((rows p).map P) :: J) := by
    refine (asgS (lstE nilL (by simp [LIM])) (by simp)).trans (e.trans (retS ?_))
    simp only [List.length_map, List.length_range]
    rfl
  exact (call_run (d := ⟨1, 4, c__law_rows⟩) rfl rfl main).trans (trim_ref rfl hw (Nat.le_refl _) g0 (los_map fun x _ => lo_P))
/-! ## sorted lengths -/
def leI (a b : Int) : Bool := decide (a ≤ b)
theorem sorted_eq {l m : List Int} (h : l.Perm m) (hs : l.Pairwise (fun a b => leI a b = true)) : m.mergeSort leI = l := by
  have t : ∀ a b c : Int, leI a b = true → leI b c = true → leI a c = true := fun a b c h1 h2 => by unfold leI at *; simp at *; omega
  have tt : ∀ a b : Int, (leI a b || leI b a) = true := fun a b => by unfold leI; simp; omega
  have e1 : m.mergeSort leI = l.mergeSort leI := by
    refine List.Perm.eq_of_pairwise ?_ (List.pairwise_mergeSort t tt m) (List.pairwise_mergeSort t tt l) ?_
    · intro a b _ _ h1 h2; unfold leI at *; simp at *; omega
    · exact (List.mergeSort_perm m leI).trans (h.symm.trans (List.mergeSort_perm l leI).symm)
  rw [e1]
  exact List.mergeSort_of_pairwise hs
def lens (rs : List (List Nat)) : List Int := rs.map fun r => (r.length : Int)
def kindL (p : List Nat) : List Int := (lens (rows p)).mergeSort leI
end
end Mi

namespace Mi
open PySem
/-! ## kind, is_even, moved -/
theorem Pm.row_pos {n : Nat} {p : List Nat} (hp : Pm n p) {r : List Nat} (hr : r ∈ rows p) : 1 ≤ r.length ∧ r.length ≤ n := by
  obtain ⟨x, hx, _, rfl⟩ := hp.rows_mem hr
  rw [cyc_len]; exact ⟨per_pos, (hp.per_spec hx).2.1⟩
def shorts (p : List Nat) : List (List Nat) := (rows p).filter fun r => !long r
theorem Pm.split {n : Nat} {p : List Nat} (hp : Pm n p) : ((rows2 p).map List.length).sum + (shorts p).length = n := by
  have pm : (rows2 p ++ shorts p).Perm (rows p) := List.filter_append_perm long (rows p)
  have e := (pm.map List.length).sum_nat
  rw [hp.rows_sum, List.map_append, List.sum_append] at e
  have : ∀ l : List (List Nat), (∀ r ∈ l, r.length = 1) → (l.map List.length).sum = l.length := by
    intro l
    induction l with
    | nil => intro _; rfl
    | cons r s ih =>
      intro h
      rw [List.map_cons, List.sum_cons, ih fun x hx => h x (List.mem_cons_of_mem _ hx), h r List.mem_cons_self, List.length_cons]; omega
  rw [this (shorts p) fun r hr => ?_] at e
  · exact e
  · unfold shorts at hr
    rw [List.mem_filter] at hr
    have := (hp.row_pos hr.1).1
    unfold long at hr
    simp at hr
    omega
theorem Pm.kind_eq {n : Nat} {p : List Nat} (hp : Pm n p) : List.replicate (n - ((rows2 p).map List.length).sum) (1 : Int) ++ (lens (rows2 p)).mergeSort leI = kindL p := by
  have t : ∀ a b c : Int, leI a b = true → leI b c = true → leI a c = true := fun a b c h1 h2 => by unfold leI at *; simp at *; omega
  have tt : ∀ a b : Int, (leI a b || leI b a) = true := fun a b => by unfold leI; simp; omega
  have hs := hp.split
  have ef : n - ((rows2 p).map List.length).sum = (shorts p).length := by omega
  rw [ef]
  have es : lens (shorts p) = List.replicate (shorts p).length (1 : Int) := by
    rw [List.eq_replicate_iff]
    refine ⟨by unfold lens; simp, fun x hx => ?_⟩
    unfold lens at hx
    obtain ⟨r, hr, rfl⟩ := List.mem_map.mp hx
    unfold shorts at hr
    rw [List.mem_filter] at hr
    have := (hp.row_pos hr.1).1
    unfold long at hr
    simp at hr
    omega
  refine (sorted_eq ?_ ?_).symm
  · rw [← es]
    have pm : (shorts p ++ rows2 p).Perm (rows p) := List.perm_append_comm.trans (List.filter_append_perm long (rows p))
    have := pm.map (fun r => (r.length : Int))
    rw [List.map_append] at this
    exact (List.Perm.append_left _ (List.mergeSort_perm _ _)).trans this
  · rw [List.pairwise_append]
    refine ⟨?_, List.pairwise_mergeSort t tt _, fun a ha b hb => ?_⟩
    · rw [List.pairwise_replicate]; right; rfl
    · rw [List.mem_replicate] at ha
      rw [List.mem_mergeSort] at hb
      unfold lens at hb
      obtain ⟨r, hr, rfl⟩ := List.mem_map.mp hb
      unfold rows2 at hr
      rw [List.mem_filter] at hr
      have := (hp.row_pos hr.1).1
      rw [ha.2]
      unfold leI; simp; omega
theorem rep_lst {cl : Cl} {δ : En} {h : HS} {b : CE} {x : Int} {m : Nat} (hb : ∀ h, evalE cl b δ h = .ok (dN m) h) (hw : WF h) (hl : m ≤ LIM) : evalE cl (.bin .Mult (.lst (.cons (.lit (.int x)) .nil)) b) δ h = .ok (.ref h.length) (h ++ [.lst (List.replicate m (.int x))]) := by
  simp only [evalE, evalL, R.bind_ok]
  rw [mkL_ok (by simp [LIM]), R.bind_ok, hb, R.bind_ok]
  simp only [binF, get_app_len]
  rw [if_pos ?_]
  · rw [R.tr_ok]
    have : (h ++ [Cell.lst [D.int x]] ++ [Cell.lst (List.replicate ((m : Int).toNat) [D.int x]).flatten]) = h ++ [Cell.lst [D.int x], Cell.lst (List.replicate m (.int x))] := by
      rw [List.append_assoc]
      congr 2
      simp
    rw [this]
    refine trim_new hw (by simp) (c := .lst (List.replicate m (.int x))) ?_ (los_all fun y hy => by rw [List.mem_replicate] at hy; rw [hy.2]; rfl)
    simp
  · simp [LIM] at hl ⊢
    omega
theorem intsD_ints : ∀ {l : List Int}, intsD (l.map .int) = some l
  | [] => rfl
  | x :: r => by rw [List.map_cons, intsD, intsD_ints]; rfl
theorem sum_cast : ∀ {l : List Nat}, (l.map fun (x : Nat) => (x : Int)).sum = ((l.sum : Nat) : Int)
  | [] => rfl
  | x :: r => by rw [List.map_cons, List.sum_cons, List.sum_cons, sum_cast]; omega
theorem sp_kind {k n : Nat} {p : List Nat} {h : HS} (hp : Pm n p) (hw : WF h) (hl : n < LIM) : C (k + 2) "kind" [P p] h = .ok (.tup ((kindL p).map .int)) h := by
  have hpl : p.length = n := hp.len
  have hr2 : (rows2 p).length ≤ n := by
    unfold rows2 rows
    refine Nat.le_trans (List.length_filter_le _ _) ?_
    rw [List.length_map]
    refine Nat.le_trans (List.length_filter_le _ _) ?_
    simp [hpl]
  have hsp := hp.split
  let h1 : HS := h ++ [.lst (((rows2 p).map List.length).map dN)]
  have hw1 : WF h1 := hw.app los_nats
  have e1 : evalE (C (k + 1)) (.lc [3] (.nm 3) (.seq (.call "cycles" (.cons (.var 0) .nil))) .tru (.bi .len (.cons (.var 3) .nil))) [some (P p), none, none, none] h = .ok (.ref h.length) h1 := by
    refine lc_new (seq_tup (call_1 (x := P p) rfl (sp_cycles hp hw hl))) ?_ (by simpa using (by omega : (rows2 p).length ≤ LIM))
    rw [List.map_map]
    exact comp_map rfl fun r hr => turnD_ok rfl rfl (len_P rfl)
  have e2 : evalE (C (k + 1)) (.bin .Sub (.bi .len (.cons (.var 0) .nil)) (.bi .sum (.cons (.var 1) .nil))) [some (P p), some (.ref h.length), none, none] h1 = .ok (dN (n - ((rows2 p).map List.length).sum)) h1 := by
    refine binE (x := dN p.length) (y := .int ((((rows2 p).map List.length).sum : Nat) : Int)) (len_P rfl) ?_ ?_
    · have : h1[h.length]? = some (.lst (((rows2 p).map List.length).map dN)) := get_app_len
      simp only [evalE, evalL, R.bind_ok, biF, List.getElem?_cons_succ, List.getElem?_cons_zero, this, intsD_nats, sum_cast, R.tr_ok, trim_self]
    · show R.ok (D.int ((p.length : Int) - _)) h1 = _
      rw [hpl]
      congr 2
      omega
  let fx := n - ((rows2 p).map List.length).sum
  have e3 : evalE (C (k + 1)) (.bin .Add (.bin .Mult (.lst (.cons (.lit (.int 1)) .nil)) (.var 2)) (.bi .sorted (.cons (.var 1) .nil))) [some (P p), some (.ref h.length), some (dN fx), none] h1 = .ok (.ref h1.length) (h1 ++ [.lst ((kindL p).map .int)]) := by
    have a1 : evalE (C (k + 1)) (.bin .Mult (.lst (.cons (.lit (.int 1)) .nil)) (.var 2)) [some (P p), some (.ref h.length), some (dN fx), none] h1 = .ok (.ref h1.length) (h1 ++ [.lst (List.replicate fx (.int 1))]) := rep_lst (fun _ => rfl) hw1 (by omega)
    let h2 : HS := h1 ++ [.lst (List.replicate fx (.int 1))]
    have g : h2[h.length]? = some (.lst (((rows2 p).map List.length).map dN)) := by
      show (h ++ [_] ++ [_])[h.length]? = _
      simp
    have a2 : evalE (C (k + 1)) (.bi .sorted (.cons (.var 1) .nil)) [some (P p), some (.ref h.length), some (dN fx), none] h2 = .ok (.ref h2.length) (h2 ++ [.lst (((lens (rows2 p)).mergeSort leI).map .int)]) := by
      have el : (((rows2 p).map List.length).map fun (x : Nat) => (x : Int)) = lens (rows2 p) := by rw [List.map_map]; rfl
      simp only [evalE, evalL, R.bind_ok, biF, List.getElem?_cons_succ, List.getElem?_cons_zero, itemsD, g, intsD_nats, el]
      have : (fun a b : Int => decide (a ≤ b)) = leI := rfl
      rw [this, mkL_ok (by rw [List.length_map, List.length_mergeSort]; unfold lens; rw [List.length_map]; omega), R.tr_ok]
      exact trim_one
    rw [evalE, a1, R.bind_ok]
    show ((evalE _ _ _ h2).bind _).tr _ = _
    rw [a2, R.bind_ok]
    have g1' : (h2 ++ [Cell.lst (((lens (rows2 p)).mergeSort leI).map .int)])[h1.length]? = some (.lst (List.replicate fx (.int 1))) := by
      show (h1 ++ [_] ++ [_])[h1.length]? = _
      simp
    simp only [binF, g1', get_app_len]
    have ek : List.replicate fx (D.int 1) ++ ((lens (rows2 p)).mergeSort leI).map .int = (kindL p).map .int := by
      rw [← hp.kind_eq, List.map_append, List.map_replicate]
    rw [ek, mkL_ok (by
      unfold kindL
      rw [List.length_map, List.length_mergeSort]
      unfold lens rows
      rw [List.length_map, List.length_map]
      have := List.length_filter_le (mn p) (List.range p.length)
      simp [hpl] at this ⊢
      omega), R.tr_ok]
    have : (h2 ++ [Cell.lst (((lens (rows2 p)).mergeSort leI).map .int)] ++ [Cell.lst ((kindL p).map .int)]) = h1 ++ [.lst (List.replicate fx (.int 1)), .lst (((lens (rows2 p)).mergeSort leI).map .int), .lst ((kindL p).map .int)] := by
      show (h1 ++ [_] ++ [_] ++ [_]) = _
      simp
    rw [this]
    refine trim_new hw1 ?_ ?_ los_ints
    · show h1.length ≤ (h1 ++ [_] ++ [_]).length
      simp
    · show (h1 ++ [_, _, _])[(h1 ++ [_] ++ [_]).length]? = _
      simp
  have main : execB (C (k + 1)) c_kind [some (P p), none, none, none] h = .ret (.tup ((kindL p).map .int)) h1 := by
    refine (asgS e1 (by simp)).trans ((asgS e2 (by simp)).trans (retS (tuple_new e3 hw1 los_ints ?_)))
    unfold kindL
    rw [List.length_map, List.length_mergeSort]
    unfold lens rows
    rw [List.length_map, List.length_map]
    have := List.length_filter_le (mn p) (List.range p.length)
    simp [hpl] at this ⊢
    omega
  exact (call_run (d := ⟨1, 4, c_kind⟩) rfl rfl main).trans (trim_app hw (by rw [D.lo]; exact los_ints) rfl)
end Mi

namespace Mi
open PySem
theorem kindL_len {n : Nat} {p : List Nat} (hp : Pm n p) : (kindL p).length = ((List.range n).filter (mn p)).length ∧ (kindL p).length ≤ n := by
  have e : (kindL p).length = ((List.range n).filter (mn p)).length := by
    unfold kindL
    rw [List.length_mergeSort]
    unfold lens rows
    rw [List.length_map, List.length_map, hp.len]
  refine ⟨e, ?_⟩
  rw [e]
  have := List.length_filter_le (mn p) (List.range n)
  simpa using this
theorem len_tup {cl : Cl} {e : CE} {δ : En} {h : HS} {xs : List D} (he : evalE cl e δ h = .ok (.tup xs) h) : evalE cl (.bi .len (.cons e .nil)) δ h = .ok (dN xs.length) h := by
  simp only [evalE, evalL, he, R.bind_ok, biF, itemsD, R.tr_ok, trim_self]
theorem sub_nat {a b : Nat} {h : HS} (hb : b ≤ a) : binF .Sub (dN a) (dN b) h = .ok (dN (a - b)) h := by
  show R.ok (D.int ((a : Int) - (b : Int))) h = _
  congr 2; omega
theorem sp_even {k n : Nat} {p : List Nat} {h : HS} (hp : Pm n p) (hw : WF h) (hl : n < LIM) : C (k + 3) "is_even" [P p] h = .ok (.bl (decide ((n - ((List.range n).filter (mn p)).length) % 2 = 0))) h := by
  obtain ⟨e1, e2⟩ := kindL_len hp
  refine (call_run (d := ⟨1, 1, c_is_even⟩) rfl rfl (h1 := h) (v := .bl (decide ((n - ((List.range n).filter (mn p)).length) % 2 = 0))) ?_).trans (trim_self _ _)
  rw [← e1]
  refine retS (cmpE (x := dN ((n - (kindL p).length) % 2)) (y := dN 0) ?_ lit_ok (by rw [cmp_eq]))
  refine binE (x := dN (n - (kindL p).length)) (y := dN 2) ?_ lit_ok (mod_nat (by decide))
  refine binE (x := dN n) (y := dN (kindL p).length) (by have := len_P (cl := C (k + 2)) (δ := [some (P p)]) (h := h) (i := 0) (p := p) rfl; rw [hp.len] at this; exact this) ?_ (sub_nat e2)
  have := len_tup (cl := C (k + 2)) (δ := [some (P p)]) (e := .call "kind" (.cons (.var 0) .nil)) (h := h) (call_1 (x := P p) rfl (sp_kind hp hw hl))
  rw [List.length_map] at this
  exact this
def mvd (n : Nat) (p : List Nat) : List Nat := (List.range n).filter fun x => decide (at_ p x ≠ x)
theorem enum_map {p : List Nat} : enumL 0 (p.map dN) = (List.range p.length).map fun x => .tup [dN x, dN (at_ p x)] := by
  refine List.ext_getElem? fun i => ?_
  by_cases hi : i < p.length
  · rw [List.getElem?_map, List.getElem?_range hi]
    have := enumL_get (p.map dN) 0 i _ (map_get hi)
    rw [this, Nat.zero_add]; rfl
  · rw [List.getElem?_eq_none (by rw [enumL_len]; simpa using hi), List.getElem?_eq_none (by simpa using hi)]
theorem sp_moved {k n : Nat} {p : List Nat} {h : HS} (hp : Pm n p) (hw : WF h) (hl : n < LIM) : C (k + 1) "moved" [P p] h = .ok (P (mvd n p)) h := by
  have hlen : (mvd n p).length ≤ LIM := by
    unfold mvd
    have := List.length_filter_le (fun x => decide (at_ p x ≠ x)) (List.range n)
    simp only [List.length_range] at this
    omega
  refine (call_run (d := ⟨1, 3, c_moved⟩) rfl rfl (h1 := h) (v := P (mvd n p)) ?_).trans (trim_self _ _)
  refine retS (tuple_new (lc_new (enum_P rfl) ?_ (by simpa using hlen)) hw los_nats (by simpa using hlen))
  rw [enum_map, hp.len]
  unfold mvd
  refine comp_filter rfl fun x hx => ?_
  refine turnD_b (δ1 := [some (P p), some (dN x), some (dN (at_ p x))]) rfl ?_ rfl
  refine cmpB (x := dN x) (y := dN (at_ p x)) rfl rfl ?_
  rw [cmp_ne]
  congr 1
  rw [Bool.eq_iff_iff]; simp
  exact ⟨fun a b => a b.symm, fun a b => a b.symm⟩
/-! ## the order -/
theorem sp_gcd {k a b : Nat} {h : HS} (hb : b < 1000000) : C (k + 1) "greatest_divisor" [dN a, dN b] h = .ok (dN (Nat.gcd a b)) h := by
  obtain ⟨δ', h', e, x, y, hy, hg, rfl, hh⟩ := whileS (cl := C k) (r := .cons (.ret (.var 0)) .nil) (c := .cmp .Gt (.var 1) (.lit (.int 0))) (b := (.cons (.par [0, 1] (.cons (.var 1) (.cons (.bin .Mod (.var 0) (.var 1)) .nil))) .nil)) (δ := [some (dN a), some (dN b)]) (h := h)
    (fun m δ h' => ∃ x y, y = m ∧ Nat.gcd x y = Nat.gcd a b ∧ δ = [some (dN x), some (dN y)] ∧ h' = h) b (by unfold FUEL; omega) ⟨a, b, rfl, rfl, rfl, rfl⟩ (fun m δ h' hq => by
      obtain ⟨x, y, rfl, hg, rfl, rfl⟩ := hq
      by_cases c : y = 0
      · subst c
        exact .inl ⟨_, cmpB (x := dN 0) (y := dN 0) rfl lit_ok (by rw [cmp_gt]; rfl), ⟨x, 0, rfl, hg, rfl, rfl⟩, rfl⟩
      · have pos : 0 < y := by omega
        refine .inr ⟨_, [some (dN y), some (dN (x % y))], _, x % y, cmpB (x := dN y) (y := dN 0) rfl lit_ok (by rw [cmp_gt, decide_eq_true pos]), .inl ?_, Nat.mod_lt _ pos, y, x % y, rfl, ?_, rfl, rfl⟩
        · refine (step ?_).trans nilS
          have e1 : evalL (C k) (.cons (.var 1) (.cons (.bin .Mod (.var 0) (.var 1)) .nil)) [some (dN x), some (dN y)] h' = .ok [dN y, dN (x % y)] h' := consL rfl (consL (binE (x := dN x) (y := dN y) rfl rfl (mod_nat pos)) nilL)
          simp only [execS, e1, R.fl_ok]
          rfl
        · rw [Nat.gcd_comm y (x % y), ← Nat.gcd_rec, Nat.gcd_comm, hg])
  subst hy
  rw [hh] at e
  rw [Nat.gcd_zero_right] at hg
  refine (call_run (d := ⟨2, 2, c_greatest_divisor⟩) rfl rfl (v := dN (Nat.gcd a b)) (h1 := h) (e.trans (retS ?_))).trans (trim_self _ _)
  rw [← hg]; rfl
/-- the numbers' least common multiple -/
def lcmL (l : List Nat) : Nat := l.foldl (fun f x => f / Nat.gcd f x * x) 1
theorem lcmL_spec : ∀ (l : List Nat) (f : Nat), 0 < f → (∀ x ∈ l, 0 < x) → 0 < l.foldl (fun f x => f / Nat.gcd f x * x) f ∧ f ∣ l.foldl (fun f x => f / Nat.gcd f x * x) f ∧ (∀ x ∈ l, x ∣ l.foldl (fun f x => f / Nat.gcd f x * x) f) ∧ ∀ m, f ∣ m → (∀ x ∈ l, x ∣ m) → l.foldl (fun f x => f / Nat.gcd f x * x) f ∣ m
  | [], f, hf, _ => ⟨hf, Nat.dvd_refl _, fun x hx => (by cases hx), fun m hm _ => hm⟩
  | x :: r, f, hf, hx => by
    have e : f / Nat.gcd f x * x = Nat.lcm f x := by
      unfold Nat.lcm
      rw [Nat.mul_comm f x, Nat.mul_div_assoc _ (Nat.gcd_dvd_left f x), Nat.mul_comm]
    have px := hx x List.mem_cons_self
    have pos : 0 < Nat.lcm f x := Nat.lcm_pos hf px
    obtain ⟨h1, h2, h3, h4⟩ := lcmL_spec r (Nat.lcm f x) pos fun y hy => hx y (List.mem_cons_of_mem _ hy)
    rw [List.foldl_cons, e]
    refine ⟨h1, Nat.dvd_trans (Nat.dvd_lcm_left f x) h2, fun y hy => ?_, fun m hm hall => h4 m (Nat.lcm_dvd hm (hall x List.mem_cons_self)) fun y hy => hall y (List.mem_cons_of_mem _ hy)⟩
    rcases List.mem_cons.mp hy with rfl | hy
    · exact Nat.dvd_trans (Nat.dvd_lcm_right f y) h2
    · exact h3 y hy
def kindN (p : List Nat) : List Nat := (kindL p).map Int.toNat
theorem kindN_dN {n : Nat} {p : List Nat} (hp : Pm n p) : (kindL p).map D.int = (kindN p).map dN ∧ ∀ x ∈ kindN p, ∃ r ∈ rows p, x = r.length := by
  have key : ∀ z ∈ kindL p, ∃ r ∈ rows p, z = (r.length : Int) := fun z hz => by
    unfold kindL at hz
    rw [List.mem_mergeSort] at hz
    unfold lens at hz
    obtain ⟨r, hr, rfl⟩ := List.mem_map.mp hz
    exact ⟨r, hr, rfl⟩
  constructor
  · unfold kindN
    rw [List.map_map]
    refine List.map_congr_left fun z hz => ?_
    obtain ⟨r, _, rfl⟩ := key z hz
    rfl
  · intro x hx
    unfold kindN at hx
    obtain ⟨z, hz, rfl⟩ := List.mem_map.mp hx
    obtain ⟨r, hr, rfl⟩ := key z hz
    exact ⟨r, hr, rfl⟩
theorem kindN_mem {n : Nat} {p : List Nat} (hp : Pm n p) {r : List Nat} (hr : r ∈ rows p) : r.length ∈ kindN p := by
  unfold kindN
  refine List.mem_map.mpr ⟨(r.length : Int), ?_, rfl⟩
  unfold kindL
  rw [List.mem_mergeSort]
  unfold lens
  exact List.mem_map.mpr ⟨r, hr, rfl⟩
theorem sp_order {k n : Nat} {p : List Nat} {h : HS} (hp : Pm n p) (hw : WF h) (hl : n < 1000000) : C (k + 3) "order" [P p] h = .ok (dN (lcmL (kindN p))) h := by
  obtain ⟨e1, e2⟩ := kindN_dN hp
  have hk := sp_kind (k := k) hp hw (show n < LIM by unfold LIM; omega)
  rw [e1] at hk
  obtain ⟨δ', h', e, ⟨u, rfl⟩, hh⟩ := forS (cl := C (k + 2)) (r := .cons (.ret (.var 1)) .nil) (b := (.cons (.asg (.nm 1) (.bin .Mult (.bin .FloorDiv (.var 1) (.call "greatest_divisor" (.cons (.var 1) (.cons (.var 2) .nil)))) (.var 2))) .nil)) (t := .nm 2) (it := .seq (.call "kind" (.cons (.var 0) .nil))) (δ := [some (P p), some (dN 1), none]) (h := h)
    (fun i δ h' => (∃ u, δ = [some (P p), some (dN (lcmL ((kindN p).take i))), u]) ∧ h' = h) (seq_tup (call_1 (x := P p) rfl hk)) ⟨⟨none, rfl⟩, rfl⟩ (fun i x δ h' hi hq => by
      obtain ⟨⟨u, rfl⟩, rfl⟩ := hq
      have hlt : i < (kindN p).length := by
        have := (List.getElem?_eq_some_iff.mp hi).1
        simpa using this
      have hi : ((kindN p).map dN)[i]? = some x := hi
      rw [List.getElem?_map, List.getElem?_eq_getElem hlt] at hi
      cases hi
      obtain ⟨r, hr, er⟩ := e2 _ (List.getElem_mem hlt)
      have hrp := hp.row_pos hr
      have hpos : 0 < (kindN p)[i] := by omega
      have hle : (kindN p)[i] ≤ n := by omega
      have g0 : 0 < Nat.gcd (lcmL ((kindN p).take i)) (kindN p)[i] := Nat.gcd_pos_of_pos_right _ hpos
      have g1 : Nat.gcd (lcmL ((kindN p).take i)) (kindN p)[i] ≤ (kindN p)[i] := Nat.gcd_le_right _ hpos
      refine ⟨rfl, _, _, _, rfl, .inl ((asgS (v := dN (lcmL ((kindN p).take i) / Nat.gcd (lcmL ((kindN p).take i)) (kindN p)[i] * (kindN p)[i])) (h1 := h') ?_ (by simp)).trans nilS), ⟨some (dN (kindN p)[i]), ?_⟩, rfl⟩
      · refine binE (x := dN (lcmL ((kindN p).take i) / Nat.gcd (lcmL ((kindN p).take i)) (kindN p)[i])) (y := dN (kindN p)[i]) ?_ rfl (mul_nat (by omega))
        exact binE (x := dN (lcmL ((kindN p).take i))) (y := dN (Nat.gcd (lcmL ((kindN p).take i)) (kindN p)[i])) rfl (call_2 (x := dN (lcmL ((kindN p).take i))) (y := dN (kindN p)[i]) rfl rfl (sp_gcd (by omega))) (div_nat g0 (by omega))
      · have : lcmL ((kindN p).take (i + 1)) = lcmL ((kindN p).take i) / Nat.gcd (lcmL ((kindN p).take i)) (kindN p)[i] * (kindN p)[i] := by
          unfold lcmL
          rw [List.take_add_one, List.getElem?_eq_getElem hlt, List.foldl_append]; rfl
        rw [this]; rfl) (fun _ _ _ => rfl)
  rw [hh] at e
  refine (call_run (d := ⟨1, 3, c_order⟩) rfl rfl (v := dN (lcmL (kindN p))) (h1 := h) ((asgS (v := dN 1) lit_ok (by simp [startE])).trans (e.trans (retS ?_)))).trans (trim_self _ _)
  simp only [List.length_map, List.take_length]
  rfl
end Mi

namespace Mi
open PySem
/-! ## walking along a cycle -/
def qOf (p : List Nat) (e : Int) : List Nat := if 0 ≤ e then p else inv p
def wk (p : List Nat) (e : Int) (x : Nat) : Nat := it (qOf p e) e.natAbs x
theorem Pm.qOf {n : Nat} {p : List Nat} (hp : Pm n p) (e : Int) : Pm n (qOf p e) := by
  unfold Mi.qOf
  by_cases c : 0 ≤ e
  · rw [if_pos c]; exact hp
  · rw [if_neg c]; exact hp.inv
theorem cmp_geI {a b : Int} {h : HS} : cmpF .GtE (.int a) (.int b) h = some (decide (b ≤ a)) := rfl
theorem sp_walk {k n x : Nat} {p : List Nat} {e : Int} {h : HS} (hp : Pm n p) (hw : WF h) (hl : n < 1000000) (hx : x < n) (he : e.natAbs < 1000000) : C (k + 2) "_law_walk" [P p, dN x, .int e] h = .ok (dN (wk p e x)) h := by
  let q := qOf p e
  have hq : Pm n q := hp.qOf e
  have hper := hq.per_spec hx
  have e1 : evalE (C (k + 1)) (.ife (.cmp .GtE (.var 2) (.lit (.int 0))) (.var 0) (.call "_law_inverse" (.cons (.var 0) .nil))) [some (P p), some (dN x), some (.int e), none, none, none, none] h = .ok (P q) h := by
    have eb : evalB (C (k + 1)) (.cmp .GtE (.var 2) (.lit (.int 0))) [some (P p), some (dN x), some (.int e), none, none, none, none] h = .ok (decide (0 ≤ e)) h := cmpB (x := .int e) (y := .int 0) rfl lit_ok cmp_geI
    rw [evalE, eb, R.bind_ok]
    show _ = R.ok (P (qOf p e)) h
    unfold Mi.qOf
    by_cases c : 0 ≤ e
    · rw [decide_eq_true c, if_pos rfl, if_pos c]; rfl
    · rw [decide_eq_false c, if_neg Bool.false_ne_true, if_neg c]
      exact call_1 (x := P p) rfl (sp_linverse hw (hp.lts hp) (by rw [hp.len]; unfold LIM; omega))
  obtain ⟨δ1, h1, ew, j, hj0, hj, rfl, hh⟩ := whileS (cl := C (k + 1)) (r := (.cons (.for_ (.nm 6) (.rng (.cons (.bin .Mod (.bi .int (.cons (.bi .abs (.cons (.var 2) .nil)) .nil)) (.var 4)) .nil)) (.cons (.asg (.nm 1) (.ix (.var 3) (.var 1))) .nil)) (.cons (.ret (.var 1)) .nil))) (c := .cmp .NotEq (.var 5) (.var 1))
    (b := (.cons (.asg (.nm 5) (.ix (.var 3) (.var 5))) (.cons (.asg (.nm 4) (.bin .Add (.var 4) (.lit (.int 1)))) .nil))) (δ := [some (P p), some (dN x), some (.int e), some (P q), some (dN 1), some (dN (at_ q x)), none]) (h := h)
    (fun m δ h' => ∃ j, m = per q x - (j + 1) ∧ j + 1 ≤ per q x ∧ δ = [some (P p), some (dN x), some (.int e), some (P q), some (dN (j + 1)), some (dN (it q (j + 1) x)), none] ∧ h' = h)
    (per q x - 1) (by have := hper.2.1; unfold FUEL; omega) ⟨0, rfl, per_pos, rfl, rfl⟩ (fun m δ h' hq' => by
      obtain ⟨j, rfl, hj, rfl, rfl⟩ := hq'
      by_cases c : j + 1 = per q x
      · refine .inl ⟨_, cmpB (x := dN (it q (j + 1) x)) (y := dN x) rfl rfl ?_, ⟨j, by omega, hj, rfl, rfl⟩, by omega⟩
        rw [cmp_ne, c, hper.1, decide_eq_true rfl]; rfl
      · refine .inr ⟨_, _, _, per q x - (j + 2), cmpB (x := dN (it q (j + 1) x)) (y := dN x) rfl rfl (by rw [cmp_ne, decide_eq_false (hper.2.2 (j + 1) (by omega) (by omega))]; rfl), .inl ?_, by omega, j + 1, rfl, by omega, rfl, rfl⟩
        refine (asgS (ix_P (p := q) (k := it q (j + 1) x) rfl rfl (by rw [hq.len]; exact hq.it_lt hx _)) (by simp)).trans ?_
        refine (asgS (v := dN (j + 2)) (binE (x := dN (j + 1)) (y := dN 1) rfl lit_ok add_nat) (by simp)).trans (nilS.trans rfl))
  rw [hh] at ew
  have hjp : j + 1 = per q x := by omega
  rw [hjp] at ew
  obtain ⟨δ2, h2, ef, ⟨u, rfl⟩, hh2⟩ := forS (cl := C (k + 1)) (r := (.cons (.ret (.var 1)) .nil)) (b := (.cons (.asg (.nm 1) (.ix (.var 3) (.var 1))) .nil)) (t := .nm 6) (it := (.rng (.cons (.bin .Mod (.bi .int (.cons (.bi .abs (.cons (.var 2) .nil)) .nil)) (.var 4)) .nil)))
    (δ := [some (P p), some (dN x), some (.int e), some (P q), some (dN (per q x)), some (dN (it q (per q x) x)), none]) (h := h)
    (fun i δ h' => (∃ u, δ = [some (P p), some (dN (it q i x)), some (.int e), some (P q), some (dN (per q x)), some (dN (it q (per q x) x)), u]) ∧ h' = h)
    (rng_ok1 (n := e.natAbs % per q x) (binE (x := dN e.natAbs) (y := dN (per q x)) (int_1 (x := (e.natAbs : Int)) (abs_1 rfl)) rfl (mod_nat per_pos)) (by have := Nat.mod_lt e.natAbs (per_pos (p := q) (x := x)); have := hper.2.1; unfold LIM; omega)) ⟨⟨none, rfl⟩, rfl⟩ (fun i y δ h' hi hq' => by
      obtain ⟨⟨u, rfl⟩, rfl⟩ := hq'
      exact ⟨rfl, _, _, _, rfl, .inl ((asgS (ix_P (p := q) (k := it q i x) rfl rfl (by rw [hq.len]; exact hq.it_lt hx _)) (by simp)).trans nilS), ⟨_, rfl⟩, rfl⟩) (fun _ _ _ => rfl)
  rw [hh2] at ef
  refine (call_run (d := ⟨3, 7, c__law_walk⟩) rfl rfl (v := dN (wk p e x)) (h1 := h) ?_).trans (trim_self _ _)
  refine (asgS e1 (by simp [startE])).trans ((asgS (v := dN 1) lit_ok (by simp)).trans ((asgS (ix_P (p := q) (k := x) rfl rfl (by rw [hq.len]; exact hx)) (by simp)).trans (ew.trans (ef.trans (retS ?_)))))
  simp only [List.length_map, List.length_range]
  rw [hq.it_mod hx]; rfl
/-! ## powers -/
def pwR (e : Int) (r c : List Nat) : List Nat := rowW r c.length (at_ c) fun a => at_ c (((a : Int) + e) % (c.length : Int)).toNat
theorem pwR_len {e : Int} {r c : List Nat} : (pwR e r c).length = r.length := by unfold pwR; exact rowW_len
theorem pwL_len {e : Int} : ∀ {cs : List (List Nat)} {r : List Nat}, (cs.foldl (pwR e) r).length = r.length
  | [], _ => rfl
  | c :: cs, r => by rw [List.foldl_cons, pwL_len, pwR_len]
theorem rowW_other {r : List Nat} {a b : Nat → Nat} {x : Nat} (hx : x < r.length) : ∀ {n : Nat}, (∀ y, y < n → a y ≠ x) → at_ (rowW r n a b) x = at_ r x
  | 0, _ => rfl
  | n + 1, h => by
    rw [rowW_succ, at_set (by rw [rowW_len]; exact hx), if_neg (h n (by omega))]
    exact rowW_other hx fun y hy => h y (by omega)
section
variable {n : Nat} {p : List Nat}
theorem at_cyc {m a : Nat} (ha : a < per p m) : at_ (cyc p m) a = it p a m := by
  unfold cyc
  rw [at_map (f := fun k => it p k m) (by simpa using ha), at_range ha]
theorem inv_it (hp : Pm n p) {y : Nat} (hy : y < n) : ∀ N, it (inv p) N (it p N y) = y
  | 0 => rfl
  | N + 1 => by
    show at_ (inv p) (it (inv p) N (it p (N + 1) y)) = y
    rw [← it_at, inv_it hp (hp.at_lt hy) N, hp.at_inv hy]
theorem wk_cyc (hp : Pm n p) {m a : Nat} {e : Int} (hm : m < n) (ha : a < per p m) : at_ (cyc p m) (((a : Int) + e) % (per p m : Int)).toNat = wk p e (at_ (cyc p m) a) := by
  have pos := per_pos (p := p) (x := m)
  have hb0 : 0 ≤ ((a : Int) + e) % (per p m : Int) := Int.emod_nonneg _ (by omega)
  have hb1 : ((a : Int) + e) % (per p m : Int) < per p m := Int.emod_lt_of_pos _ (by omega)
  rw [at_cyc ha, at_cyc (by omega)]
  unfold wk
  by_cases c : 0 ≤ e
  · unfold Mi.qOf
    rw [if_pos c]
    have eN : e = (e.natAbs : Int) := by omega
    have e2 : (((a : Int) + e) % (per p m : Int)).toNat = (e.natAbs + a) % per p m := by
      rw [eN, show (a : Int) + ((e.natAbs : Nat) : Int) = ((e.natAbs + a : Nat) : Int) by omega, ← Int.natCast_emod, Int.toNat_natCast]
      simp
    rw [e2, hp.it_mod hm, it_add]
  · unfold Mi.qOf
    rw [if_neg c]
    let b := (((a : Int) + e) % (per p m : Int)).toNat
    have hb : (b : Int) = ((a : Int) + e) % (per p m : Int) := Int.toNat_of_nonneg hb0
    have key : (e.natAbs + b) % per p m = a % per p m := by
      have h1 : ((e.natAbs + b : Nat) : Int) % (per p m : Int) = (a : Int) % (per p m : Int) := by
        rw [Int.natCast_add, hb, Int.add_emod_emod]
        congr 1
        omega
      have h2 : (((e.natAbs + b) % per p m : Nat) : Int) = ((a % per p m : Nat) : Int) := by
        rw [Int.natCast_emod, Int.natCast_emod]; exact h1
      omega
    have e3 : it p a m = it p e.natAbs (it p b m) := by
      rw [← it_add, ← hp.it_mod hm a, ← key, hp.it_mod hm]
    rw [e3, inv_it hp (hp.it_lt hm b)]
theorem pw_at (hp : Pm n p) {e : Int} {x : Nat} (hx : x < n) : ∀ {cs : List (List Nat)} {r : List Nat}, r.length = n → (∀ c ∈ cs, ∃ m, m < n ∧ c = cyc p m) →
    (∃ c ∈ cs, x ∈ c) ∧ at_ (cs.foldl (pwR e) r) x = wk p e x ∨ (¬ ∃ c ∈ cs, x ∈ c) ∧ at_ (cs.foldl (pwR e) r) x = at_ r x
  | [], r, _, _ => .inr ⟨fun ⟨c, hc, _⟩ => (by cases hc), rfl⟩
  | c :: cs, r, hr, h => by
    rw [List.foldl_cons]
    rcases pw_at hp (e := e) hx (cs := cs) (r := pwR e r c) (by rw [pwR_len, hr]) (fun d hd => h d (List.mem_cons_of_mem _ hd)) with ⟨⟨d, hd, hxd⟩, q⟩ | ⟨hn, q⟩
    · exact .inl ⟨⟨d, List.mem_cons_of_mem _ hd, hxd⟩, q⟩
    · obtain ⟨m, hm, rfl⟩ := h c List.mem_cons_self
      by_cases hc : x ∈ cyc p m
      · refine .inl ⟨⟨_, List.mem_cons_self, hc⟩, ?_⟩
        rw [q]
        obtain ⟨a, ha, ea⟩ := List.mem_iff_getElem.mp hc
        have ha' : a < per p m := by rw [cyc_len] at ha; exact ha
        have ex : at_ (cyc p m) a = x := by rw [at_eq ha]; exact ea
        unfold pwR
        have := rowW_at (r := r) (a := at_ (cyc p m)) (b := fun a => at_ (cyc p m) (((a : Int) + e) % ((cyc p m).length : Int)).toNat) (n := (cyc p m).length) (x := a) (fun y hy => ?_) (fun y z hy hz ee => ?_) ha
        · rw [ex] at this
          rw [this, cyc_len, wk_cyc hp hm ha', ex]
        · rw [hr, at_eq hy]
          exact hp.cyc_lt hm (List.getElem_mem hy)
        · rw [at_eq hy, at_eq hz] at ee
          exact (List.getElem_inj (hp.cyc_nd hm)).mp ee
      · refine .inr ⟨?_, ?_⟩
        · rintro ⟨d, hd, hxd⟩
          rcases List.mem_cons.mp hd with rfl | hd
          · exact hc hxd
          · exact hn ⟨d, hd, hxd⟩
        · rw [q]
          unfold pwR
          refine rowW_other (by omega) fun y hy ee => hc ?_
          rw [← ee, at_eq hy]; exact List.getElem_mem hy
theorem pw_eq (hp : Pm n p) {e : Int} : (rows2 p).foldl (pwR e) p = (List.range n).map (wk p e) := by
  refine row_ext (n := n) (by rw [pwL_len, hp.len]) (by simp) fun x hx => ?_
  rw [at_map (f := wk p e) (by simpa using hx), at_range hx]
  rcases pw_at hp (e := e) hx (cs := rows2 p) (r := p) hp.len (fun c hc => by
    unfold rows2 at hc
    rw [List.mem_filter] at hc
    obtain ⟨m, hm, _, e⟩ := hp.rows_mem hc.1
    exact ⟨m, hm, e⟩) with ⟨_, q⟩ | ⟨hn, q⟩
  · exact q
  · rw [q]
    obtain ⟨m, hm, hmn, hxm⟩ := hp.has_mn hx
    have hr : cyc p m ∈ rows p := by
      unfold rows
      exact List.mem_map.mpr ⟨m, by rw [List.mem_filter, List.mem_range, hp.len]; exact ⟨hm, hmn⟩, rfl⟩
    have hs : long (cyc p m) = false := by
      rw [← Bool.not_eq_true]
      intro hl
      exact hn ⟨cyc p m, by unfold rows2; rw [List.mem_filter]; exact ⟨hr, hl⟩, hxm⟩
    unfold long at hs
    rw [cyc_len] at hs
    simp at hs
    have pos := per_pos (p := p) (x := m)
    have h1 : per p m = 1 := by omega
    have hfix : at_ p m = m := by
      have := (hp.per_spec hm).1
      rw [h1] at this; exact this
    have hxm' : x = m := by
      unfold cyc at hxm
      rw [h1] at hxm
      obtain ⟨k, hk, e⟩ := List.mem_map.mp hxm
      rw [List.mem_range] at hk
      have : k = 0 := by omega
      subst this
      exact e.symm
    subst hxm'
    have hfq : at_ (Mi.qOf p e) x = x := by
      unfold Mi.qOf
      by_cases c : 0 ≤ e
      · rw [if_pos c]; exact hfix
      · rw [if_neg c]
        have := hp.at_inv hx
        rw [hfix] at this; exact this
    have : ∀ k, it (Mi.qOf p e) k x = x := by
      intro k
      induction k with
      | zero => rfl
      | succ k ih => show at_ _ (it _ k x) = x; rw [ih, hfq]
    unfold wk
    rw [this, hfix]
end
end Mi

namespace Mi
open PySem
theorem list_P {cl : Cl} {δ : En} {h : HS} {i : Nat} {p : List Nat} (e : δ[i]? = some (some (P p))) (hl : p.length ≤ LIM) : evalE cl (.bi .list (.cons (.var i) .nil)) δ h = .ok (.ref h.length) (h ++ [.lst (p.map dN)]) := by
  simp only [evalE, evalL, e, R.bind_ok, biF, itemsD, P]
  rw [mkL_ok (by simpa using hl), R.tr_ok, trim_one]
theorem sp_power {k n : Nat} {p : List Nat} {e : Int} {h : HS} (hp : Pm n p) (hw : WF h) (hl : n < 1000000) : C (k + 2) "power" [P p, .int e] h = .ok (P ((List.range n).map (wk p e))) h := by
  rw [← pw_eq hp (e := e)]
  have hlen : ((rows2 p).foldl (pwR e) p).length ≤ LIM := by rw [pwL_len, hp.len]; unfold LIM; omega
  let h1 : HS := h ++ [.lst (p.map dN)]
  obtain ⟨δ', h', ef, ⟨x3, x4, x5, rfl⟩, rfl⟩ := forS (cl := C (k + 1)) (r := (.cons (.ret (.bi .tuple (.cons (.var 2) .nil))) .nil)) (b := (.cons (.for_ (.tp [4, 5]) (.enum (.var 3)) (.cons (.asg (.sub (.var 2) (.var 5)) (.ix (.var 3) (.bin .Mod (.bin .Add (.var 4) (.var 1)) (.bi .len (.cons (.var 3) .nil))))) .nil)) .nil)) (t := .nm 3) (it := .seq (.call "cycles" (.cons (.var 0) .nil)))
    (δ := [some (P p), some (.int e), some (.ref h.length), none, none, none]) (h := h1)
    (fun i δ h' => (∃ x3 x4 x5, δ = [some (P p), some (.int e), some (.ref h.length), x3, x4, x5]) ∧ h' = h ++ [.lst ((((rows2 p).take i).foldl (pwR e) p).map dN)])
    (seq_tup (call_1 (x := P p) rfl (sp_cycles hp (hw.app los_nats) (by unfold LIM; omega)))) ⟨⟨none, none, none, rfl⟩, rfl⟩ (fun i x δ h' hi hq => by
      obtain ⟨⟨x3, x4, x5, rfl⟩, rfl⟩ := hq
      have hlt : i < (rows2 p).length := by
        have := (List.getElem?_eq_some_iff.mp hi).1
        simpa using this
      have hi : ((rows2 p).map P)[i]? = some x := hi
      rw [List.getElem?_map, List.getElem?_eq_getElem hlt] at hi
      cases hi
      have hmem := List.getElem_mem hlt
      unfold rows2 at hmem
      rw [List.mem_filter] at hmem
      obtain ⟨m, hm, _, hc⟩ := hp.rows_mem hmem.1
      have hc : (rows2 p)[i] = cyc p m := hc
      have hcl : (cyc p m).length = per p m := cyc_len
      generalize hci : (rows2 p)[i] = c at hc ⊢
      have hpos := per_pos (p := p) (x := m)
      let r := ((rows2 p).take i).foldl (pwR e) p
      have hr : r.length = n := by rw [pwL_len, hp.len]
      refine ⟨rfl, [some (P p), some (.int e), some (.ref h.length), some (P c), x4, x5], ?_⟩
      obtain ⟨δ2, h2, e2, ⟨y4, y5, rfl⟩, rfl⟩ := forS (cl := C (k + 1)) (r := .nil) (b := (.cons (.asg (.sub (.var 2) (.var 5)) (.ix (.var 3) (.bin .Mod (.bin .Add (.var 4) (.var 1)) (.bi .len (.cons (.var 3) .nil))))) .nil)) (t := .tp [4, 5]) (it := .enum (.var 3))
        (δ := [some (P p), some (.int e), some (.ref h.length), some (P c), x4, x5]) (h := h ++ [.lst (r.map dN)])
        (fun j δ h' => (∃ y4 y5, δ = [some (P p), some (.int e), some (.ref h.length), some (P c), y4, y5]) ∧ h' = h ++ [.lst ((rowW r j (at_ c) (fun a => at_ c (((a : Int) + e) % (c.length : Int)).toNat)).map dN)]) (enum_P rfl) ⟨⟨x4, x5, rfl⟩, rfl⟩ (fun j y δ h' hj hq => by
          obtain ⟨⟨y4, y5, rfl⟩, rfl⟩ := hq
          obtain ⟨hjl, rfl⟩ := enumP_at hj
          have hcp : 0 < c.length := by rw [hc]; omega
          have hb0 : 0 ≤ ((j : Int) + e) % (c.length : Int) := Int.emod_nonneg _ (by omega)
          have hb1 : ((j : Int) + e) % (c.length : Int) < c.length := Int.emod_lt_of_pos _ (by omega)
          have hat : at_ c j < n := by
            rw [at_eq hjl]
            have := List.getElem_mem hjl
            exact hp.cyc_lt (x := m) hm (by rw [← hc]; exact this)
          have hv : evalE (C (k + 1)) (.bin .Mod (.bin .Add (.var 4) (.var 1)) (.bi .len (.cons (.var 3) .nil))) [some (P p), some (.int e), some (.ref h.length), some (P c), some (dN j), some (dN (at_ c j))] (h ++ [.lst ((rowW r j (at_ c) (fun a => at_ c (((a : Int) + e) % (c.length : Int)).toNat)).map dN)]) = .ok (dN (((j : Int) + e) % (c.length : Int)).toNat) (h ++ [.lst ((rowW r j (at_ c) (fun a => at_ c (((a : Int) + e) % (c.length : Int)).toNat)).map dN)]) := by
            refine binE (x := .int ((j : Int) + e)) (y := dN c.length) (binE (x := dN j) (y := .int e) rfl rfl rfl) (len_P rfl) ?_
            unfold binF
            simp only [show decide ((0 : Int) < (c.length : Int)) = true by simp; omega, if_true]
            congr 2
            exact (Int.toNat_of_nonneg hb0).symm
          refine ⟨rfl, _, _, _, rfl, .inl ((subS (ix_P (p := c) rfl hv (by omega)) rfl rfl (setF_lst get_app_len (by rw [List.length_map, rowW_len, hr]; exact hat))).trans nilS), ⟨_, _, rfl⟩, ?_⟩
          rw [set_app_len, map_set, rowW_succ]) (fun _ _ _ => rfl)
      refine ⟨_, _, rfl, .inl (e2.trans nilS), ⟨_, _, _, rfl⟩, ?_⟩
      simp only [enumL_len, List.length_map]
      rw [List.take_add_one, List.getElem?_eq_getElem hlt, List.foldl_append, hci]
      rfl) (fun _ _ _ => rfl)
  have main : execB (C (k + 1)) c_power [some (P p), some (.int e), none, none, none, none] h = .ret (P ((rows2 p).foldl (pwR e) p)) (h ++ [.lst (((rows2 p).foldl (pwR e) p).map dN)]) := by
    refine (asgS (list_P rfl (by rw [hp.len]; unfold LIM; omega)) (by simp)).trans (ef.trans (retS ?_))
    simp only [List.length_map, List.take_length]
    exact tuple_ref rfl get_app_len (by rw [List.length_map]; exact hlen)
  exact (call_run (d := ⟨2, 6, c_power⟩) rfl rfl main).trans (trim_app hw lo_P rfl)
/-! ## a cycle from a row -/
def cycR (n : Nat) (row : List Nat) : List Nat := rowW (List.range n) row.length (at_ row) fun j => at_ row ((j + 1) % row.length)
theorem cycR_pm {n : Nat} {row : List Nat} (nd : row.Nodup) (hr : ∀ x ∈ row, x < n) : Pm n (cycR n row) := by
  have hlen : (cycR n row).length = n := by unfold cycR; rw [rowW_len]; simp
  have hit : ∀ a, a < row.length → at_ (cycR n row) (at_ row a) = at_ row ((a + 1) % row.length) := fun a ha => by
    unfold cycR
    refine rowW_at (b := fun j => at_ row ((j + 1) % row.length)) (fun y hy => ?_) (fun y z hy hz e => ?_) ha
    · rw [List.length_range]; exact Mi.at_lt hr hy
    · rw [at_eq hy, at_eq hz] at e; exact (List.getElem_inj nd).mp e
  have hno : ∀ x, x < n → x ∉ row → at_ (cycR n row) x = x := fun x hx hn => by
    unfold cycR
    rw [rowW_other (by simpa using hx) fun y hy e => hn (by rw [← e, at_eq hy]; exact List.getElem_mem hy), at_range hx]
  have idx : ∀ x, x ∈ row → ∃ a, a < row.length ∧ at_ row a = x := fun x hx => by
    obtain ⟨a, ha, e⟩ := List.mem_iff_getElem.mp hx
    exact ⟨a, ha, by rw [at_eq ha]; exact e⟩
  have inr : ∀ a, a < row.length → at_ row ((a + 1) % row.length) ∈ row := fun a ha => by
    have : (a + 1) % row.length < row.length := Nat.mod_lt _ (by omega)
    rw [at_eq this]; exact List.getElem_mem this
  refine Pm.of_at hlen (fun x hx => ?_) (fun x y hx hy e => ?_)
  · by_cases c : x ∈ row
    · obtain ⟨a, ha, rfl⟩ := idx x c
      rw [hit a ha]; exact hr _ (inr a ha)
    · rw [hno x hx c]; exact hx
  · by_cases c : x ∈ row
    · obtain ⟨a, ha, rfl⟩ := idx x c
      rw [hit a ha] at e
      by_cases d : y ∈ row
      · obtain ⟨b, hb, rfl⟩ := idx y d
        rw [hit b hb] at e
        have h1 : (a + 1) % row.length < row.length := Nat.mod_lt _ (by omega)
        have h2 : (b + 1) % row.length < row.length := Nat.mod_lt _ (by omega)
        rw [at_eq h1, at_eq h2] at e
        have e := (List.getElem_inj nd).mp e
        have : a = b := by
          by_cases c1 : a + 1 = row.length
          · by_cases c2 : b + 1 = row.length
            · omega
            · rw [c1, Nat.mod_self, Nat.mod_eq_of_lt (by omega)] at e; omega
          · by_cases c2 : b + 1 = row.length
            · rw [c2, Nat.mod_self, Nat.mod_eq_of_lt (by omega)] at e; omega
            · rw [Nat.mod_eq_of_lt (by omega), Nat.mod_eq_of_lt (by omega)] at e; omega
        rw [this]
      · rw [hno y hy d] at e
        exact absurd (e ▸ inr a ha) d
    · rw [hno x hx c] at e
      by_cases d : y ∈ row
      · obtain ⟨b, hb, rfl⟩ := idx y d
        rw [hit b hb] at e
        exact absurd (e ▸ inr b hb) c
      · rw [hno y hy d] at e; exact e
theorem sp_lcycle {k n : Nat} {row : List Nat} {h : HS} (hw : WF h) (hr : ∀ x ∈ row, x < n) (hl : n ≤ LIM) (hrl : row.length ≤ LIM) : C (k + 1) "_law_cycle" [dN n, P row] h = .ok (P (cycR n row)) h := by
  have hlen : (cycR n row).length = n := by unfold cycR; rw [rowW_len]; simp
  obtain ⟨δ', h', e, ⟨u, rfl⟩, rfl⟩ := forS (cl := C k) (r := (.cons (.ret (.bi .tuple (.cons (.var 2) .nil))) .nil)) (b := (.cons (.asg (.sub (.var 2) (.ix (.var 1) (.var 3))) (.ix (.var 1) (.bin .Mod (.bin .Add (.var 3) (.lit (.int 1))) (.bi .len (.cons (.var 1) .nil))))) .nil)) (t := .nm 3) (it := .rng (.cons (.bi .len (.cons (.var 1) .nil)) .nil))
    (δ := [some (dN n), some (P row), some (.ref h.length), none]) (h := h ++ [.lst ((List.range n).map dN)])
    (fun i δ h' => (∃ u, δ = [some (dN n), some (P row), some (.ref h.length), u]) ∧ h' = h ++ [.lst ((rowW (List.range n) i (at_ row) (fun j => at_ row ((j + 1) % row.length))).map dN)]) (rng_ok1 (len_P rfl) hrl) ⟨⟨none, rfl⟩, rfl⟩ (fun i x δ h' hi hq => by
      obtain ⟨⟨u, rfl⟩, rfl⟩ := hq
      obtain ⟨hlt, rfl⟩ := range_at hi
      have hm : (i + 1) % row.length < row.length := Nat.mod_lt _ (by omega)
      refine ⟨rfl, _, _, _, rfl, .inl ((subS (ix_P (p := row) (k := (i + 1) % row.length) rfl (binE (x := dN (i + 1)) (y := dN row.length) (binE (x := dN i) (y := dN 1) rfl lit_ok add_nat) (len_P rfl) (mod_nat (by omega))) hm) rfl (ix_P (p := row) (k := i) rfl rfl hlt) (setF_lst get_app_len (by rw [List.length_map, rowW_len, List.length_range]; exact Mi.at_lt hr hlt))).trans nilS), ⟨_, rfl⟩, ?_⟩
      rw [set_app_len, map_set, rowW_succ]) (fun _ _ _ => rfl)
  refine (call_run (d := ⟨2, 4, c__law_cycle⟩) rfl rfl (v := P (cycR n row)) (h1 := h ++ [.lst ((cycR n row).map dN)]) ?_).trans (trim_app hw lo_P rfl)
  refine (asgS (lrg_ok (n := n) rfl hl) (by simp [startE])).trans (e.trans (retS ?_))
  simp only [List.length_map, List.length_range]
  exact tuple_ref rfl get_app_len (by rw [List.length_map]; show (cycR n row).length ≤ LIM; rw [hlen]; exact hl)
end Mi

namespace Mi
open PySem
/-! ## is_perm and the law's own test -/
theorem isi_ok1 {cl : Cl} {δ : En} {h : HS} {t : Ty} {a : CE} {x : D} {b : Bool} (ha : evalE cl a δ h = .ok x h) (hi : isiF t x h = some b) : evalE cl (.isi t a) δ h = .ok (.bl b) h := by
  simp only [evalE, ha, R.bind_ok, hi, Option.map_some, ofO_ok, R.tr_ok, trim_self]
def isInt : D → Bool
  | .int _ => true
  | _ => false
def fl (x : D) : Bool := match x with
  | .int _ => true
  | .str _ => true
  | _ => false
theorem intsD_all : ∀ {xs : List D}, xs.all isInt = true → ∃ ns : List Int, xs = ns.map D.int
  | [], _ => ⟨[], rfl⟩
  | x :: r, h => by
    rw [List.all_cons, Bool.and_eq_true] at h
    obtain ⟨ns, e⟩ := intsD_all h.2
    cases x <;> first | (exact absurd h.1 Bool.false_ne_true) | skip
    rename_i i
    exact ⟨i :: ns, by rw [List.map_cons, e]⟩
theorem blsD_map {α : Type} {f : α → Bool} : ∀ {l : List α}, blsD (l.map fun x => D.bl (f x)) = some (l.map f)
  | [] => rfl
  | x :: r => by rw [List.map_cons, blsD, blsD_map]; rfl
theorem any_lc {cl : Cl} {δ : En} {h : HS} {e : CE} {bs : List Bool} (he : evalE cl e δ h = .ok (.ref h.length) (h ++ [.lst (bs.map .bl)])) (hw : WF h) : evalE cl (.bi .any (.cons e .nil)) δ h = .ok (.bl (bs.any id)) h := by
  have : blsD (bs.map .bl) = some bs := by
    have := blsD_map (f := id) (l := bs)
    simpa using this
  simp only [evalE, evalL, he, R.bind_ok, biF, get_app_len, this]
  rw [R.tr_ok]
  exact trim_app hw rfl rfl
theorem all_lc {cl : Cl} {δ : En} {h : HS} {e : CE} {bs : List Bool} (he : evalE cl e δ h = .ok (.ref h.length) (h ++ [.lst (bs.map .bl)])) (hw : WF h) : evalE cl (.bi .all (.cons e .nil)) δ h = .ok (.bl (bs.all id)) h := by
  have : blsD (bs.map .bl) = some bs := by
    have := blsD_map (f := id) (l := bs)
    simpa using this
  simp only [evalE, evalL, he, R.bind_ok, biF, get_app_len, this]
  rw [R.tr_ok]
  exact trim_app hw rfl rfl
theorem cmp_leI {a b : Int} {h : HS} : cmpF .LtE (.int a) (.int b) h = some (decide (a ≤ b)) := rfl
theorem chain_len {cl : Cl} {δ : En} {h : HS} {e : CE} {l : Nat} (he : evalE cl e δ h = .ok (dN l) h) : evalB cl (.chain .LtE .LtE (.lit (.int 1)) e (.lit (.int 16))) δ h = .ok (decide (1 ≤ l ∧ l ≤ 16)) h := by
  simp only [evalB, lit_ok, R.bind_ok, he, cmp_leI]
  by_cases c : 1 ≤ l
  · have : decide ((1 : Int) ≤ (l : Int)) = true := by simp; omega
    simp only [this, trim_self]
    congr 1
    rw [Bool.eq_iff_iff]; simp; omega
  · have : decide ((1 : Int) ≤ (l : Int)) = false := by simp; omega
    simp only [this]
    congr 1
    rw [eq_comm, decide_eq_false_iff_not]; omega
/-- what both tests say of a tuple of ints and texts -/
def chk (xs : List D) : Bool := decide (1 ≤ xs.length ∧ xs.length ≤ 16) && (xs.all isInt && match intsD xs with
  | some ns => decide ((ns.mergeSort leI).map D.int = (List.range xs.length).map dN)
  | none => false)
theorem sort_cmp {cl : Cl} {δ : En} {h : HS} {i : Nat} {ns : List Int} (e : δ[i]? = some (some (.tup (ns.map .int)))) (hw : WF h) (hl : ns.length ≤ LIM) :
    evalE cl (.cmp .Eq (.bi .sorted (.cons (.var i) .nil)) (.lrg (.cons (.bi .len (.cons (.var i) .nil)) .nil))) δ h = .ok (.bl (decide ((ns.mergeSort leI).map D.int = (List.range ns.length).map dN))) h := by
  have a1 : evalE cl (.bi .sorted (.cons (.var i) .nil)) δ h = .ok (.ref h.length) (h ++ [.lst ((ns.mergeSort leI).map .int)]) := by
    simp only [evalE, evalL, e, R.bind_ok, biF, itemsD, intsD_ints]
    have : (fun a b : Int => decide (a ≤ b)) = leI := rfl
    rw [this, mkL_ok (by rw [List.length_map, List.length_mergeSort]; exact hl), R.tr_ok, trim_one]
  let h1 : HS := h ++ [.lst ((ns.mergeSort leI).map .int)]
  have a2 : evalE cl (.lrg (.cons (.bi .len (.cons (.var i) .nil)) .nil)) δ h1 = .ok (.ref h1.length) (h1 ++ [.lst ((List.range ns.length).map dN)]) := by
    refine lrg_ok ?_ hl
    have := len_tup (cl := cl) (δ := δ) (h := h1) (e := .var i) (xs := ns.map .int) (var_ok e)
    rw [List.length_map] at this; exact this
  rw [evalE, a1, R.bind_ok]
  show ((evalE _ _ _ h1).bind _).tr _ = _
  rw [a2, R.bind_ok, cmpEq]
  have g1' : (h1 ++ [Cell.lst ((List.range ns.length).map dN)])[h.length]? = some (.lst ((ns.mergeSort leI).map .int)) := by
    show (h ++ [_] ++ [_])[h.length]? = _
    simp
  rw [eqD_lists g1' get_app_len (fun x hx => by obtain ⟨z, _, rfl⟩ := List.mem_map.mp hx; exact pI_int) (fun x hx => by obtain ⟨z, _, rfl⟩ := List.mem_map.mp hx; exact pI_int)]
  simp only [Option.map_some, ofO_ok, R.tr_ok]
  show trim h.length _ (h ++ [_] ++ [_]) = _
  rw [List.append_assoc]
  exact trim_app hw rfl rfl
section
variable {k : Nat} {h : HS} {xs : List D}
theorem sp_isint {x : D} (hx : fl x = true) : C (k + 1) "is_integer" [x] h = .ok (.bl (isInt x)) h := by
  refine (call_run (d := ⟨1, 1, c_is_integer⟩) rfl rfl (v := .bl (isInt x)) (h1 := h) (retS ?_)).trans (trim_self _ _)
  cases x <;> first | (exact absurd hx Bool.false_ne_true) | skip
  · rename_i i
    have a : evalE (C k) (.isi .int (.var 0)) [some (.int i)] h = .ok (.bl true) h := isi_ok1 (x := .int i) rfl rfl
    have b : evalE (C k) (.isi .bool (.var 0)) [some (.int i)] h = .ok (.bl false) h := isi_ok1 (x := .int i) rfl rfl
    show evalE (C k) (.andv (.isi .int (.var 0)) (.notv (.isi .bool (.var 0)))) [some _] h = _
    rw [evalE, a, R.bind_ok]
    show evalE (C k) (.notv (.isi .bool (.var 0))) [some _] h = _
    rw [evalE, b]; rfl
  · rename_i i
    have a : evalE (C k) (.isi .int (.var 0)) [some (.str i)] h = .ok (.bl false) h := isi_ok1 (x := .str i) rfl rfl
    show evalE (C k) (.andv (.isi .int (.var 0)) (.notv (.isi .bool (.var 0)))) [some _] h = _
    rw [evalE, a]; rfl
theorem tup_cond {cl : Cl} {z : Option D} {b : Bool} (hx : decide (1 ≤ xs.length ∧ xs.length ≤ 16) = b) : evalB cl (.or_ (.not_ (.val (.isi .tuple (.var 0)))) (.not_ (.chain .LtE .LtE (.lit (.int 1)) (.bi .len (.cons (.var 0) .nil)) (.lit (.int 16))))) [some (.tup xs), z] h = .ok (!b) h :=
  orF (notB (k := true) (valB (isi_ok1 (x := .tup xs) rfl rfl))) (notB (by rw [← hx]; exact chain_len (len_tup rfl)))
theorem chk_false {b : Bool} (h : decide (1 ≤ xs.length ∧ xs.length ≤ 16) = false) : chk xs = false := by unfold chk; rw [h]; rfl
theorem sp_isperm (hx : ∀ x ∈ xs, fl x = true) (hw : WF h) : C (k + 2) "is_perm" [.tup xs] h = .ok (.bl (chk xs)) h := by
  refine (call_run (d := ⟨1, 2, c_is_perm⟩) rfl rfl (v := .bl (chk xs)) (h1 := h) ?_).trans (trim_self _ _)
  show execB (C (k + 1)) c_is_perm [some (.tup xs), none] h = _
  by_cases c : 1 ≤ xs.length ∧ xs.length ≤ 16
  · have cd : decide (1 ≤ xs.length ∧ xs.length ≤ 16) = true := decide_eq_true c
    refine (ifF (tup_cond cd)).trans ?_
    have ea : evalE (C (k + 1)) (.bi .any (.cons (.lc [1] (.nm 1) (.seq (.var 0)) .tru (.notv (.call "is_integer" (.cons (.var 1) .nil)))) .nil)) [some (.tup xs), none] h = .ok (.bl ((xs.map fun x => !isInt x).any id)) h := by
      refine any_lc (lc_new (seq_tup rfl) ?_ ?_) hw
      · have := comp_map (live := liveOk none) (f := turnD (C (k + 1)) [1] (.nm 1) .tru (.notv (.call "is_integer" (.cons (.var 1) .nil))) [some (.tup xs), none]) (u := id) (g := fun x => D.bl (!isInt x)) (h := h) rfl (l := xs) fun x hxx => turnD_ok (δ1 := [some (.tup xs), some x]) rfl rfl (by
          rw [evalE, call_1 (x := x) rfl (sp_isint (hx x hxx)), R.bind_ok])
        rw [List.map_id] at this
        rw [List.map_map]
        exact this
      · unfold LIM; simp; omega
    by_cases ai : xs.all isInt = true
    · obtain ⟨ns, rfl⟩ := intsD_all ai
      have an : ((ns.map D.int).map fun x => !isInt x).any id = false := by
        rw [List.any_eq_false]
        intro b hb
        obtain ⟨x, hxx, rfl⟩ := List.mem_map.mp hb
        have := List.all_eq_true.mp ai x hxx
        simp [this]
      rw [an] at ea
      refine (ifF (valB ea)).trans ?_
      have hl : ns.length ≤ LIM := by rw [List.length_map] at c; unfold LIM; omega
      have e := sort_cmp (cl := C (k + 1)) (δ := [some (.tup (ns.map .int)), none]) (i := 0) (h := h) (ns := ns) rfl hw hl
      have ec : chk (ns.map .int) = decide ((ns.mergeSort leI).map D.int = (List.range ns.length).map dN) := by
        unfold chk
        rw [cd, ai, intsD_ints, List.length_map]; rfl
      rw [ec]
      exact retS e
    · have an : (xs.map fun x => !isInt x).any id = true := by
        rw [List.any_eq_true]
        apply Classical.byContradiction
        intro hn
        apply ai
        rw [List.all_eq_true]
        intro x hxx
        cases e : isInt x with
        | true => rfl
        | false => exact absurd ⟨true, List.mem_map.mpr ⟨x, hxx, by rw [e]; rfl⟩, rfl⟩ hn
      rw [an] at ea
      have ec : chk xs = false := by
        unfold chk
        rw [Bool.not_eq_true] at ai
        rw [cd, ai]; rfl
      rw [ec]
      exact ifR (valB ea) (retS lit_ok)
  · have cd : decide (1 ≤ xs.length ∧ xs.length ≤ 16) = false := decide_eq_false c
    rw [chk_false (b := true) cd]
    exact ifR (tup_cond cd) (retS lit_ok)
theorem sp_known (hx : ∀ x ∈ xs, fl x = true) (hw : WF h) : C (k + 2) "_law_known" [.tup xs] h = .ok (.bl (chk xs)) h := by
  refine (call_run (d := ⟨1, 2, c__law_known⟩) rfl rfl (v := .bl (chk xs)) (h1 := h) ?_).trans (trim_self _ _)
  show execB (C (k + 1)) c__law_known [some (.tup xs), none] h = _
  by_cases c : 1 ≤ xs.length ∧ xs.length ≤ 16
  · have cd : decide (1 ≤ xs.length ∧ xs.length ≤ 16) = true := decide_eq_true c
    refine (ifF (tup_cond cd)).trans ?_
    have ea : evalE (C (k + 1)) (.bi .any (.cons (.lc [1] (.nm 1) (.seq (.var 0)) .tru (.orv (.isi .bool (.var 1)) (.notv (.isi .int (.var 1))))) .nil)) [some (.tup xs), none] h = .ok (.bl ((xs.map fun x => !isInt x).any id)) h := by
      refine any_lc (lc_new (seq_tup rfl) ?_ ?_) hw
      · have := comp_map (live := liveOk none) (f := turnD (C (k + 1)) [1] (.nm 1) .tru (.orv (.isi .bool (.var 1)) (.notv (.isi .int (.var 1)))) [some (.tup xs), none]) (u := id) (g := fun x => D.bl (!isInt x)) (h := h) rfl (l := xs) fun x hxx => turnD_ok (δ1 := [some (.tup xs), some x]) rfl rfl (by
          have hf := hx x hxx
          have a : evalE (C (k + 1)) (.isi .bool (.var 1)) [some (.tup xs), some x] h = .ok (.bl false) h := by
            cases x <;> first | (exact absurd hf Bool.false_ne_true) | skip
            · exact isi_ok1 (var_ok rfl) rfl
            · exact isi_ok1 (var_ok rfl) rfl
          have b : evalE (C (k + 1)) (.isi .int (.var 1)) [some (.tup xs), some x] h = .ok (.bl (isInt x)) h := by
            cases x <;> first | (exact absurd hf Bool.false_ne_true) | skip
            · exact isi_ok1 (var_ok rfl) rfl
            · exact isi_ok1 (var_ok rfl) rfl
          rw [evalE, a, R.bind_ok]
          show evalE (C (k + 1)) (.notv (.isi .int (.var 1))) _ h = _
          rw [evalE, b]; rfl)
        rw [List.map_id] at this
        rw [List.map_map]
        exact this
      · unfold LIM; simp; omega
    by_cases ai : xs.all isInt = true
    · obtain ⟨ns, rfl⟩ := intsD_all ai
      have an : ((ns.map D.int).map fun x => !isInt x).any id = false := by
        rw [List.any_eq_false]
        intro b hb
        obtain ⟨x, hxx, rfl⟩ := List.mem_map.mp hb
        have := List.all_eq_true.mp ai x hxx
        simp [this]
      rw [an] at ea
      refine (ifF (valB ea)).trans ?_
      have hl : ns.length ≤ LIM := by rw [List.length_map] at c; unfold LIM; omega
      have e := sort_cmp (cl := C (k + 1)) (δ := [some (.tup (ns.map .int)), none]) (i := 0) (h := h) (ns := ns) rfl hw hl
      have ec : chk (ns.map .int) = decide ((ns.mergeSort leI).map D.int = (List.range ns.length).map dN) := by
        unfold chk
        rw [cd, ai, intsD_ints, List.length_map]; rfl
      rw [ec]
      exact retS e
    · have an : (xs.map fun x => !isInt x).any id = true := by
        rw [List.any_eq_true]
        apply Classical.byContradiction
        intro hn
        apply ai
        rw [List.all_eq_true]
        intro x hxx
        cases e : isInt x with
        | true => rfl
        | false => exact absurd ⟨true, List.mem_map.mpr ⟨x, hxx, by rw [e]; rfl⟩, rfl⟩ hn
      rw [an] at ea
      have ec : chk xs = false := by
        unfold chk
        rw [Bool.not_eq_true] at ai
        rw [cd, ai]; rfl
      rw [ec]
      exact ifR (valB ea) (retS lit_ok)
  · have cd : decide (1 ≤ xs.length ∧ xs.length ≤ 16) = false := decide_eq_false c
    rw [chk_false (b := true) cd]
    exact ifR (tup_cond cd) (retS lit_ok)
/-- no tuple -/
theorem sp_isperm_no {v : D} (hv : isiF .tuple v h = some false) : C (k + 2) "is_perm" [v] h = .ok (.bl false) h :=
  (call_run (d := ⟨1, 2, c_is_perm⟩) rfl rfl (v := .bl false) (h1 := h) (ifR (orT (notB (k := false) (valB (isi_ok1 (x := v) rfl hv)))) (retS lit_ok))).trans (trim_self _ _)
theorem sp_known_no {v : D} (hv : isiF .tuple v h = some false) : C (k + 2) "_law_known" [v] h = .ok (.bl false) h :=
  (call_run (d := ⟨1, 2, c__law_known⟩) rfl rfl (v := .bl false) (h1 := h) (ifR (orT (notB (k := false) (valB (isi_ok1 (x := v) rfl hv)))) (retS lit_ok))).trans (trim_self _ _)
end
theorem chk_P {n : Nat} {p : List Nat} (hp : Pm n p) (h1 : 1 ≤ n) (h2 : n ≤ 16) : chk (p.map dN) = true := by
  have ei : p.map dN = (p.map fun (x : Nat) => (x : Int)).map D.int := by rw [List.map_map]; rfl
  unfold chk
  rw [List.length_map, hp.len, decide_eq_true ⟨h1, h2⟩]
  have ai : (p.map dN).all isInt = true := by
    rw [List.all_map, List.all_eq_true]; intro x _; rfl
  rw [ai, ei, intsD_ints]
  simp only [Bool.true_and]
  rw [decide_eq_true_eq]
  have pm : (List.range n).Perm p := by
    refine (List.perm_ext_iff_of_nodup List.nodup_range hp.nd).mpr fun x => ?_
    rw [List.mem_range]
    exact ⟨fun hx => ph_all hp.nd hp.lt hp.len hx, hp.lt x⟩
  rw [sorted_eq (l := (List.range n).map fun (x : Nat) => (x : Int)) (pm.map _) ?_, List.map_map]
  · rfl
  · rw [List.pairwise_map]
    have : List.Pairwise (fun a b => a < b) (List.range n) := List.pairwise_lt_range
    exact this.imp fun {a b} h => by unfold leI; simp; omega
end Mi

namespace Mi
open PySem
/-! ## the law's look at one permutation -/
theorem call_new {cl : Cl} {f : Str} {a : CE} {δ : En} {h : HS} {x : D} {c : Cell} (ha : evalE cl a δ h = .ok x h) (hc : cl f [x] h = .ok (.ref h.length) (h ++ [c])) : evalE cl (.call f (.cons a .nil)) δ h = .ok (.ref h.length) (h ++ [c]) := by
  simp only [evalE, evalL, ha, R.bind_ok, hc, R.tr_ok, trim_one]
theorem seq_ref {cl : Cl} {i m : Nat} {δ : En} {h : HS} {xs : List D} (e : δ[i]? = some (some (.ref m))) (e2 : h[m]? = some (.lst xs)) : evalI cl (.seq (.var i)) δ h = .ok ⟨xs, some (m, xs)⟩ h := by
  have hm : m < h.length := (List.getElem?_eq_some_iff.mp e2).1
  simp only [evalI, evalE, e, R.bind_ok, walkD, e2]
  rw [if_neg]
  rw [Bool.and_eq_true, Bool.and_eq_true, decide_eq_true_eq]
  omega
theorem live_ok {m : Nat} {h : HS} {xs : List D} (e2 : h[m]? = some (.lst xs)) : liveOk (some (m, xs)) h = true := by
  simp [liveOk, e2]
theorem seq_new {cl : Cl} {e : CE} {δ : En} {h : HS} {xs : List D} (he : evalE cl e δ h = .ok (.ref h.length) (h ++ [.lst xs])) (hw : WF h) (hl : D.los h.length xs = true) : evalI cl (.seq e) δ h = .ok ⟨xs, none⟩ h := by
  simp only [evalI, he, R.bind_ok, walkD, get_app_len]
  rw [if_pos]
  · rw [List.take_left']; rfl
  · have hw : (h.all (Cell.lo h.length)) = true := hw
    rw [List.take_left' rfl, hw, hl]; simp
theorem sorted_new {cl : Cl} {e : CE} {δ : En} {h : HS} {ns : List Int} (he : evalE cl e δ h = .ok (.ref h.length) (h ++ [.lst (ns.map .int)])) (hw : WF h) (hl : ns.length ≤ LIM) : evalE cl (.bi .sorted (.cons e .nil)) δ h = .ok (.ref h.length) (h ++ [.lst ((ns.mergeSort leI).map .int)]) := by
  simp only [evalE, evalL, he, R.bind_ok, biF, itemsD, get_app_len, intsD_ints]
  have : (fun a b : Int => decide (a ≤ b)) = leI := rfl
  rw [this, mkL_ok (by rw [List.length_map, List.length_mergeSort]; exact hl), R.tr_ok, List.append_assoc]
  refine trim_new hw (by simp) (c := .lst ((ns.mergeSort leI).map .int)) ?_ los_ints
  simp
theorem len_new {cl : Cl} {e : CE} {δ : En} {h : HS} {xs : List D} (he : evalE cl e δ h = .ok (.ref h.length) (h ++ [.lst xs])) (hw : WF h) : evalE cl (.bi .len (.cons e .nil)) δ h = .ok (dN xs.length) h := by
  simp only [evalE, evalL, he, R.bind_ok, biF, get_app_len]
  rw [R.tr_ok]
  exact trim_app hw rfl rfl
theorem pI_Pr {d : Nat} {rs : List (List Nat)} : pI (d + 2) (Pr rs) = true := pI_tup fun x hx => by
  obtain ⟨r, _, rfl⟩ := List.mem_map.mp hx
  exact pI_P
theorem pI_ints {d : Nat} {ns : List Int} : pI (d + 1) (.tup (ns.map .int)) = true := pI_tup fun x hx => by
  obtain ⟨r, _, rfl⟩ := List.mem_map.mp hx
  exact pI_int
theorem ne_self {a : D} {h : HS} (ha : pI 60 a = true) : cmpF .NotEq a a h = some false := by rw [cmpNe, eqD_self ha]; rfl
theorem lcm_pos {n : Nat} {p : List Nat} (hp : Pm n p) : 0 < lcmL (kindN p) ∧ (∀ r ∈ rows p, r.length ∣ lcmL (kindN p)) ∧ ∀ m, (∀ r ∈ rows p, r.length ∣ m) → lcmL (kindN p) ∣ m := by
  obtain ⟨_, e2⟩ := kindN_dN hp
  have pos : ∀ x ∈ kindN p, 0 < x := fun x hx => by
    obtain ⟨r, hr, rfl⟩ := e2 x hx
    exact (hp.row_pos hr).1
  obtain ⟨h1, _, h3, h4⟩ := lcmL_spec (kindN p) 1 Nat.one_pos pos
  exact ⟨h1, fun r hr => h3 _ (kindN_mem hp hr), fun m hm => h4 m (Nat.one_dvd m) fun x hx => by
    obtain ⟨r, hr, rfl⟩ := e2 x hx
    exact hm r hr⟩
section
variable {n : Nat} {p : List Nat}
theorem sp_right {k : Nat} {h : HS} (hp : Pm n p) (hw : WF h) (hl : n < 1000000) : C (k + 4) "_law_right" [P p] h = .ok (.bl true) h := by
  have hpl : p.length = n := hp.len
  have hLIM : n < LIM := by unfold LIM; omega
  have hrl : (rows p).length ≤ n := by
    have := rfnd_len (p := p) (s := p.length)
    rw [hpl] at this
    unfold rows
    rw [hpl]; exact this
  let h1 : HS := h ++ [.lst ((rows p).map P)]
  have hw1 : WF h1 := hw.app (los_map fun x _ => lo_P)
  have g1' : h1[h.length]? = some (.lst ((rows p).map P)) := get_app_len
  have e0 : ∀ {δ : En}, δ[0]? = some (some (P p)) → evalE (C (k + 3)) (.call "_law_rows" (.cons (.var 0) .nil)) δ h = .ok (.ref h.length) h1 := fun hd => call_new (x := P p) (var_ok hd) (sp_rows hp hw hLIM)
  -- the first test
  have t1 : ∀ {x2 x3 x4 x5 x6 x7 : Option D}, evalB (C (k + 3)) (.cmp .NotEq (.call "cycles" (.cons (.var 0) .nil)) (.bi .tuple (.cons (.lc [6] (.nm 6) (.seq (.var 1)) (.cmp .Gt (.bi .len (.cons (.var 6) .nil)) (.lit (.int 1))) (.var 6)) .nil))) [some (P p), some (.ref h.length), x2, x3, x4, x5, x6, x7] h1 = .ok false h1 := by
    intro x2 x3 x4 x5 x6 x7
    have hr2 : ((rows p).filter long).length ≤ LIM := Nat.le_trans (List.length_filter_le _ _) (by omega)
    refine cmpB (x := Pr (rows2 p)) (y := Pr (rows2 p)) (call_1 (x := P p) rfl (sp_cycles hp hw1 hLIM)) (tuple_new (ys := ((rows p).filter long).map P) (lc_new (seq_ref (m := h.length) rfl g1') ?_ (by rw [List.length_map]; exact hr2)) hw1 (los_map fun x _ => lo_P) (by rw [List.length_map]; exact hr2)) (ne_self pI_Pr)
    refine comp_filter (live_ok g1') fun r hr => turnD_b (δ1 := [some (P p), some (.ref h.length), x2, x3, x4, x5, some (P r), x7]) rfl ?_ rfl
    exact cmpB (x := dN r.length) (y := dN 1) (len_P rfl) lit_ok (by rw [cmp_gt]; rfl)
  -- the second
  have t2 : ∀ {x2 x3 x4 x5 x6 x7 : Option D}, evalB (C (k + 3)) (.or_ (.cmp .NotEq (.call "kind" (.cons (.var 0) .nil)) (.bi .tuple (.cons (.bi .sorted (.cons (.lc [6] (.nm 6) (.seq (.var 1)) .tru (.bi .len (.cons (.var 6) .nil))) .nil)) .nil))) (.cmp .NotEq (.call "moved" (.cons (.var 0) .nil)) (.bi .tuple (.cons (.lc [3] (.nm 3) (.rng (.cons (.bi .len (.cons (.var 0) .nil)) .nil)) (.cmp .NotEq (.ix (.var 0) (.var 3)) (.var 3)) (.var 3)) .nil)))) [some (P p), some (.ref h.length), x2, x3, x4, x5, x6, x7] h1 = .ok false h1 := by
    intro x2 x3 x4 x5 x6 x7
    refine orF ?_ ?_
    · have hkl : (kindL p).length ≤ LIM := by have := (kindL_len hp).2; omega
      refine cmpB (x := .tup ((kindL p).map .int)) (y := .tup ((kindL p).map .int)) (call_1 (x := P p) rfl (sp_kind hp hw1 hLIM)) (tuple_new (sorted_new (ns := lens (rows p)) (lc_new (seq_ref (m := h.length) rfl g1') ?_ ?_) hw1 ?_) hw1 los_ints (by rw [List.length_map]; exact hkl)) (ne_self pI_ints)
      · have : (lens (rows p)).map D.int = (rows p).map fun r => dN r.length := by unfold lens; rw [List.map_map]; rfl
        rw [this]
        exact comp_map (live_ok g1') fun r hr => turnD_ok (δ1 := [some (P p), some (.ref h.length), x2, x3, x4, x5, some (P r), x7]) rfl rfl (len_P rfl)
      · unfold lens; simp; omega
      · unfold lens; simp; omega
    · have hml : (mvd n p).length ≤ LIM := by
        unfold mvd
        have := List.length_filter_le (fun x => decide (at_ p x ≠ x)) (List.range n)
        simp only [List.length_range] at this
        omega
      refine cmpB (x := P (mvd n p)) (y := P (mvd n p)) (call_1 (x := P p) rfl (sp_moved hp hw1 hLIM)) (tuple_new (ys := (mvd n p).map dN) (lc_new (rng_ok1 (n := n) (by have := len_P (cl := C (k + 3)) (δ := [some (P p), some (.ref h.length), x2, x3, x4, x5, x6, x7]) (h := h1) (i := 0) (p := p) rfl; rw [hpl] at this; exact this) (by omega)) ?_ (by rw [List.length_map]; exact hml)) hw1 los_nats (by rw [List.length_map]; exact hml)) (ne_self pI_P)
      unfold mvd
      refine comp_filter rfl fun x hx => turnD_b (δ1 := [some (P p), some (.ref h.length), x2, some (dN x), x4, x5, x6, x7]) rfl ?_ rfl
      rw [List.mem_range] at hx
      refine cmpB (x := dN (at_ p x)) (y := dN x) (ix_P (k := x) rfl rfl (by omega)) rfl ?_
      rw [cmp_ne]
      congr 1
      rw [Bool.eq_iff_iff]; simp
  -- inversions
  obtain ⟨δ2, h2, ef, ⟨x3, rfl⟩, hh⟩ := forS (cl := C (k + 3)) (r := (.cons (.ifs (.cmp .NotEq (.call "is_even" (.cons (.var 0) .nil)) (.cmp .Eq (.bin .Mod (.var 2) (.lit (.int 2))) (.lit (.int 0)))) (.cons (.ret (.lit (.bl false))) .nil) .nil) (.cons (.asg (.nm 4) (.call "order" (.cons (.var 0) .nil))) (.cons (.ifs (.or_ (.val (.isi .bool (.var 4))) (.or_ (.not_ (.val (.isi .int (.var 4)))) (.or_ (.cmp .Lt (.var 4) (.lit (.int 1))) (.val (.bi .any (.cons (.lc [6] (.nm 6) (.seq (.var 1)) .tru (.cmp .NotEq (.bin .Mod (.var 4) (.bi .len (.cons (.var 6) .nil))) (.lit (.int 0)))) .nil)))))) (.cons (.ret (.lit (.bl false))) .nil) .nil) (.cons (.ret (.bi .all (.cons (.lc [5] (.nm 5) (.seq (.lst (.cons (.lit (.int 2)) (.cons (.lit (.int 3)) (.cons (.lit (.int 5)) (.cons (.lit (.int 7)) (.cons (.lit (.int 11)) (.cons (.lit (.int 13)) .nil)))))))) (.cmp .Eq (.bin .Mod (.var 4) (.var 5)) (.lit (.int 0))) (.bi .any (.cons (.lc [6] (.nm 6) (.seq (.var 1)) .tru (.cmp .NotEq (.bin .Mod (.bin .FloorDiv (.var 4) (.var 5)) (.bi .len (.cons (.var 6) .nil))) (.lit (.int 0)))) .nil))) .nil))) .nil)))))
    (b := (.cons (.asg (.nm 2) (.bin .Add (.var 2) (.bi .len (.cons (.lc [7] (.nm 7) (.rng (.cons (.var 3) .nil)) (.cmp .Gt (.ix (.var 0) (.var 7)) (.ix (.var 0) (.var 3))) (.var 7)) .nil)))) .nil)) (t := .nm 3) (it := .rng (.cons (.bi .len (.cons (.var 0) .nil)) .nil))
    (δ := [some (P p), some (.ref h.length), some (dN 0), none, none, none, none, none]) (h := h1)
    (fun i δ h' => (∃ x3, δ = [some (P p), some (.ref h.length), some (dN (sm i (tc p))), x3, none, none, none, none]) ∧ h' = h1) (rng_ok1 (len_P rfl) (by omega)) ⟨⟨none, rfl⟩, rfl⟩ (fun i x δ h' hi hq => by
      obtain ⟨⟨x3, rfl⟩, rfl⟩ := hq
      obtain ⟨hlt, rfl⟩ := range_at hi
      have hfl : ((List.range i).filter fun y => decide (at_ p i < at_ p y)).length = tc p i := by
        rw [sm_filter]
        unfold tc
        exact sm_congr fun y hy => by by_cases c : at_ p i < at_ p y <;> simp [c]
      have e1 : evalE (C (k + 3)) (.bi .len (.cons (.lc [7] (.nm 7) (.rng (.cons (.var 3) .nil)) (.cmp .Gt (.ix (.var 0) (.var 7)) (.ix (.var 0) (.var 3))) (.var 7)) .nil)) [some (P p), some (.ref h.length), some (dN (sm i (tc p))), some (dN i), none, none, none, none] h1 = .ok (dN (tc p i)) h1 := by
        have := len_new (cl := C (k + 3)) (δ := [some (P p), some (.ref h.length), some (dN (sm i (tc p))), some (dN i), none, none, none, none]) (h := h1) (e := .lc [7] (.nm 7) (.rng (.cons (.var 3) .nil)) (.cmp .Gt (.ix (.var 0) (.var 7)) (.ix (.var 0) (.var 3))) (.var 7)) (xs := ((List.range i).filter fun y => decide (at_ p i < at_ p y)).map dN) (lc_new (rng_ok1 (n := i) rfl (by omega)) (comp_filter rfl fun y hy => turnD_b (δ1 := [some (P p), some (.ref h.length), some (dN (sm i (tc p))), some (dN i), none, none, none, some (dN y)]) rfl (by
            rw [List.mem_range] at hy
            exact cmpB (x := dN (at_ p y)) (y := dN (at_ p i)) (ix_P (k := y) rfl rfl (by omega)) (ix_P (k := i) rfl rfl hlt) (by rw [cmp_gt])) rfl) (by
            rw [List.length_map]
            have := List.length_filter_le (fun y => decide (at_ p i < at_ p y)) (List.range i)
            simp only [List.length_range] at this
            omega)) hw1
        rw [List.length_map, hfl] at this
        exact this
      refine ⟨rfl, _, _, _, rfl, .inl ((asgS (v := dN (sm i (tc p) + tc p i)) (h1 := h1) (binE (x := dN (sm i (tc p))) (y := dN (tc p i)) rfl e1 add_nat) (by simp)).trans nilS), ⟨_, rfl⟩, rfl⟩) (fun _ _ _ => rfl)
  have hlr : (List.map dN (List.range p.length)).length = n := by simp [hpl]
  simp only [hlr] at ef
  rw [hh] at ef
  have par := parity hp
  have cle : ((List.range n).filter (mn p)).length ≤ n := by
    have := List.length_filter_le (mn p) (List.range n)
    simpa using this
  have t3 : evalB (C (k + 3)) (.cmp .NotEq (.call "is_even" (.cons (.var 0) .nil)) (.cmp .Eq (.bin .Mod (.var 2) (.lit (.int 2))) (.lit (.int 0)))) [some (P p), some (.ref h.length), some (dN (sm n (tc p))), x3, none, none, none, none] h1 = .ok false h1 := by
    refine cmpB (x := .bl (decide ((n - ((List.range n).filter (mn p)).length) % 2 = 0))) (y := .bl (decide (sm n (tc p) % 2 = 0))) (call_1 (x := P p) rfl (sp_even hp hw1 hLIM)) (cmpE (x := dN (sm n (tc p) % 2)) (y := dN 0) (binE (x := dN (sm n (tc p))) (y := dN 2) rfl lit_ok (mod_nat (by decide))) lit_ok (by rw [cmp_eq])) ?_
    rw [cmpNe, eqD_bl]
    have : decide ((n - ((List.range n).filter (mn p)).length) % 2 = 0) = decide (sm n (tc p) % 2 = 0) := by
      rw [Bool.eq_iff_iff, decide_eq_true_eq, decide_eq_true_eq]
      unfold turned at par
      omega
    rw [this]; simp
  obtain ⟨zpos, zdvd, zmin⟩ := lcm_pos hp
  let z := lcmL (kindN p)
  have e4 : evalE (C (k + 3)) (.call "order" (.cons (.var 0) .nil)) [some (P p), some (.ref h.length), some (dN (sm n (tc p))), x3, none, none, none, none] h1 = .ok (dN z) h1 := call_1 (x := P p) rfl (sp_order hp hw1 hl)
  have t4 : evalB (C (k + 3)) (.or_ (.val (.isi .bool (.var 4))) (.or_ (.not_ (.val (.isi .int (.var 4)))) (.or_ (.cmp .Lt (.var 4) (.lit (.int 1))) (.val (.bi .any (.cons (.lc [6] (.nm 6) (.seq (.var 1)) .tru (.cmp .NotEq (.bin .Mod (.var 4) (.bi .len (.cons (.var 6) .nil))) (.lit (.int 0)))) .nil)))))) [some (P p), some (.ref h.length), some (dN (sm n (tc p))), x3, some (dN z), none, none, none] h1 = .ok false h1 := by
    refine orF (valB (isi_ok1 (x := dN z) rfl rfl)) (orF (notB (k := true) (valB (isi_ok1 (x := dN z) rfl rfl))) (orF (cmpB (x := dN z) (y := dN 1) rfl lit_ok (by rw [cmp_lt, decide_eq_false (by omega)])) (valB ?_)))
    have := any_lc (cl := C (k + 3)) (δ := [some (P p), some (.ref h.length), some (dN (sm n (tc p))), x3, some (dN z), none, none, none]) (h := h1) (e := .lc [6] (.nm 6) (.seq (.var 1)) .tru (.cmp .NotEq (.bin .Mod (.var 4) (.bi .len (.cons (.var 6) .nil))) (.lit (.int 0)))) (bs := (rows p).map fun r => !decide (z % r.length = 0)) (lc_new (seq_ref (m := h.length) rfl g1') (by
        rw [List.map_map]
        exact comp_map (live_ok g1') fun r hr => turnD_ok (δ1 := [some (P p), some (.ref h.length), some (dN (sm n (tc p))), x3, some (dN z), none, some (P r), none]) rfl rfl (cmpE (x := dN (z % r.length)) (y := dN 0) (binE (x := dN z) (y := dN r.length) rfl (len_P rfl) (mod_nat (by have := (hp.row_pos hr).1; omega))) lit_ok (by rw [cmp_ne]))) (by simp; omega)) hw1
    have ea : ((rows p).map fun r => !decide (z % r.length = 0)).any id = false := by
      rw [List.any_eq_false]
      intro b hb
      obtain ⟨r, hr, rfl⟩ := List.mem_map.mp hb
      have hz : z % r.length = 0 := Nat.mod_eq_zero_of_dvd (zdvd r hr)
      simp [hz]
    rw [ea] at this
    exact this
  have e5 : evalE (C (k + 3)) (.bi .all (.cons (.lc [5] (.nm 5) (.seq (.lst (.cons (.lit (.int 2)) (.cons (.lit (.int 3)) (.cons (.lit (.int 5)) (.cons (.lit (.int 7)) (.cons (.lit (.int 11)) (.cons (.lit (.int 13)) .nil)))))))) (.cmp .Eq (.bin .Mod (.var 4) (.var 5)) (.lit (.int 0))) (.bi .any (.cons (.lc [6] (.nm 6) (.seq (.var 1)) .tru (.cmp .NotEq (.bin .Mod (.bin .FloorDiv (.var 4) (.var 5)) (.bi .len (.cons (.var 6) .nil))) (.lit (.int 0)))) .nil))) .nil)) [some (P p), some (.ref h.length), some (dN (sm n (tc p))), x3, some (dN z), none, none, none] h1 = .ok (.bl true) h1 := by
    let l : List Nat := [2, 3, 5, 7, 11, 13]
    have hq : ∀ q ∈ l, 2 ≤ q ∧ q < 100 := by decide
    let an : Nat → Bool := fun q => ((rows p).map fun r => !decide (z / q % r.length = 0)).any id
    have ei : evalI (C (k + 3)) (.seq (.lst (.cons (.lit (.int 2)) (.cons (.lit (.int 3)) (.cons (.lit (.int 5)) (.cons (.lit (.int 7)) (.cons (.lit (.int 11)) (.cons (.lit (.int 13)) .nil)))))))) [some (P p), some (.ref h.length), some (dN (sm n (tc p))), x3, some (dN z), none, none, none] h1 = .ok ⟨l.map dN, none⟩ h1 :=
      seq_new (lstE (xs := l.map dN) (consL lit_ok (consL lit_ok (consL lit_ok (consL lit_ok (consL lit_ok (consL lit_ok nilL)))))) (by simp [l, LIM])) hw1 los_nats
    have := all_lc (cl := C (k + 3)) (δ := [some (P p), some (.ref h.length), some (dN (sm n (tc p))), x3, some (dN z), none, none, none]) (h := h1) (e := .lc [5] (.nm 5) (.seq (.lst (.cons (.lit (.int 2)) (.cons (.lit (.int 3)) (.cons (.lit (.int 5)) (.cons (.lit (.int 7)) (.cons (.lit (.int 11)) (.cons (.lit (.int 13)) .nil)))))))) (.cmp .Eq (.bin .Mod (.var 4) (.var 5)) (.lit (.int 0))) (.bi .any (.cons (.lc [6] (.nm 6) (.seq (.var 1)) .tru (.cmp .NotEq (.bin .Mod (.bin .FloorDiv (.var 4) (.var 5)) (.bi .len (.cons (.var 6) .nil))) (.lit (.int 0)))) .nil))) (bs := (l.filter fun q => decide (z % q = 0)).map an) (lc_new ei (by
        rw [List.map_map]
        refine comp_filter rfl fun q hql => turnD_b (δ1 := [some (P p), some (.ref h.length), some (dN (sm n (tc p))), x3, some (dN z), some (dN q), none, none]) rfl (cmpB (x := dN (z % q)) (y := dN 0) (binE (x := dN z) (y := dN q) rfl rfl (mod_nat (by have := hq q hql; omega))) lit_ok (by rw [cmp_eq])) ?_
        refine any_lc (cl := C (k + 3)) (δ := [some (P p), some (.ref h.length), some (dN (sm n (tc p))), x3, some (dN z), some (dN q), none, none]) (h := h1) (e := .lc [6] (.nm 6) (.seq (.var 1)) .tru (.cmp .NotEq (.bin .Mod (.bin .FloorDiv (.var 4) (.var 5)) (.bi .len (.cons (.var 6) .nil))) (.lit (.int 0)))) (bs := (rows p).map fun r => !decide (z / q % r.length = 0)) (lc_new (seq_ref (m := h.length) rfl g1') ?_ (by simp; omega)) hw1
        rw [List.map_map]
        exact comp_map (live_ok g1') fun r hr => turnD_ok (δ1 := [some (P p), some (.ref h.length), some (dN (sm n (tc p))), x3, some (dN z), some (dN q), some (P r), none]) rfl rfl (cmpE (x := dN (z / q % r.length)) (y := dN 0) (binE (x := dN (z / q)) (y := dN r.length) (binE (x := dN z) (y := dN q) rfl rfl (div_nat (by have := hq q hql; omega) (by have := hq q hql; omega))) (len_P rfl) (mod_nat (by have := (hp.row_pos hr).1; omega))) lit_ok (by rw [cmp_ne]))) (by
        rw [List.length_map, List.length_map]
        have := List.length_filter_le (fun q => decide (z % q = 0)) l
        simp [l, LIM] at this ⊢
        omega)) hw1
    have ea : ((l.filter fun q => decide (z % q = 0)).map an).all id = true := by
      rw [List.all_eq_true]
      intro b hb
      obtain ⟨q, hqf, rfl⟩ := List.mem_map.mp hb
      rw [List.mem_filter] at hqf
      have hd : q ∣ z := Nat.dvd_of_mod_eq_zero (by simpa using hqf.2)
      show an q = true
      by_cases c : an q = true
      · exact c
      · exfalso
        have all : ∀ r ∈ rows p, r.length ∣ z / q := fun r hr => by
          apply Classical.byContradiction
          intro hn
          apply c
          show ((rows p).map fun r => !decide (z / q % r.length = 0)).any id = true
          rw [List.any_eq_true]
          refine ⟨true, List.mem_map.mpr ⟨r, hr, ?_⟩, rfl⟩
          have : ¬ z / q % r.length = 0 := fun e => hn (Nat.dvd_of_mod_eq_zero e)
          simp [this]
        have h2 := zmin _ all
        have q2 := (hq q hqf.1).1
        have hpos : 0 < z / q := Nat.div_pos (Nat.le_of_dvd zpos hd) (by omega)
        have := Nat.le_of_dvd hpos h2
        have lt : z / q < z := Nat.div_lt_self zpos (by omega)
        have : z ≤ z / q := this
        omega
    rw [ea] at this
    exact this
  have main : execB (C (k + 3)) c__law_right [some (P p), none, none, none, none, none, none, none] h = .ret (.bl true) h1 :=
    (asgS (e0 rfl) (by simp)).trans ((ifF t1).trans ((ifF t2).trans ((asgS (v := dN 0) lit_ok (by simp)).trans (ef.trans ((ifF t3).trans ((asgS e4 (by simp)).trans ((ifF t4).trans (retS e5))))))))
  exact (call_run (d := ⟨1, 8, c__law_right⟩) rfl rfl main).trans (trim_app hw rfl rfl)
end
end Mi

namespace Mi
open PySem
/-! ## values that are no permutations -/
theorem bin_run {cl : Cl} {δ : En} {h h1 : HS} {a b : CE} {x y v : D} {op : Operator} (ha : evalE cl a δ h = .ok x h) (hb : evalE cl b δ h = .ok y h1) (hc : binF op x y h1 = .ok v h1) (hn : h1.length ≤ h.length) : evalE cl (.bin op a b) δ h = .ok v h1 := by
  simp only [evalE, ha, hb, R.bind_ok, hc, R.tr_ok]
  exact trim_le hn
theorem fl_lo {n : Nat} {x : D} (h : fl x = true) : x.lo n = true := by
  cases x <;> first | rfl | (exact absurd h Bool.false_ne_true)
theorem ix_neg {p : List Nat} {k : Nat} {h : HS} (hk : k < p.length) : ∃ y, ixF (P p) (.int ((k : Int) - 1)) h = .ok (dN y) h := by
  unfold P ixF
  cases k with
  | zero =>
    refine ⟨at_ p (p.length - 1), ?_⟩
    simp only
    rw [show ((0 : Nat) : Int) - 1 = -1 by omega]
    unfold L2.atI
    rw [List.length_map, ixN_neg1 hk]
    simp only [Option.bind_some]
    rw [map_get (by omega)]; rfl
  | succ k =>
    refine ⟨at_ p k, ?_⟩
    simp only
    rw [show ((k + 1 : Nat) : Int) - 1 = ((k : Nat) : Int) by omega, atI_nat (map_get (by omega))]; rfl
section
variable {n : Nat} {p : List Nat} {ns : List Int}
theorem sp_wrong {k i v s : Nat} (hp : Pm n p) (h1 : 1 ≤ n) (h16 : n ≤ 16) :
    ∃ r i' v' s' ext, C (k + 2) "_law_wrong" [.ref 1, P p] (DS ns i v s []) = .ok r (DS ns i' v' s' ext) ∧ ((∃ xs, r = .tup xs ∧ ext = [] ∧ ∀ x ∈ xs, fl x = true) ∨ (r = .ref 2 ∧ ext = [.lst (p.map dN)])) := by
  have hpl : p.length = n := hp.len
  let R0 : HS := [.lst (p.map dN)]
  obtain ⟨a, i1, v1, s1, ea, ha⟩ := sp_take (k := k) (many := n) (i := i) (v := v) (s := s) (ns := ns) (rest := R0) (by omega) (by omega)
  obtain ⟨m, i2, v2, s2, em, hm⟩ := sp_take (k := k) (many := 6) (i := i1) (v := v1) (s := s1) (ns := ns) (rest := R0) (by omega) (by omega)
  have st : ∀ r : CSs, execB (C (k + 1)) (.cons (.asg (.nm 2) (.bi .list (.cons (.var 1) .nil))) (.cons (.asg (.nm 3) (.call "_law_take" (.cons (.var 0) (.cons (.bi .len (.cons (.var 2) .nil)) .nil)))) (.cons (.asg (.nm 4) (.call "_law_take" (.cons (.var 0) (.cons (.lit (.int 6)) .nil)))) r))) [some (.ref 1), some (P p), none, none, none] (DS ns i v s []) =
      execB (C (k + 1)) r [some (.ref 1), some (P p), some (.ref 2), some (dN a), some (dN m)] (DS ns i2 v2 s2 R0) := fun r => by
    refine (asgS (h1 := DS ns i v s R0) (v := .ref 2) (list_P rfl (by rw [hpl]; unfold LIM; omega)) (by simp)).trans ?_
    refine (asgS (h1 := DS ns i1 v1 s1 R0) (v := dN a) (call_run2 (x := .ref 1) (y := dN n) rfl ?_ ea (Nat.le_refl _)) (by simp)).trans ?_
    · have := len_ref (cl := C (k + 1)) (i := 2) (δ := [some (.ref 1), some (P p), some (.ref 2), none, none]) (h := DS ns i v s R0) (n := 2) (xs := p.map dN) rfl rfl
      rw [List.length_map, hpl] at this; exact this
    · exact asgS (h1 := DS ns i2 v2 s2 R0) (v := dN m) (call_run2 (x := .ref 1) (y := dN 6) rfl lit_ok em (Nat.le_refl _)) (by simp)
  have fin : ∀ {xs : List D} {i' v' s' : Nat} {ext : HS}, (∀ x ∈ xs, fl x = true) → execB (C (k + 1)) c__law_wrong [some (.ref 1), some (P p), none, none, none] (DS ns i v s []) = .ret (.tup xs) (DS ns i' v' s' ext) →
      ∃ r i' v' s' ext, C (k + 2) "_law_wrong" [.ref 1, P p] (DS ns i v s []) = .ok r (DS ns i' v' s' ext) ∧ ((∃ xs, r = .tup xs ∧ ext = [] ∧ ∀ x ∈ xs, fl x = true) ∨ (r = .ref 2 ∧ ext = [.lst (p.map dN)])) := fun {xs i' v' s' ext} hx e =>
    ⟨.tup xs, i', v', s', [], (call_run (d := ⟨2, 5, c__law_wrong⟩) rfl rfl e).trans (trim_to (h := DS ns i' v' s' []) (ext := ext) rfl DS.wf (by rw [D.lo]; exact los_all fun x h => fl_lo (hx x h)) rfl), .inl ⟨xs, rfl, rfl, hx⟩⟩
  have flp : ∀ x ∈ p.map dN, fl x = true := fun x hx => by obtain ⟨y, _, rfl⟩ := List.mem_map.mp hx; rfl
  by_cases m0 : m = 0
  · refine ⟨.ref 2, i2, v2, s2, R0, (call_run (d := ⟨2, 5, c__law_wrong⟩) rfl rfl (v := .ref 2) (h1 := DS ns i2 v2 s2 R0) ?_).trans (trim_one (h := DS ns i2 v2 s2 [])), .inr ⟨rfl, rfl⟩⟩
    exact (st _).trans (ifR (cmpB (x := dN m) (y := dN 0) rfl lit_ok (by rw [cmp_eq, decide_eq_true m0])) (retS rfl))
  have c0 : ∀ {a' b' : CSs}, evalB (C (k + 1)) (.cmp .Eq (.var 4) (.lit (.int 0))) [some (.ref 1), some (P p), some (.ref 2), some (dN a), some (dN m)] (DS ns i2 v2 s2 R0) = .ok false (DS ns i2 v2 s2 R0) := fun {_ _} => cmpB (x := dN m) (y := dN 0) rfl lit_ok (by rw [cmp_eq, decide_eq_false m0])
  by_cases m1 : m = 1
  · obtain ⟨b, i3, v3, s3, eb, hb⟩ := sp_take (k := k) (many := 2) (i := i2) (v := v2) (s := s2) (ns := ns) (rest := R0) (by omega) (by omega)
    refine fin (xs := p.map dN ++ [dN (n + b)]) (i' := i3) (v' := v3) (s' := s3) (ext := R0) (fun x hx => ?_) ((st _).trans ((ifF (c0 (a' := .nil) (b' := .nil))).trans (ifR (cmpB (x := dN m) (y := dN 1) rfl lit_ok (by rw [cmp_eq, decide_eq_true m1])) (retS ?_))))
    · rcases List.mem_append.mp hx with hx | hx
      · exact flp x hx
      · rw [List.mem_singleton] at hx; rw [hx]; rfl
    · refine bin_run (x := P p) (y := .tup [dN (n + b)]) rfl ?_ ?_ (Nat.le_refl _)
      · have : evalE (C (k + 1)) (.bin .Add (.bi .len (.cons (.var 1) .nil)) (.call "_law_take" (.cons (.var 0) (.cons (.lit (.int 2)) .nil)))) [some (.ref 1), some (P p), some (.ref 2), some (dN a), some (dN m)] (DS ns i2 v2 s2 R0) = .ok (dN (n + b)) (DS ns i3 v3 s3 R0) :=
          bin_run (x := dN n) (y := dN b) (by have := len_P (cl := C (k + 1)) (δ := [some (.ref 1), some (P p), some (.ref 2), some (dN a), some (dN m)]) (h := DS ns i2 v2 s2 R0) (i := 1) (p := p) rfl; rw [hpl] at this; exact this) (call_run2 (x := .ref 1) (y := dN 2) rfl lit_ok eb (Nat.le_refl _)) add_nat (Nat.le_refl _)
        have e2 := consL (r := .nil) this nilL
        rw [evalE, e2, R.bind_ok, mkT_ok (by simp [LIM])]
      · show mkT _ _ = _
        rw [mkT_ok (by simp [LIM, hpl]; omega)]
  have c1 : evalB (C (k + 1)) (.cmp .Eq (.var 4) (.lit (.int 1))) [some (.ref 1), some (P p), some (.ref 2), some (dN a), some (dN m)] (DS ns i2 v2 s2 R0) = .ok false (DS ns i2 v2 s2 R0) := cmpB (x := dN m) (y := dN 1) rfl lit_ok (by rw [cmp_eq, decide_eq_false m1])
  obtain ⟨b, i3, v3, s3, eb, hb⟩ := sp_take (k := k) (many := 3) (i := i2) (v := v2) (s := s2) (ns := ns) (rest := R0) (by omega) (by omega)
  obtain ⟨c, i4, v4, s4, ec, hc⟩ := sp_take (k := k) (many := 9) (i := i3) (v := v3) (s := s3) (ns := ns) (rest := R0) (by omega) (by omega)
  let δ : En := [some (.ref 1), some (P p), some (.ref 2), some (dN a), some (dN m)]
  obtain ⟨y, ey⟩ : ∃ y : Nat, evalE (C (k + 1)) (.ife (.cmp .Gt (.bi .len (.cons (.var 1) .nil)) (.lit (.int 1))) (.ix (.var 1) (.bin .Sub (.var 3) (.lit (.int 1)))) (.lit (.int 5))) δ (DS ns i4 v4 s4 R0) = .ok (dN y) (DS ns i4 v4 s4 R0) := by
    have eg : evalB (C (k + 1)) (.cmp .Gt (.bi .len (.cons (.var 1) .nil)) (.lit (.int 1))) δ (DS ns i4 v4 s4 R0) = .ok (decide (1 < p.length)) (DS ns i4 v4 s4 R0) := cmpB (x := dN p.length) (y := dN 1) (len_P rfl) lit_ok (by rw [cmp_gt])
    by_cases g : 1 < p.length
    · obtain ⟨y, hy⟩ := ix_neg (p := p) (k := a) (h := DS ns i4 v4 s4 R0) (by omega)
      refine ⟨y, ?_⟩
      rw [evalE, eg, R.bind_ok, decide_eq_true g, if_pos rfl]
      have e1 : evalE (C (k + 1)) (.bin .Sub (.var 3) (.lit (.int 1))) δ (DS ns i4 v4 s4 R0) = .ok (.int ((a : Int) - 1)) (DS ns i4 v4 s4 R0) := binE (x := dN a) (y := .int 1) rfl lit_ok rfl
      have e0 : evalE (C (k + 1)) (.var 1) δ (DS ns i4 v4 s4 R0) = .ok (P p) (DS ns i4 v4 s4 R0) := rfl
      rw [evalE, e0, R.bind_ok, e1, R.bind_ok, hy, R.tr_ok, trim_self]
    · refine ⟨5, ?_⟩
      rw [evalE, eg, R.bind_ok, decide_eq_false g, if_neg Bool.false_ne_true]
      exact lit_ok
  let items : List D := [.non, .bl true, .int (-1 - (b : Int)), dN (n + c), dN y, .str "0"]
  have el : evalE (C (k + 1)) (.lst (.cons (.lit .non) (.cons (.lit (.bl true)) (.cons (.bin .Sub (.bin .Sub (.lit (.int 0)) (.lit (.int 1))) (.call "_law_take" (.cons (.var 0) (.cons (.lit (.int 3)) .nil)))) (.cons (.bin .Add (.bi .len (.cons (.var 1) .nil)) (.call "_law_take" (.cons (.var 0) (.cons (.lit (.int 9)) .nil)))) (.cons (.ife (.cmp .Gt (.bi .len (.cons (.var 1) .nil)) (.lit (.int 1))) (.ix (.var 1) (.bin .Sub (.var 3) (.lit (.int 1)))) (.lit (.int 5))) (.cons (.lit (.str "0")) .nil))))))) δ (DS ns i2 v2 s2 R0) = .ok (.ref 3) (DS ns i4 v4 s4 R0 ++ [.lst items]) := by
    refine lstE (xs := items) (consL lit_ok (consL lit_ok (consL (x := .int (-1 - (b : Int))) (h1 := DS ns i3 v3 s3 R0) ?_ (consL (x := dN (n + c)) (h1 := DS ns i4 v4 s4 R0) ?_ (consL ey (consL lit_ok nilL)))))) (by simp [items, LIM])
    · exact bin_run (x := .int (-1)) (y := dN b) (binE (x := .int 0) (y := .int 1) lit_ok lit_ok rfl) (call_run2 (x := .ref 1) (y := dN 3) rfl lit_ok eb (Nat.le_refl _)) rfl (Nat.le_refl _)
    · exact bin_run (x := dN n) (y := dN c) (by have := len_P (cl := C (k + 1)) (δ := δ) (h := DS ns i3 v3 s3 R0) (i := 1) (p := p) rfl; rw [hpl] at this; exact this) (call_run2 (x := .ref 1) (y := dN 9) rfl lit_ok ec (Nat.le_refl _)) add_nat (Nat.le_refl _)
  obtain ⟨x, hx, fx⟩ : ∃ x, items[m]? = some x ∧ fl x = true := by
    have : m = 2 ∨ m = 3 ∨ m = 4 ∨ m = 5 := by omega
    rcases this with e | e | e | e <;> subst e <;> exact ⟨_, rfl, rfl⟩
  have ev : evalE (C (k + 1)) (.ix (.lst (.cons (.lit .non) (.cons (.lit (.bl true)) (.cons (.bin .Sub (.bin .Sub (.lit (.int 0)) (.lit (.int 1))) (.call "_law_take" (.cons (.var 0) (.cons (.lit (.int 3)) .nil)))) (.cons (.bin .Add (.bi .len (.cons (.var 1) .nil)) (.call "_law_take" (.cons (.var 0) (.cons (.lit (.int 9)) .nil)))) (.cons (.ife (.cmp .Gt (.bi .len (.cons (.var 1) .nil)) (.lit (.int 1))) (.ix (.var 1) (.bin .Sub (.var 3) (.lit (.int 1)))) (.lit (.int 5))) (.cons (.lit (.str "0")) .nil))))))) (.var 4)) δ (DS ns i2 v2 s2 R0) = .ok x (DS ns i4 v4 s4 R0) := by
    rw [evalE, el, R.bind_ok]
    have e4 : evalE (C (k + 1)) (.var 4) δ (DS ns i4 v4 s4 R0 ++ [.lst items]) = .ok (dN m) (DS ns i4 v4 s4 R0 ++ [.lst items]) := rfl
    rw [e4, R.bind_ok]
    have e5 : ixF (.ref 3) (dN m) (DS ns i4 v4 s4 R0 ++ [.lst items]) = .ok x (DS ns i4 v4 s4 R0 ++ [.lst items]) := by
      have g : (DS ns i4 v4 s4 R0 ++ [.lst items])[3]? = some (.lst items) := rfl
      unfold ixF
      simp only [g]
      rw [atI_nat hx]; rfl
    rw [e5, R.tr_ok]
    refine trim_to (h := DS ns i4 v4 s4 R0) rfl wf3 (fl_lo fx) ?_
    cases x <;> first | rfl | (exact absurd fx Bool.false_ne_true)
  refine fin (xs := (p.map dN).set a x) (i' := i4) (v' := v4) (s' := s4) (ext := [.lst ((p.map dN).set a x)]) (fun z hz => ?_) ((st _).trans ((ifF (c0 (a' := .nil) (b' := .nil))).trans ((ifF c1).trans ((subS ev rfl rfl (setF_lst (h := DS ns i4 v4 s4 R0) (n := 2) (xs := p.map dN) rfl (by rw [List.length_map, hpl]; exact ha))).trans (retS (tuple_ref (m := 2) rfl rfl ?_))))))
  · rcases List.mem_or_eq_of_mem_set hz with hz | hz
    · exact flp z hz
    · rw [hz]; exact fx
  · rw [List.length_set, List.length_map, hpl]; unfold LIM; omega
end
end Mi

namespace Mi
open PySem
/-! ## the law -/
theorem cmpB_run {cl : Cl} {δ : En} {h h1 : HS} {a b : CE} {x y : D} {k : Bool} {o : CmpOp} (ha : evalE cl a δ h = .ok x h1) (hb : evalE cl b δ h1 = .ok y h1) (hc : cmpF o x y h1 = some k) (hn : h1.length ≤ h.length) : evalB cl (.cmp o a b) δ h = .ok k h1 := by
  simp only [evalB, ha, hb, R.bind_ok, hc, trim_le hn]
theorem seq_run {cl : Cl} {e : CE} {δ : En} {h h' : HS} {xs : List D} (he : evalE cl e δ h = .ok (.ref h'.length) (h' ++ [.lst xs])) (hn : h.length = h'.length) (hw : WF h') (hl : D.los h'.length xs = true) : evalI cl (.seq e) δ h = .ok ⟨xs, none⟩ h' := by
  simp only [evalI, he, R.bind_ok, walkD, get_app_len, hn]
  rw [if_pos]
  · rw [List.take_left']; rfl
  · have hw : (h'.all (Cell.lo h'.length)) = true := hw
    rw [List.take_left' rfl, hw, hl]; simp
theorem cut_take {p : List Nat} {m : Nat} : cutD (p.map dN) none (some (m : Int)) = (p.take m).map dN := by
  unfold cutD
  rw [HT.sIx_none, HT.sIx_nat, List.drop_zero, Nat.sub_zero, List.length_map, ← List.map_take, ← List.take_eq_take_min]
theorem call_tr {cl : Cl} {f : Str} {a b : CE} {δ : En} {h h1 : HS} {x y v : D} (ha : evalE cl a δ h = .ok x h) (hb : evalE cl b δ h = .ok y h) (hc : cl f [x, y] h = .ok v h1) : evalE cl (.call f (.cons a (.cons b .nil))) δ h = trim h.length v h1 := by
  simp only [evalE, evalL, ha, hb, R.bind_ok, hc, R.tr_ok]
theorem andE {cl : Cl} {a b : CE} {δ : En} {h : HS} {r : R D} (ha : evalE cl a δ h = .ok (.bl true) h) (hb : evalE cl b δ h = r) : evalE cl (.andv a b) δ h = r := by
  rw [evalE, ha, R.bind_ok]; exact hb
theorem eqD_bl' {h : HS} {i : Bool} : cmpF .Eq (.bl i) (.bl i) h = some true := by
  rw [cmpEq, eqD_bl]; simp
theorem law_body (ns : List Int) (hl : ns.length ≤ 63) : ∃ h, C 60 "law" [.fz ns] [] = .ok (.bl true) h := by
  have hlim : ns.length ≤ LIM := by unfold LIM; omega
  -- the seed, the number of points
  obtain ⟨s0, e0⟩ := sp_begin (k := 58) (ns := ns) hlim
  obtain ⟨r1, i1, v1, s1, e1, hr1⟩ := sp_take (k := 58) (many := 16) (i := 0) (v := 0) (s := s0) (ns := ns) (rest := []) (by omega) (by omega)
  let n := 1 + r1
  have hn1 : 1 ≤ n := by omega
  have hn16 : n ≤ 16 := by omega
  have a1 : ∀ r : CSs, execB (C 59) (.cons (.asg (.nm 1) (.call "_law_begin" (.cons (.var 0) .nil))) (.cons (.asg (.nm 2) (.bin .Add (.lit (.int 1)) (.call "_law_take" (.cons (.var 1) (.cons (.lit (.int 16)) .nil))))) r)) [some (.fz ns), none, none, none, none, none, none, none, none] [] =
      execB (C 59) r [some (.fz ns), some (.ref 1), some (dN n), none, none, none, none, none, none] (DS ns i1 v1 s1 []) := fun r => by
    refine (asgS (v := .ref 1) (h1 := DS ns 0 0 s0 []) ?_ (by simp)).trans ?_
    · have := e0
      simp only [evalE, evalL, R.bind_ok, List.getElem?_cons_zero]
      rw [e0]; rfl
    · exact asgS (v := dN n) (h1 := DS ns i1 v1 s1 []) (bin_run (x := dN 1) (y := dN r1) lit_ok (call_run2 (x := .ref 1) (y := dN 16) rfl lit_ok e1 (Nat.le_refl _)) add_nat (Nat.le_refl _)) (by simp)
  -- the permutation
  obtain ⟨p, i2, v2, s2, e2, hp⟩ : ∃ p i2 v2 s2, evalE (C 59) (.ife (.cmp .Gt (.call "_law_take" (.cons (.var 1) (.cons (.lit (.int 3)) .nil))) (.lit (.int 0))) (.call "_law_shuffled" (.cons (.var 1) (.cons (.var 2) .nil))) (.call "_law_times" (.cons (.call "_law_cycle" (.cons (.var 2) (.cons (.slice (.call "_law_shuffled" (.cons (.var 1) (.cons (.var 2) .nil))) .no (.so (.bin .Add (.lit (.int 1)) (.call "_law_take" (.cons (.var 1) (.cons (.var 2) .nil)))))) .nil))) (.cons (.trg (.cons (.var 2) .nil)) .nil)))) [some (.fz ns), some (.ref 1), some (dN n), none, none, none, none, none, none] (DS ns i1 v1 s1 []) = .ok (P p) (DS ns i2 v2 s2 []) ∧ Pm n p := by
    obtain ⟨r, i, v, s, er, hr⟩ := sp_take (k := 58) (many := 3) (i := i1) (v := v1) (s := s1) (ns := ns) (rest := []) (by omega) (by omega)
    obtain ⟨p, i', v', s', ep, hp⟩ := sp_shuffled (k := 57) (n := n) (i := i) (v := v) (s := s) (ns := ns) (by omega)
    have eb : evalB (C 59) (.cmp .Gt (.call "_law_take" (.cons (.var 1) (.cons (.lit (.int 3)) .nil))) (.lit (.int 0))) [some (.fz ns), some (.ref 1), some (dN n), none, none, none, none, none, none] (DS ns i1 v1 s1 []) = .ok (decide (0 < r)) (DS ns i v s []) :=
      cmpB_run (x := dN r) (y := dN 0) (call_run2 (x := .ref 1) (y := dN 3) rfl lit_ok er (Nat.le_refl _)) lit_ok (by rw [cmp_gt]) (Nat.le_refl _)
    have esh : evalE (C 59) (.call "_law_shuffled" (.cons (.var 1) (.cons (.var 2) .nil))) [some (.fz ns), some (.ref 1), some (dN n), none, none, none, none, none, none] (DS ns i v s []) = .ok (P p) (DS ns i' v' s' []) := call_run2 (x := .ref 1) (y := dN n) rfl rfl ep (Nat.le_refl _)
    by_cases c : 0 < r
    · refine ⟨p, i', v', s', ?_, hp⟩
      rw [evalE, eb, R.bind_ok, decide_eq_true c, if_pos rfl]
      exact esh
    · obtain ⟨t, i3, v3, s3, et, ht⟩ := sp_take (k := 58) (many := n) (i := i') (v := v') (s := s') (ns := ns) (rest := []) (by omega) (by omega)
      let row := p.take (1 + t)
      have hrow : ∀ x ∈ row, x < n := fun x hx => hp.lt x (List.mem_of_mem_take hx)
      have hrd : row.Nodup := hp.nd.sublist (List.take_sublist _ _)
      have hrl : row.length ≤ n := by
        show (p.take (1 + t)).length ≤ n
        rw [List.length_take, hp.len]; omega
      have hcp := cycR_pm hrd hrow
      have esl : evalE (C 59) (.slice (.call "_law_shuffled" (.cons (.var 1) (.cons (.var 2) .nil))) .no (.so (.bin .Add (.lit (.int 1)) (.call "_law_take" (.cons (.var 1) (.cons (.var 2) .nil)))))) [some (.fz ns), some (.ref 1), some (dN n), none, none, none, none, none, none] (DS ns i v s []) = .ok (P row) (DS ns i3 v3 s3 []) := by
        have eo : evalO (C 59) (.so (.bin .Add (.lit (.int 1)) (.call "_law_take" (.cons (.var 1) (.cons (.var 2) .nil))))) [some (.fz ns), some (.ref 1), some (dN n), none, none, none, none, none, none] (DS ns i' v' s' []) = .ok (some ((1 + t : Nat) : Int)) (DS ns i3 v3 s3 []) := by
          have ebin : evalE (C 59) (.bin .Add (.lit (.int 1)) (.call "_law_take" (.cons (.var 1) (.cons (.var 2) .nil)))) [some (.fz ns), some (.ref 1), some (dN n), none, none, none, none, none, none] (DS ns i' v' s' []) = .ok (dN (1 + t)) (DS ns i3 v3 s3 []) :=
            bin_run (x := dN 1) (y := dN t) lit_ok (call_run2 (x := .ref 1) (y := dN n) rfl rfl et (Nat.le_refl _)) add_nat (Nat.le_refl _)
          rw [evalO, ebin, R.bind_ok]
        have en : evalO (C 59) .no [some (.fz ns), some (.ref 1), some (dN n), none, none, none, none, none, none] (DS ns i' v' s' []) = .ok none (DS ns i' v' s' []) := by rw [evalO]
        rw [evalE, esh, R.bind_ok, en, R.bind_ok, eo, R.bind_ok]
        show (R.ok (D.tup (cutD (p.map dN) none (some ((1 + t : Nat) : Int)))) (DS ns i3 v3 s3 [])).tr _ = _
        rw [cut_take, R.tr_ok]
        exact trim_le (Nat.le_refl _)
      have ecy : evalE (C 59) (.call "_law_cycle" (.cons (.var 2) (.cons (.slice (.call "_law_shuffled" (.cons (.var 1) (.cons (.var 2) .nil))) .no (.so (.bin .Add (.lit (.int 1)) (.call "_law_take" (.cons (.var 1) (.cons (.var 2) .nil)))))) .nil))) [some (.fz ns), some (.ref 1), some (dN n), none, none, none, none, none, none] (DS ns i v s []) = .ok (P (cycR n row)) (DS ns i3 v3 s3 []) := by
        have el := consL (a := .var 2) (x := dN n) (h := DS ns i v s []) (h1 := DS ns i v s []) (cl := C 59) (δ := [some (.fz ns), some (.ref 1), some (dN n), none, none, none, none, none, none]) rfl (consL esl nilL)
        rw [evalE, el, R.bind_ok, sp_lcycle (k := 58) (n := n) (row := row) DS.wf hrow (by unfold LIM; omega) (by unfold LIM; omega), R.tr_ok]
        exact trim_le (Nat.le_refl _)
      refine ⟨tm (cycR n row) (List.range n), i3, v3, s3, ?_, hcp.tm Pm.range⟩
      rw [evalE, eb, R.bind_ok, decide_eq_false c, if_neg Bool.false_ne_true]
      have el := consL ecy (consL (r := .nil) (trg_ok (cl := C 59) (e := .var 2) (δ := [some (.fz ns), some (.ref 1), some (dN n), none, none, none, none, none, none]) (h := DS ns i3 v3 s3 []) (n := n) rfl (by unfold LIM; omega)) nilL)
      rw [evalE, el, R.bind_ok, sp_ltimes (k := 58) (p := cycR n row) (q := List.range n) DS.wf (hcp.lts Pm.range) (by rw [hcp.len]; unfold LIM; omega), R.tr_ok]
      exact trim_le (Nat.le_refl _)
  obtain ⟨q, i3, v3, s3, e3, hq⟩ := sp_shuffled (k := 57) (n := n) (i := i2) (v := v2) (s := s2) (ns := ns) (by omega)
  have hL : n ≤ LIM := by unfold LIM; omega
  have hpl := hp.len
  have hql := hq.len
  -- the first tests
  let H : HS := DS ns i3 v3 s3 []
  have hw : WF H := DS.wf
  have b1 : ∀ {x5 x6 x7 x8 : Option D}, evalB (C 59) (.or_ (.cmp .NotEq (.call "identity" (.cons (.var 2) .nil)) (.trg (.cons (.var 2) .nil))) (.or_ (.cmp .NotEq (.call "times" (.cons (.var 3) (.cons (.var 4) .nil))) (.bi .tuple (.cons (.lc [8] (.nm 8) (.rng (.cons (.var 2) .nil)) .tru (.ix (.var 4) (.ix (.var 3) (.var 8)))) .nil))) (.not_ (.val (.call "_law_right" (.cons (.var 3) .nil)))))) [some (.fz ns), some (.ref 1), some (dN n), some (P p), some (P q), x5, x6, x7, x8] H = .ok false H := by
    intro x5 x6 x7 x8
    refine orF (cmpB (x := P (List.range n)) (y := P (List.range n)) (call_1 (x := dN n) rfl (sp_identity (k := 58) hL)) (trg_ok rfl hL) (ne_self pI_P)) (orF (cmpB (x := P (tm p q)) (y := P (tm p q)) (call_2 (x := P p) (y := P q) rfl rfl (sp_times (k := 58) hw (hp.lts hq) (by omega))) (tuple_new (ys := (tm p q).map dN) (lc_new (rng_ok1 (n := n) rfl hL) ?_ ?_) hw los_nats ?_) (ne_self pI_P)) (notB (k := true) (valB (call_1 (x := P p) rfl (sp_right (k := 55) hp hw (by omega))))))
    · have : (tm p q).map dN = (List.range n).map fun x => dN (at_ q (at_ p x)) := by
        have e : tm p q = (List.range n).map fun x => at_ q (at_ p x) := row_ext (n := n) (by rw [tm_len, hpl]) (by simp) fun x hx => by
          rw [at_tm (by omega), at_map (f := fun x => at_ q (at_ p x)) (by simpa using hx), at_range hx]
        rw [e, List.map_map]; rfl
      rw [this]
      refine comp_map rfl fun x hx => turnD_ok (δ1 := [some (.fz ns), some (.ref 1), some (dN n), some (P p), some (P q), x5, x6, x7, some (dN x)]) rfl rfl ?_
      rw [List.mem_range] at hx
      exact ix_P (p := q) (k := at_ p x) rfl (ix_P (p := p) (k := x) rfl rfl (by omega)) (by have := hp.at_lt hx; omega)
    · rw [List.length_map, tm_len]; omega
    · rw [List.length_map, tm_len]; omega
  have b2 : ∀ {x6 x7 x8 : Option D}, evalB (C 59) (.or_ (.not_ (.val (.isi .tuple (.var 5)))) (.or_ (.cmp .NotEq (.bi .len (.cons (.var 5) .nil)) (.var 2)) (.val (.bi .any (.cons (.lc [8] (.nm 8) (.rng (.cons (.var 2) .nil)) .tru (.cmp .NotEq (.ix (.var 5) (.ix (.var 3) (.var 8))) (.var 8))) .nil))))) [some (.fz ns), some (.ref 1), some (dN n), some (P p), some (P q), some (P (inv p)), x6, x7, x8] H = .ok false H := by
    intro x6 x7 x8
    refine orF (notB (k := true) (valB (isi_ok1 (x := P (inv p)) rfl rfl))) (orF (cmpB (x := dN n) (y := dN n) ?_ rfl (by rw [cmp_ne]; simp)) (valB ?_))
    · have := len_P (cl := C 59) (δ := [some (.fz ns), some (.ref 1), some (dN n), some (P p), some (P q), some (P (inv p)), x6, x7, x8]) (h := H) (i := 5) (p := inv p) rfl
      rw [inv_len, hpl] at this; exact this
    · have := any_lc (cl := C 59) (δ := [some (.fz ns), some (.ref 1), some (dN n), some (P p), some (P q), some (P (inv p)), x6, x7, x8]) (h := H) (e := .lc [8] (.nm 8) (.rng (.cons (.var 2) .nil)) .tru (.cmp .NotEq (.ix (.var 5) (.ix (.var 3) (.var 8))) (.var 8))) (bs := (List.range n).map fun _ => false) (lc_new (rng_ok1 (n := n) rfl hL) (by
        rw [List.map_map]
        refine comp_map rfl fun x hx => turnD_ok (δ1 := [some (.fz ns), some (.ref 1), some (dN n), some (P p), some (P q), some (P (inv p)), x6, x7, some (dN x)]) rfl rfl ?_
        rw [List.mem_range] at hx
        have := hp.at_inv hx
        exact cmpE (x := dN (at_ (inv p) (at_ p x))) (y := dN x) (ix_P (p := inv p) (k := at_ p x) rfl (ix_P (p := p) (k := x) rfl rfl (by omega)) (by rw [inv_len]; have := hp.at_lt hx; omega)) rfl (by rw [cmp_ne, this]; simp)) (by simp; omega)) hw
      have ea : ((List.range n).map fun _ => false).any id = false := by simp
      rw [ea] at this
      exact this
  -- the exponents
  obtain ⟨t1, i4, v4, s4, f1, g1⟩ := sp_take (k := 58) (many := 10001) (i := i3) (v := v3) (s := s3) (ns := ns) (rest := []) (by omega) (by omega)
  obtain ⟨t2, i5, v5, s5, f2, g2⟩ := sp_take (k := 58) (many := 10001) (i := i4) (v := v4) (s := s4) (ns := ns) (rest := []) (by omega) (by omega)
  obtain ⟨t3, i6, v6, s6, f3, g3⟩ := sp_take (k := 58) (many := 9) (i := i5) (v := v5) (s := s5) (ns := ns) (rest := []) (by omega) (by omega)
  let es : List Int := [0, 1, -1, (t1 : Int), 0 - (t2 : Int), 0 - (t3 : Int)]
  have hes : ∀ e ∈ es, e.natAbs < 1000000 := by
    intro e he
    simp only [es, List.mem_cons, List.not_mem_nil, or_false] at he
    omega
  let H2 : HS := DS ns i6 v6 s6 []
  have hw2 : WF H2 := DS.wf
  have ei : evalI (C 59) (.seq (.lst (.cons (.lit (.int 0)) (.cons (.lit (.int 1)) (.cons (.bin .Sub (.lit (.int 0)) (.lit (.int 1))) (.cons (.call "_law_take" (.cons (.var 1) (.cons (.lit (.int 10001)) .nil))) (.cons (.bin .Sub (.lit (.int 0)) (.call "_law_take" (.cons (.var 1) (.cons (.lit (.int 10001)) .nil)))) (.cons (.bin .Sub (.lit (.int 0)) (.call "_law_take" (.cons (.var 1) (.cons (.lit (.int 9)) .nil)))) .nil)))))))) [some (.fz ns), some (.ref 1), some (dN n), some (P p), some (P q), some (P (inv p)), none, none, none] H = .ok ⟨es.map .int, none⟩ H2 := by
    refine seq_run (h' := H2) (lstE (h1 := H2) (xs := es.map .int) (consL lit_ok (consL lit_ok (consL (binE (x := .int 0) (y := .int 1) lit_ok lit_ok rfl) (consL (h1 := DS ns i4 v4 s4 []) (x := dN t1) (call_run2 (x := .ref 1) (y := dN 10001) rfl lit_ok f1 (Nat.le_refl _)) (consL (h1 := DS ns i5 v5 s5 []) (x := .int (0 - (t2 : Int))) (bin_run (x := .int 0) (y := dN t2) lit_ok (call_run2 (x := .ref 1) (y := dN 10001) rfl lit_ok f2 (Nat.le_refl _)) rfl (Nat.le_refl _)) (consL (h1 := H2) (x := .int (0 - (t3 : Int))) (bin_run (x := .int 0) (y := dN t3) lit_ok (call_run2 (x := .ref 1) (y := dN 9) rfl lit_ok f3 (Nat.le_refl _)) rfl (Nat.le_refl _)) nilL)))))) (by simp [es, LIM])) rfl hw2 los_ints
  obtain ⟨δf, hf, ef, ⟨x6, rfl⟩, hh⟩ := forS (cl := C 59) (r := (.cons (.ifs (.or_ (.cmp .NotEq (.call "conjugate" (.cons (.var 3) (.cons (.var 4) .nil))) (.call "_law_conj" (.cons (.var 3) (.cons (.var 4) .nil)))) (.cmp .NotEq (.call "commutator" (.cons (.var 3) (.cons (.var 4) .nil))) (.call "_law_comm" (.cons (.var 3) (.cons (.var 4) .nil))))) (.cons (.ret (.lit (.bl false))) .nil) .nil) (.cons (.asg (.nm 7) (.call "_law_wrong" (.cons (.var 1) (.cons (.var 3) .nil)))) (.cons (.ret (.andv (.cmp .Is (.call "is_perm" (.cons (.var 3) .nil)) (.lit (.bl true))) (.andv (.cmp .Eq (.call "is_perm" (.cons (.var 7) .nil)) (.call "_law_known" (.cons (.var 7) .nil))) (.andv (.cmp .Is (.call "is_perm" (.cons (.tup .nil) .nil)) (.lit (.bl false))) (.cmp .Is (.call "is_perm" (.cons (.lit .non) .nil)) (.lit (.bl false))))))) .nil))))
    (b := (.cons (.ifs (.cmp .NotEq (.call "power" (.cons (.var 3) (.cons (.var 6) .nil))) (.bi .tuple (.cons (.lc [8] (.nm 8) (.rng (.cons (.var 2) .nil)) .tru (.call "_law_walk" (.cons (.var 3) (.cons (.var 8) (.cons (.var 6) .nil))))) .nil))) (.cons (.ret (.lit (.bl false))) .nil) .nil) .nil)) (t := .nm 6)
    (δ := [some (.fz ns), some (.ref 1), some (dN n), some (P p), some (P q), some (P (inv p)), none, none, none]) (h := H)
    (fun i δ h' => (∃ x6, δ = [some (.fz ns), some (.ref 1), some (dN n), some (P p), some (P q), some (P (inv p)), x6, none, none]) ∧ h' = H2) ei ⟨⟨none, rfl⟩, rfl⟩ (fun i x δ h' hi hq' => by
      obtain ⟨⟨x6, rfl⟩, rfl⟩ := hq'
      obtain ⟨e, he, rfl⟩ := List.mem_map.mp (List.mem_of_getElem? hi)
      refine ⟨rfl, _, _, _, rfl, .inl ((ifF (cmpB (x := P ((List.range n).map (wk p e))) (y := P ((List.range n).map (wk p e))) (call_2 (x := P p) (y := .int e) rfl rfl (sp_power (k := 57) hp hw2 (by omega))) (tuple_new (ys := ((List.range n).map (wk p e)).map dN) (lc_new (rng_ok1 (n := n) rfl hL) ?_ (by simp; omega)) hw2 los_nats (by simp; omega)) (ne_self pI_P))).trans nilS), ⟨_, rfl⟩, rfl⟩
      rw [List.map_map]
      refine comp_map rfl fun y hy => turnD_ok (δ1 := [some (.fz ns), some (.ref 1), some (dN n), some (P p), some (P q), some (P (inv p)), some (.int e), none, some (dN y)]) rfl rfl ?_
      rw [List.mem_range] at hy
      have := sp_walk (k := 57) (e := e) hp hw2 (by omega) hy (hes e he)
      have el := consL (cl := C 59) (δ := [some (.fz ns), some (.ref 1), some (dN n), some (P p), some (P q), some (P (inv p)), some (.int e), none, some (dN y)]) (h := H2) (h1 := H2) (a := .var 3) (x := P p) rfl (consL (a := .var 8) (x := dN y) (h1 := H2) rfl (consL (a := .var 6) (x := .int e) (h1 := H2) rfl nilL))
      rw [evalE, el, R.bind_ok, this, R.tr_ok, trim_self]; rfl) (fun _ _ _ => rfl)
  rw [hh] at ef
  -- conjugates, commutators
  have b3 : ∀ {x6 x7 x8 : Option D}, evalB (C 59) (.or_ (.cmp .NotEq (.call "conjugate" (.cons (.var 3) (.cons (.var 4) .nil))) (.call "_law_conj" (.cons (.var 3) (.cons (.var 4) .nil)))) (.cmp .NotEq (.call "commutator" (.cons (.var 3) (.cons (.var 4) .nil))) (.call "_law_comm" (.cons (.var 3) (.cons (.var 4) .nil))))) [some (.fz ns), some (.ref 1), some (dN n), some (P p), some (P q), some (P (inv p)), x6, x7, x8] H2 = .ok false H2 := by
    intro x6 x7 x8
    have hqp : ∀ x ∈ q, x < p.length := hq.lts hp
    refine orF (cmpB (x := P (cj p q)) (y := P (cj p q)) (call_2 (x := P p) (y := P q) rfl rfl (sp_conjugate (k := 58) hw2 (hp.lts hp) hqp (by omega) (by omega))) (call_2 (x := P p) (y := P q) rfl rfl (sp_lconj (k := 58) hw2 (hp.lts hp) hqp (by omega) (by omega))) (ne_self pI_P)) ?_
    refine cmpB (x := P (tm (inv (tm q p)) (tm p q))) (y := P (tm (inv (tm q p)) (tm p q))) (call_2 (x := P p) (y := P q) rfl rfl (sp_commutator (k := 57) hw2 hp hq hL)) (call_2 (x := P p) (y := P q) rfl rfl ?_) (ne_self pI_P)
    rw [comm_eq hp hq]
    exact sp_lcomm (k := 57) hw2 hp hq hL
  -- the wrong value
  obtain ⟨w, i7, v7, s7, ext, ew, hcase⟩ := sp_wrong (k := 57) (i := i6) (v := v6) (s := s6) (ns := ns) hp hn1 hn16
  let H3 : HS := DS ns i7 v7 s7 ext
  have hw3 : WF H3 := by
    rcases hcase with ⟨xs, _, rfl, _⟩ | ⟨_, rfl⟩
    · exact DS.wf
    · exact wf3
  have eww : evalE (C 59) (.call "_law_wrong" (.cons (.var 1) (.cons (.var 3) .nil))) [some (.fz ns), some (.ref 1), some (dN n), some (P p), some (P q), some (P (inv p)), x6, none, none] H2 = .ok w H3 := by
    refine (call_tr (x := .ref 1) (y := P p) rfl rfl ew).trans ?_
    rcases hcase with ⟨xs, rfl, rfl, _⟩ | ⟨rfl, rfl⟩
    · exact trim_le (Nat.le_refl _)
    · exact trim_one (h := DS ns i7 v7 s7 [])
  obtain ⟨b, hb1, hb2⟩ : ∃ b, C 59 "is_perm" [w] H3 = .ok (.bl b) H3 ∧ C 59 "_law_known" [w] H3 = .ok (.bl b) H3 := by
    rcases hcase with ⟨xs, rfl, rfl, hx⟩ | ⟨rfl, rfl⟩
    · exact ⟨chk xs, sp_isperm (k := 57) hx hw3, sp_known (k := 57) hx hw3⟩
    · exact ⟨false, sp_isperm_no (k := 57) rfl, sp_known_no (k := 57) rfl⟩
  have flp : ∀ x ∈ p.map dN, fl x = true := fun x hx => by obtain ⟨y, _, rfl⟩ := List.mem_map.mp hx; rfl
  have er : evalE (C 59) (.andv (.cmp .Is (.call "is_perm" (.cons (.var 3) .nil)) (.lit (.bl true))) (.andv (.cmp .Eq (.call "is_perm" (.cons (.var 7) .nil)) (.call "_law_known" (.cons (.var 7) .nil))) (.andv (.cmp .Is (.call "is_perm" (.cons (.tup .nil) .nil)) (.lit (.bl false))) (.cmp .Is (.call "is_perm" (.cons (.lit .non) .nil)) (.lit (.bl false)))))) [some (.fz ns), some (.ref 1), some (dN n), some (P p), some (P q), some (P (inv p)), x6, some w, none] H3 = .ok (.bl true) H3 := by
    refine andE (cmpE (x := .bl true) (y := .bl true) (call_1 (x := P p) rfl ?_) lit_ok rfl) (andE (cmpE (x := .bl b) (y := .bl b) (call_1 (x := w) rfl hb1) (call_1 (x := w) rfl hb2) eqD_bl') (andE (cmpE (x := .bl false) (y := .bl false) (call_1 (x := .tup []) ?_ ?_) lit_ok rfl) (cmpE (x := .bl false) (y := .bl false) (call_1 (x := .non) lit_ok (sp_isperm_no (k := 57) rfl)) lit_ok rfl)))
    · have := sp_isperm (k := 57) (h := H3) flp hw3
      rw [chk_P hp hn1 hn16] at this
      exact this
    · rw [evalE, nilL, R.bind_ok, mkT_ok (by simp)]
    · exact sp_isperm (k := 57) (h := H3) (xs := []) (fun x hx => by cases hx) hw3
  have main : execB (C 59) c_law [some (.fz ns), none, none, none, none, none, none, none, none] [] = .ret (.bl true) H3 := by
    refine (a1 _).trans ((asgS e2 (by simp)).trans ((asgS (v := P q) (h1 := H) (call_run2 (x := .ref 1) (y := dN n) rfl rfl e3 (Nat.le_refl _)) (by simp)).trans ((ifF b1).trans ((asgS (v := P (inv p)) (h1 := H) (call_1 (x := P p) rfl (sp_inverse (k := 58) hw (hp.lts hp) (by omega))) (by simp)).trans ((ifF b2).trans (ef.trans ((ifF b3).trans ((asgS eww (by simp)).trans (retS er)))))))))
  exact ⟨[], (call_run (k := 59) (d := ⟨1, 9, c_law⟩) rfl rfl main).trans (trim_to (h := []) (ext := H3) rfl WF.nil rfl rfl)⟩
end Mi

namespace Mi
open PySem L2
section
variable {K : PySem.W.Frag} {h : Heap} {mg : Str → Option Value} {fa : Addr} {od an : Option Addr} {sl : Array (Option Value)} {oc kV dc pm cd ct : Value}
theorem t_is_integer : trSs (tr 40) (M.sg ["value"] (defScope s_is_integer)) (defBody s_is_integer) = some c_is_integer := rfl
theorem i_is_integer (X : K.In h) (G : h.Ns mainGlobals mg) (a1 : PySem.W.nsIn K mainGlobals "is_integer" = some (some (.ref fa))) (l1 : K.lookup fa = some ⟨oc, od, .func (PySem.W.fnOf "is_integer" "is_integer" (defArgs s_is_integer) (defBody s_is_integer) (defScope s_is_integer) .none kV dc pm an cd ct), sl⟩) (c1 : PySem.W.codeIn K cd "is_integer" = true) (k1 : PySem.W.keepIn K (.ref fa) = true) :
    DefI M K mg "is_integer" ⟨1, 1, c_is_integer⟩ fa (PySem.W.fnOf "is_integer" "is_integer" (defArgs s_is_integer) (defBody s_is_integer) (defScope s_is_integer) .none kV dc pm an cd ct) ["value"] :=
  have F := fun_mk (st := s_is_integer) l1 c1 k1
  ⟨PySem.W.mg_of X G a1, F.binds (ps := ["value"]) fun _ _ _ _ _ _ us hl => (match us, hl with | [_], _ => rfl), k1, rfl, s_is_integer, ["value"], 40, F, ⟨rfl, rfl, rfl, by decide +kernel, rfl, by decide +kernel, by decide +kernel⟩, rfl, t_is_integer⟩
theorem t_is_perm : trSs (tr 40) (M.sg ["value", "image"] (defScope s_is_perm)) (defBody s_is_perm) = some c_is_perm := rfl
theorem i_is_perm (X : K.In h) (G : h.Ns mainGlobals mg) (a1 : PySem.W.nsIn K mainGlobals "is_perm" = some (some (.ref fa))) (l1 : K.lookup fa = some ⟨oc, od, .func (PySem.W.fnOf "is_perm" "is_perm" (defArgs s_is_perm) (defBody s_is_perm) (defScope s_is_perm) .none kV dc pm an cd ct), sl⟩) (c1 : PySem.W.codeIn K cd "is_perm" = true) (k1 : PySem.W.keepIn K (.ref fa) = true) :
    DefI M K mg "is_perm" ⟨1, 2, c_is_perm⟩ fa (PySem.W.fnOf "is_perm" "is_perm" (defArgs s_is_perm) (defBody s_is_perm) (defScope s_is_perm) .none kV dc pm an cd ct) ["value"] :=
  have F := fun_mk (st := s_is_perm) l1 c1 k1
  ⟨PySem.W.mg_of X G a1, F.binds (ps := ["value"]) fun _ _ _ _ _ _ us hl => (match us, hl with | [_], _ => rfl), k1, rfl, s_is_perm, ["value", "image"], 40, F, ⟨rfl, rfl, rfl, by decide +kernel, rfl, by decide +kernel, by decide +kernel⟩, rfl, t_is_perm⟩
theorem t_identity : trSs (tr 40) (M.sg ["many"] (defScope s_identity)) (defBody s_identity) = some c_identity := rfl
theorem i_identity (X : K.In h) (G : h.Ns mainGlobals mg) (a1 : PySem.W.nsIn K mainGlobals "identity" = some (some (.ref fa))) (l1 : K.lookup fa = some ⟨oc, od, .func (PySem.W.fnOf "identity" "identity" (defArgs s_identity) (defBody s_identity) (defScope s_identity) .none kV dc pm an cd ct), sl⟩) (c1 : PySem.W.codeIn K cd "identity" = true) (k1 : PySem.W.keepIn K (.ref fa) = true) :
    DefI M K mg "identity" ⟨1, 1, c_identity⟩ fa (PySem.W.fnOf "identity" "identity" (defArgs s_identity) (defBody s_identity) (defScope s_identity) .none kV dc pm an cd ct) ["many"] :=
  have F := fun_mk (st := s_identity) l1 c1 k1
  ⟨PySem.W.mg_of X G a1, F.binds (ps := ["many"]) fun _ _ _ _ _ _ us hl => (match us, hl with | [_], _ => rfl), k1, rfl, s_identity, ["many"], 40, F, ⟨rfl, rfl, rfl, by decide +kernel, rfl, by decide +kernel, by decide +kernel⟩, rfl, t_identity⟩
theorem t_times : trSs (tr 40) (M.sg ["first", "second", "image"] (defScope s_times)) (defBody s_times) = some c_times := rfl
theorem i_times (X : K.In h) (G : h.Ns mainGlobals mg) (a1 : PySem.W.nsIn K mainGlobals "times" = some (some (.ref fa))) (l1 : K.lookup fa = some ⟨oc, od, .func (PySem.W.fnOf "times" "times" (defArgs s_times) (defBody s_times) (defScope s_times) .none kV dc pm an cd ct), sl⟩) (c1 : PySem.W.codeIn K cd "times" = true) (k1 : PySem.W.keepIn K (.ref fa) = true) :
    DefI M K mg "times" ⟨2, 3, c_times⟩ fa (PySem.W.fnOf "times" "times" (defArgs s_times) (defBody s_times) (defScope s_times) .none kV dc pm an cd ct) ["first", "second"] :=
  have F := fun_mk (st := s_times) l1 c1 k1
  ⟨PySem.W.mg_of X G a1, F.binds (ps := ["first", "second"]) fun _ _ _ _ _ _ us hl => (match us, hl with | [_, _], _ => rfl), k1, rfl, s_times, ["first", "second", "image"], 40, F, ⟨rfl, rfl, rfl, by decide +kernel, rfl, by decide +kernel, by decide +kernel⟩, rfl, t_times⟩
theorem t_inverse : trSs (tr 40) (M.sg ["perm", "row", "point", "image"] (defScope s_inverse)) (defBody s_inverse) = some c_inverse := rfl
theorem i_inverse (X : K.In h) (G : h.Ns mainGlobals mg) (a1 : PySem.W.nsIn K mainGlobals "inverse" = some (some (.ref fa))) (l1 : K.lookup fa = some ⟨oc, od, .func (PySem.W.fnOf "inverse" "inverse" (defArgs s_inverse) (defBody s_inverse) (defScope s_inverse) .none kV dc pm an cd ct), sl⟩) (c1 : PySem.W.codeIn K cd "inverse" = true) (k1 : PySem.W.keepIn K (.ref fa) = true) :
    DefI M K mg "inverse" ⟨1, 4, c_inverse⟩ fa (PySem.W.fnOf "inverse" "inverse" (defArgs s_inverse) (defBody s_inverse) (defScope s_inverse) .none kV dc pm an cd ct) ["perm"] :=
  have F := fun_mk (st := s_inverse) l1 c1 k1
  ⟨PySem.W.mg_of X G a1, F.binds (ps := ["perm"]) fun _ _ _ _ _ _ us hl => (match us, hl with | [_], _ => rfl), k1, rfl, s_inverse, ["perm", "row", "point", "image"], 40, F, ⟨rfl, rfl, rfl, by decide +kernel, rfl, by decide +kernel, by decide +kernel⟩, rfl, t_inverse⟩
theorem t_cycles : trSs (tr 40) (M.sg ["perm", "found", "seen", "start", "cycle", "point"] (defScope s_cycles)) (defBody s_cycles) = some c_cycles := rfl
theorem i_cycles (X : K.In h) (G : h.Ns mainGlobals mg) (a1 : PySem.W.nsIn K mainGlobals "cycles" = some (some (.ref fa))) (l1 : K.lookup fa = some ⟨oc, od, .func (PySem.W.fnOf "cycles" "cycles" (defArgs s_cycles) (defBody s_cycles) (defScope s_cycles) .none kV dc pm an cd ct), sl⟩) (c1 : PySem.W.codeIn K cd "cycles" = true) (k1 : PySem.W.keepIn K (.ref fa) = true) :
    DefI M K mg "cycles" ⟨1, 6, c_cycles⟩ fa (PySem.W.fnOf "cycles" "cycles" (defArgs s_cycles) (defBody s_cycles) (defScope s_cycles) .none kV dc pm an cd ct) ["perm"] :=
  have F := fun_mk (st := s_cycles) l1 c1 k1
  ⟨PySem.W.mg_of X G a1, F.binds (ps := ["perm"]) fun _ _ _ _ _ _ us hl => (match us, hl with | [_], _ => rfl), k1, rfl, s_cycles, ["perm", "found", "seen", "start", "cycle", "point"], 40, F, ⟨rfl, rfl, rfl, by decide +kernel, rfl, by decide +kernel, by decide +kernel⟩, rfl, t_cycles⟩
theorem t_kind : trSs (tr 40) (M.sg ["perm", "lengths", "fixed", "cycle"] (defScope s_kind)) (defBody s_kind) = some c_kind := rfl
theorem i_kind (X : K.In h) (G : h.Ns mainGlobals mg) (a1 : PySem.W.nsIn K mainGlobals "kind" = some (some (.ref fa))) (l1 : K.lookup fa = some ⟨oc, od, .func (PySem.W.fnOf "kind" "kind" (defArgs s_kind) (defBody s_kind) (defScope s_kind) .none kV dc pm an cd ct), sl⟩) (c1 : PySem.W.codeIn K cd "kind" = true) (k1 : PySem.W.keepIn K (.ref fa) = true) :
    DefI M K mg "kind" ⟨1, 4, c_kind⟩ fa (PySem.W.fnOf "kind" "kind" (defArgs s_kind) (defBody s_kind) (defScope s_kind) .none kV dc pm an cd ct) ["perm"] :=
  have F := fun_mk (st := s_kind) l1 c1 k1
  ⟨PySem.W.mg_of X G a1, F.binds (ps := ["perm"]) fun _ _ _ _ _ _ us hl => (match us, hl with | [_], _ => rfl), k1, rfl, s_kind, ["perm", "lengths", "fixed", "cycle"], 40, F, ⟨rfl, rfl, rfl, by decide +kernel, rfl, by decide +kernel, by decide +kernel⟩, rfl, t_kind⟩
theorem t_power : trSs (tr 40) (M.sg ["perm", "exponent", "row", "cycle", "at", "point"] (defScope s_power)) (defBody s_power) = some c_power := rfl
theorem i_power (X : K.In h) (G : h.Ns mainGlobals mg) (a1 : PySem.W.nsIn K mainGlobals "power" = some (some (.ref fa))) (l1 : K.lookup fa = some ⟨oc, od, .func (PySem.W.fnOf "power" "power" (defArgs s_power) (defBody s_power) (defScope s_power) .none kV dc pm an cd ct), sl⟩) (c1 : PySem.W.codeIn K cd "power" = true) (k1 : PySem.W.keepIn K (.ref fa) = true) :
    DefI M K mg "power" ⟨2, 6, c_power⟩ fa (PySem.W.fnOf "power" "power" (defArgs s_power) (defBody s_power) (defScope s_power) .none kV dc pm an cd ct) ["perm", "exponent"] :=
  have F := fun_mk (st := s_power) l1 c1 k1
  ⟨PySem.W.mg_of X G a1, F.binds (ps := ["perm", "exponent"]) fun _ _ _ _ _ _ us hl => (match us, hl with | [_, _], _ => rfl), k1, rfl, s_power, ["perm", "exponent", "row", "cycle", "at", "point"], 40, F, ⟨rfl, rfl, rfl, by decide +kernel, rfl, by decide +kernel, by decide +kernel⟩, rfl, t_power⟩
theorem t_greatest_divisor : trSs (tr 40) (M.sg ["one", "other"] (defScope s_greatest_divisor)) (defBody s_greatest_divisor) = some c_greatest_divisor := rfl
theorem i_greatest_divisor (X : K.In h) (G : h.Ns mainGlobals mg) (a1 : PySem.W.nsIn K mainGlobals "greatest_divisor" = some (some (.ref fa))) (l1 : K.lookup fa = some ⟨oc, od, .func (PySem.W.fnOf "greatest_divisor" "greatest_divisor" (defArgs s_greatest_divisor) (defBody s_greatest_divisor) (defScope s_greatest_divisor) .none kV dc pm an cd ct), sl⟩) (c1 : PySem.W.codeIn K cd "greatest_divisor" = true) (k1 : PySem.W.keepIn K (.ref fa) = true) :
    DefI M K mg "greatest_divisor" ⟨2, 2, c_greatest_divisor⟩ fa (PySem.W.fnOf "greatest_divisor" "greatest_divisor" (defArgs s_greatest_divisor) (defBody s_greatest_divisor) (defScope s_greatest_divisor) .none kV dc pm an cd ct) ["one", "other"] :=
  have F := fun_mk (st := s_greatest_divisor) l1 c1 k1
  ⟨PySem.W.mg_of X G a1, F.binds (ps := ["one", "other"]) fun _ _ _ _ _ _ us hl => (match us, hl with | [_, _], _ => rfl), k1, rfl, s_greatest_divisor, ["one", "other"], 40, F, ⟨rfl, rfl, rfl, by decide +kernel, rfl, by decide +kernel, by decide +kernel⟩, rfl, t_greatest_divisor⟩
theorem t_order : trSs (tr 40) (M.sg ["perm", "found", "length"] (defScope s_order)) (defBody s_order) = some c_order := rfl
theorem i_order (X : K.In h) (G : h.Ns mainGlobals mg) (a1 : PySem.W.nsIn K mainGlobals "order" = some (some (.ref fa))) (l1 : K.lookup fa = some ⟨oc, od, .func (PySem.W.fnOf "order" "order" (defArgs s_order) (defBody s_order) (defScope s_order) .none kV dc pm an cd ct), sl⟩) (c1 : PySem.W.codeIn K cd "order" = true) (k1 : PySem.W.keepIn K (.ref fa) = true) :
    DefI M K mg "order" ⟨1, 3, c_order⟩ fa (PySem.W.fnOf "order" "order" (defArgs s_order) (defBody s_order) (defScope s_order) .none kV dc pm an cd ct) ["perm"] :=
  have F := fun_mk (st := s_order) l1 c1 k1
  ⟨PySem.W.mg_of X G a1, F.binds (ps := ["perm"]) fun _ _ _ _ _ _ us hl => (match us, hl with | [_], _ => rfl), k1, rfl, s_order, ["perm", "found", "length"], 40, F, ⟨rfl, rfl, rfl, by decide +kernel, rfl, by decide +kernel, by decide +kernel⟩, rfl, t_order⟩
theorem t_is_even : trSs (tr 40) (M.sg ["perm"] (defScope s_is_even)) (defBody s_is_even) = some c_is_even := rfl
theorem i_is_even (X : K.In h) (G : h.Ns mainGlobals mg) (a1 : PySem.W.nsIn K mainGlobals "is_even" = some (some (.ref fa))) (l1 : K.lookup fa = some ⟨oc, od, .func (PySem.W.fnOf "is_even" "is_even" (defArgs s_is_even) (defBody s_is_even) (defScope s_is_even) .none kV dc pm an cd ct), sl⟩) (c1 : PySem.W.codeIn K cd "is_even" = true) (k1 : PySem.W.keepIn K (.ref fa) = true) :
    DefI M K mg "is_even" ⟨1, 1, c_is_even⟩ fa (PySem.W.fnOf "is_even" "is_even" (defArgs s_is_even) (defBody s_is_even) (defScope s_is_even) .none kV dc pm an cd ct) ["perm"] :=
  have F := fun_mk (st := s_is_even) l1 c1 k1
  ⟨PySem.W.mg_of X G a1, F.binds (ps := ["perm"]) fun _ _ _ _ _ _ us hl => (match us, hl with | [_], _ => rfl), k1, rfl, s_is_even, ["perm"], 40, F, ⟨rfl, rfl, rfl, by decide +kernel, rfl, by decide +kernel, by decide +kernel⟩, rfl, t_is_even⟩
theorem t_moved : trSs (tr 40) (M.sg ["perm", "point", "image"] (defScope s_moved)) (defBody s_moved) = some c_moved := rfl
theorem i_moved (X : K.In h) (G : h.Ns mainGlobals mg) (a1 : PySem.W.nsIn K mainGlobals "moved" = some (some (.ref fa))) (l1 : K.lookup fa = some ⟨oc, od, .func (PySem.W.fnOf "moved" "moved" (defArgs s_moved) (defBody s_moved) (defScope s_moved) .none kV dc pm an cd ct), sl⟩) (c1 : PySem.W.codeIn K cd "moved" = true) (k1 : PySem.W.keepIn K (.ref fa) = true) :
    DefI M K mg "moved" ⟨1, 3, c_moved⟩ fa (PySem.W.fnOf "moved" "moved" (defArgs s_moved) (defBody s_moved) (defScope s_moved) .none kV dc pm an cd ct) ["perm"] :=
  have F := fun_mk (st := s_moved) l1 c1 k1
  ⟨PySem.W.mg_of X G a1, F.binds (ps := ["perm"]) fun _ _ _ _ _ _ us hl => (match us, hl with | [_], _ => rfl), k1, rfl, s_moved, ["perm", "point", "image"], 40, F, ⟨rfl, rfl, rfl, by decide +kernel, rfl, by decide +kernel, by decide +kernel⟩, rfl, t_moved⟩
theorem t_conjugate : trSs (tr 40) (M.sg ["perm", "by", "row", "point", "image"] (defScope s_conjugate)) (defBody s_conjugate) = some c_conjugate := rfl
theorem i_conjugate (X : K.In h) (G : h.Ns mainGlobals mg) (a1 : PySem.W.nsIn K mainGlobals "conjugate" = some (some (.ref fa))) (l1 : K.lookup fa = some ⟨oc, od, .func (PySem.W.fnOf "conjugate" "conjugate" (defArgs s_conjugate) (defBody s_conjugate) (defScope s_conjugate) .none kV dc pm an cd ct), sl⟩) (c1 : PySem.W.codeIn K cd "conjugate" = true) (k1 : PySem.W.keepIn K (.ref fa) = true) :
    DefI M K mg "conjugate" ⟨2, 5, c_conjugate⟩ fa (PySem.W.fnOf "conjugate" "conjugate" (defArgs s_conjugate) (defBody s_conjugate) (defScope s_conjugate) .none kV dc pm an cd ct) ["perm", "by"] :=
  have F := fun_mk (st := s_conjugate) l1 c1 k1
  ⟨PySem.W.mg_of X G a1, F.binds (ps := ["perm", "by"]) fun _ _ _ _ _ _ us hl => (match us, hl with | [_, _], _ => rfl), k1, rfl, s_conjugate, ["perm", "by", "row", "point", "image"], 40, F, ⟨rfl, rfl, rfl, by decide +kernel, rfl, by decide +kernel, by decide +kernel⟩, rfl, t_conjugate⟩
theorem t_commutator : trSs (tr 40) (M.sg ["one", "other"] (defScope s_commutator)) (defBody s_commutator) = some c_commutator := rfl
theorem i_commutator (X : K.In h) (G : h.Ns mainGlobals mg) (a1 : PySem.W.nsIn K mainGlobals "commutator" = some (some (.ref fa))) (l1 : K.lookup fa = some ⟨oc, od, .func (PySem.W.fnOf "commutator" "commutator" (defArgs s_commutator) (defBody s_commutator) (defScope s_commutator) .none kV dc pm an cd ct), sl⟩) (c1 : PySem.W.codeIn K cd "commutator" = true) (k1 : PySem.W.keepIn K (.ref fa) = true) :
    DefI M K mg "commutator" ⟨2, 2, c_commutator⟩ fa (PySem.W.fnOf "commutator" "commutator" (defArgs s_commutator) (defBody s_commutator) (defScope s_commutator) .none kV dc pm an cd ct) ["one", "other"] :=
  have F := fun_mk (st := s_commutator) l1 c1 k1
  ⟨PySem.W.mg_of X G a1, F.binds (ps := ["one", "other"]) fun _ _ _ _ _ _ us hl => (match us, hl with | [_, _], _ => rfl), k1, rfl, s_commutator, ["one", "other"], 40, F, ⟨rfl, rfl, rfl, by decide +kernel, rfl, by decide +kernel, by decide +kernel⟩, rfl, t_commutator⟩
theorem t__law_inverse : trSs (tr 40) (M.sg ["p", "row", "x"] (defScope s__law_inverse)) (defBody s__law_inverse) = some c__law_inverse := rfl
theorem i__law_inverse (X : K.In h) (G : h.Ns mainGlobals mg) (a1 : PySem.W.nsIn K mainGlobals "_law_inverse" = some (some (.ref fa))) (l1 : K.lookup fa = some ⟨oc, od, .func (PySem.W.fnOf "_law_inverse" "_law_inverse" (defArgs s__law_inverse) (defBody s__law_inverse) (defScope s__law_inverse) .none kV dc pm an cd ct), sl⟩) (c1 : PySem.W.codeIn K cd "_law_inverse" = true) (k1 : PySem.W.keepIn K (.ref fa) = true) :
    DefI M K mg "_law_inverse" ⟨1, 3, c__law_inverse⟩ fa (PySem.W.fnOf "_law_inverse" "_law_inverse" (defArgs s__law_inverse) (defBody s__law_inverse) (defScope s__law_inverse) .none kV dc pm an cd ct) ["p"] :=
  have F := fun_mk (st := s__law_inverse) l1 c1 k1
  ⟨PySem.W.mg_of X G a1, F.binds (ps := ["p"]) fun _ _ _ _ _ _ us hl => (match us, hl with | [_], _ => rfl), k1, rfl, s__law_inverse, ["p", "row", "x"], 40, F, ⟨rfl, rfl, rfl, by decide +kernel, rfl, by decide +kernel, by decide +kernel⟩, rfl, t__law_inverse⟩
theorem t__law_take : trSs (tr 40) (M.sg ["d", "many", "digit", "small"] (defScope s__law_take)) (defBody s__law_take) = some c__law_take := rfl
theorem i__law_take (X : K.In h) (G : h.Ns mainGlobals mg) (a1 : PySem.W.nsIn K mainGlobals "_law_take" = some (some (.ref fa))) (l1 : K.lookup fa = some ⟨oc, od, .func (PySem.W.fnOf "_law_take" "_law_take" (defArgs s__law_take) (defBody s__law_take) (defScope s__law_take) .none kV dc pm an cd ct), sl⟩) (c1 : PySem.W.codeIn K cd "_law_take" = true) (k1 : PySem.W.keepIn K (.ref fa) = true) :
    DefI M K mg "_law_take" ⟨2, 4, c__law_take⟩ fa (PySem.W.fnOf "_law_take" "_law_take" (defArgs s__law_take) (defBody s__law_take) (defScope s__law_take) .none kV dc pm an cd ct) ["d", "many"] :=
  have F := fun_mk (st := s__law_take) l1 c1 k1
  ⟨PySem.W.mg_of X G a1, F.binds (ps := ["d", "many"]) fun _ _ _ _ _ _ us hl => (match us, hl with | [_, _], _ => rfl), k1, rfl, s__law_take, ["d", "many", "digit", "small"], 40, F, ⟨rfl, rfl, rfl, by decide +kernel, rfl, by decide +kernel, by decide +kernel⟩, rfl, t__law_take⟩
theorem t__law_begin : trSs (tr 40) (M.sg ["script", "seed", "cell"] (defScope s__law_begin)) (defBody s__law_begin) = some c__law_begin := rfl
theorem i__law_begin (X : K.In h) (G : h.Ns mainGlobals mg) (a1 : PySem.W.nsIn K mainGlobals "_law_begin" = some (some (.ref fa))) (l1 : K.lookup fa = some ⟨oc, od, .func (PySem.W.fnOf "_law_begin" "_law_begin" (defArgs s__law_begin) (defBody s__law_begin) (defScope s__law_begin) .none kV dc pm an cd ct), sl⟩) (c1 : PySem.W.codeIn K cd "_law_begin" = true) (k1 : PySem.W.keepIn K (.ref fa) = true) :
    DefI M K mg "_law_begin" ⟨1, 3, c__law_begin⟩ fa (PySem.W.fnOf "_law_begin" "_law_begin" (defArgs s__law_begin) (defBody s__law_begin) (defScope s__law_begin) .none kV dc pm an cd ct) ["script"] :=
  have F := fun_mk (st := s__law_begin) l1 c1 k1
  ⟨PySem.W.mg_of X G a1, F.binds (ps := ["script"]) fun _ _ _ _ _ _ us hl => (match us, hl with | [_], _ => rfl), k1, rfl, s__law_begin, ["script", "seed", "cell"], 40, F, ⟨rfl, rfl, rfl, by decide +kernel, rfl, by decide +kernel, by decide +kernel⟩, rfl, t__law_begin⟩
theorem t__law_shuffled : trSs (tr 40) (M.sg ["d", "n", "rest", "k"] (defScope s__law_shuffled)) (defBody s__law_shuffled) = some c__law_shuffled := rfl
theorem i__law_shuffled (X : K.In h) (G : h.Ns mainGlobals mg) (a1 : PySem.W.nsIn K mainGlobals "_law_shuffled" = some (some (.ref fa))) (l1 : K.lookup fa = some ⟨oc, od, .func (PySem.W.fnOf "_law_shuffled" "_law_shuffled" (defArgs s__law_shuffled) (defBody s__law_shuffled) (defScope s__law_shuffled) .none kV dc pm an cd ct), sl⟩) (c1 : PySem.W.codeIn K cd "_law_shuffled" = true) (k1 : PySem.W.keepIn K (.ref fa) = true) :
    DefI M K mg "_law_shuffled" ⟨2, 4, c__law_shuffled⟩ fa (PySem.W.fnOf "_law_shuffled" "_law_shuffled" (defArgs s__law_shuffled) (defBody s__law_shuffled) (defScope s__law_shuffled) .none kV dc pm an cd ct) ["d", "n"] :=
  have F := fun_mk (st := s__law_shuffled) l1 c1 k1
  ⟨PySem.W.mg_of X G a1, F.binds (ps := ["d", "n"]) fun _ _ _ _ _ _ us hl => (match us, hl with | [_, _], _ => rfl), k1, rfl, s__law_shuffled, ["d", "n", "rest", "k"], 40, F, ⟨rfl, rfl, rfl, by decide +kernel, rfl, by decide +kernel, by decide +kernel⟩, rfl, t__law_shuffled⟩
theorem t__law_times : trSs (tr 40) (M.sg ["p", "q", "x"] (defScope s__law_times)) (defBody s__law_times) = some c__law_times := rfl
theorem i__law_times (X : K.In h) (G : h.Ns mainGlobals mg) (a1 : PySem.W.nsIn K mainGlobals "_law_times" = some (some (.ref fa))) (l1 : K.lookup fa = some ⟨oc, od, .func (PySem.W.fnOf "_law_times" "_law_times" (defArgs s__law_times) (defBody s__law_times) (defScope s__law_times) .none kV dc pm an cd ct), sl⟩) (c1 : PySem.W.codeIn K cd "_law_times" = true) (k1 : PySem.W.keepIn K (.ref fa) = true) :
    DefI M K mg "_law_times" ⟨2, 3, c__law_times⟩ fa (PySem.W.fnOf "_law_times" "_law_times" (defArgs s__law_times) (defBody s__law_times) (defScope s__law_times) .none kV dc pm an cd ct) ["p", "q"] :=
  have F := fun_mk (st := s__law_times) l1 c1 k1
  ⟨PySem.W.mg_of X G a1, F.binds (ps := ["p", "q"]) fun _ _ _ _ _ _ us hl => (match us, hl with | [_, _], _ => rfl), k1, rfl, s__law_times, ["p", "q", "x"], 40, F, ⟨rfl, rfl, rfl, by decide +kernel, rfl, by decide +kernel, by decide +kernel⟩, rfl, t__law_times⟩
theorem t__law_cycle : trSs (tr 40) (M.sg ["n", "row", "images", "k"] (defScope s__law_cycle)) (defBody s__law_cycle) = some c__law_cycle := rfl
theorem i__law_cycle (X : K.In h) (G : h.Ns mainGlobals mg) (a1 : PySem.W.nsIn K mainGlobals "_law_cycle" = some (some (.ref fa))) (l1 : K.lookup fa = some ⟨oc, od, .func (PySem.W.fnOf "_law_cycle" "_law_cycle" (defArgs s__law_cycle) (defBody s__law_cycle) (defScope s__law_cycle) .none kV dc pm an cd ct), sl⟩) (c1 : PySem.W.codeIn K cd "_law_cycle" = true) (k1 : PySem.W.keepIn K (.ref fa) = true) :
    DefI M K mg "_law_cycle" ⟨2, 4, c__law_cycle⟩ fa (PySem.W.fnOf "_law_cycle" "_law_cycle" (defArgs s__law_cycle) (defBody s__law_cycle) (defScope s__law_cycle) .none kV dc pm an cd ct) ["n", "row"] :=
  have F := fun_mk (st := s__law_cycle) l1 c1 k1
  ⟨PySem.W.mg_of X G a1, F.binds (ps := ["n", "row"]) fun _ _ _ _ _ _ us hl => (match us, hl with | [_, _], _ => rfl), k1, rfl, s__law_cycle, ["n", "row", "images", "k"], 40, F, ⟨rfl, rfl, rfl, by decide +kernel, rfl, by decide +kernel, by decide +kernel⟩, rfl, t__law_cycle⟩
theorem t__law_conj : trSs (tr 40) (M.sg ["p", "c", "row", "x"] (defScope s__law_conj)) (defBody s__law_conj) = some c__law_conj := rfl
theorem i__law_conj (X : K.In h) (G : h.Ns mainGlobals mg) (a1 : PySem.W.nsIn K mainGlobals "_law_conj" = some (some (.ref fa))) (l1 : K.lookup fa = some ⟨oc, od, .func (PySem.W.fnOf "_law_conj" "_law_conj" (defArgs s__law_conj) (defBody s__law_conj) (defScope s__law_conj) .none kV dc pm an cd ct), sl⟩) (c1 : PySem.W.codeIn K cd "_law_conj" = true) (k1 : PySem.W.keepIn K (.ref fa) = true) :
    DefI M K mg "_law_conj" ⟨2, 4, c__law_conj⟩ fa (PySem.W.fnOf "_law_conj" "_law_conj" (defArgs s__law_conj) (defBody s__law_conj) (defScope s__law_conj) .none kV dc pm an cd ct) ["p", "c"] :=
  have F := fun_mk (st := s__law_conj) l1 c1 k1
  ⟨PySem.W.mg_of X G a1, F.binds (ps := ["p", "c"]) fun _ _ _ _ _ _ us hl => (match us, hl with | [_, _], _ => rfl), k1, rfl, s__law_conj, ["p", "c", "row", "x"], 40, F, ⟨rfl, rfl, rfl, by decide +kernel, rfl, by decide +kernel, by decide +kernel⟩, rfl, t__law_conj⟩
theorem t__law_comm : trSs (tr 40) (M.sg ["p", "q"] (defScope s__law_comm)) (defBody s__law_comm) = some c__law_comm := rfl
theorem i__law_comm (X : K.In h) (G : h.Ns mainGlobals mg) (a1 : PySem.W.nsIn K mainGlobals "_law_comm" = some (some (.ref fa))) (l1 : K.lookup fa = some ⟨oc, od, .func (PySem.W.fnOf "_law_comm" "_law_comm" (defArgs s__law_comm) (defBody s__law_comm) (defScope s__law_comm) .none kV dc pm an cd ct), sl⟩) (c1 : PySem.W.codeIn K cd "_law_comm" = true) (k1 : PySem.W.keepIn K (.ref fa) = true) :
    DefI M K mg "_law_comm" ⟨2, 2, c__law_comm⟩ fa (PySem.W.fnOf "_law_comm" "_law_comm" (defArgs s__law_comm) (defBody s__law_comm) (defScope s__law_comm) .none kV dc pm an cd ct) ["p", "q"] :=
  have F := fun_mk (st := s__law_comm) l1 c1 k1
  ⟨PySem.W.mg_of X G a1, F.binds (ps := ["p", "q"]) fun _ _ _ _ _ _ us hl => (match us, hl with | [_, _], _ => rfl), k1, rfl, s__law_comm, ["p", "q"], 40, F, ⟨rfl, rfl, rfl, by decide +kernel, rfl, by decide +kernel, by decide +kernel⟩, rfl, t__law_comm⟩
theorem t__law_walk : trSs (tr 40) (M.sg ["p", "x", "exponent", "q", "size", "y", "k"] (defScope s__law_walk)) (defBody s__law_walk) = some c__law_walk := rfl
theorem i__law_walk (X : K.In h) (G : h.Ns mainGlobals mg) (a1 : PySem.W.nsIn K mainGlobals "_law_walk" = some (some (.ref fa))) (l1 : K.lookup fa = some ⟨oc, od, .func (PySem.W.fnOf "_law_walk" "_law_walk" (defArgs s__law_walk) (defBody s__law_walk) (defScope s__law_walk) .none kV dc pm an cd ct), sl⟩) (c1 : PySem.W.codeIn K cd "_law_walk" = true) (k1 : PySem.W.keepIn K (.ref fa) = true) :
    DefI M K mg "_law_walk" ⟨3, 7, c__law_walk⟩ fa (PySem.W.fnOf "_law_walk" "_law_walk" (defArgs s__law_walk) (defBody s__law_walk) (defScope s__law_walk) .none kV dc pm an cd ct) ["p", "x", "exponent"] :=
  have F := fun_mk (st := s__law_walk) l1 c1 k1
  ⟨PySem.W.mg_of X G a1, F.binds (ps := ["p", "x", "exponent"]) fun _ _ _ _ _ _ us hl => (match us, hl with | [_, _, _], _ => rfl), k1, rfl, s__law_walk, ["p", "x", "exponent", "q", "size", "y", "k"], 40, F, ⟨rfl, rfl, rfl, by decide +kernel, rfl, by decide +kernel, by decide +kernel⟩, rfl, t__law_walk⟩
theorem t__law_rows : trSs (tr 40) (M.sg ["p", "rows", "x", "row"] (defScope s__law_rows)) (defBody s__law_rows) = some c__law_rows := rfl
theorem i__law_rows (X : K.In h) (G : h.Ns mainGlobals mg) (a1 : PySem.W.nsIn K mainGlobals "_law_rows" = some (some (.ref fa))) (l1 : K.lookup fa = some ⟨oc, od, .func (PySem.W.fnOf "_law_rows" "_law_rows" (defArgs s__law_rows) (defBody s__law_rows) (defScope s__law_rows) .none kV dc pm an cd ct), sl⟩) (c1 : PySem.W.codeIn K cd "_law_rows" = true) (k1 : PySem.W.keepIn K (.ref fa) = true) :
    DefI M K mg "_law_rows" ⟨1, 4, c__law_rows⟩ fa (PySem.W.fnOf "_law_rows" "_law_rows" (defArgs s__law_rows) (defBody s__law_rows) (defScope s__law_rows) .none kV dc pm an cd ct) ["p"] :=
  have F := fun_mk (st := s__law_rows) l1 c1 k1
  ⟨PySem.W.mg_of X G a1, F.binds (ps := ["p"]) fun _ _ _ _ _ _ us hl => (match us, hl with | [_], _ => rfl), k1, rfl, s__law_rows, ["p", "rows", "x", "row"], 40, F, ⟨rfl, rfl, rfl, by decide +kernel, rfl, by decide +kernel, by decide +kernel⟩, rfl, t__law_rows⟩
theorem t__law_right : trSs (tr 40) (M.sg ["p", "rows", "turned", "x", "size", "q", "row", "y"] (defScope s__law_right)) (defBody s__law_right) = some c__law_right := rfl
theorem i__law_right (X : K.In h) (G : h.Ns mainGlobals mg) (a1 : PySem.W.nsIn K mainGlobals "_law_right" = some (some (.ref fa))) (l1 : K.lookup fa = some ⟨oc, od, .func (PySem.W.fnOf "_law_right" "_law_right" (defArgs s__law_right) (defBody s__law_right) (defScope s__law_right) .none kV dc pm an cd ct), sl⟩) (c1 : PySem.W.codeIn K cd "_law_right" = true) (k1 : PySem.W.keepIn K (.ref fa) = true) :
    DefI M K mg "_law_right" ⟨1, 8, c__law_right⟩ fa (PySem.W.fnOf "_law_right" "_law_right" (defArgs s__law_right) (defBody s__law_right) (defScope s__law_right) .none kV dc pm an cd ct) ["p"] :=
  have F := fun_mk (st := s__law_right) l1 c1 k1
  ⟨PySem.W.mg_of X G a1, F.binds (ps := ["p"]) fun _ _ _ _ _ _ us hl => (match us, hl with | [_], _ => rfl), k1, rfl, s__law_right, ["p", "rows", "turned", "x", "size", "q", "row", "y"], 40, F, ⟨rfl, rfl, rfl, by decide +kernel, rfl, by decide +kernel, by decide +kernel⟩, rfl, t__law_right⟩
theorem t__law_wrong : trSs (tr 40) (M.sg ["d", "p", "row", "k", "menu"] (defScope s__law_wrong)) (defBody s__law_wrong) = some c__law_wrong := rfl
theorem i__law_wrong (X : K.In h) (G : h.Ns mainGlobals mg) (a1 : PySem.W.nsIn K mainGlobals "_law_wrong" = some (some (.ref fa))) (l1 : K.lookup fa = some ⟨oc, od, .func (PySem.W.fnOf "_law_wrong" "_law_wrong" (defArgs s__law_wrong) (defBody s__law_wrong) (defScope s__law_wrong) .none kV dc pm an cd ct), sl⟩) (c1 : PySem.W.codeIn K cd "_law_wrong" = true) (k1 : PySem.W.keepIn K (.ref fa) = true) :
    DefI M K mg "_law_wrong" ⟨2, 5, c__law_wrong⟩ fa (PySem.W.fnOf "_law_wrong" "_law_wrong" (defArgs s__law_wrong) (defBody s__law_wrong) (defScope s__law_wrong) .none kV dc pm an cd ct) ["d", "p"] :=
  have F := fun_mk (st := s__law_wrong) l1 c1 k1
  ⟨PySem.W.mg_of X G a1, F.binds (ps := ["d", "p"]) fun _ _ _ _ _ _ us hl => (match us, hl with | [_, _], _ => rfl), k1, rfl, s__law_wrong, ["d", "p", "row", "k", "menu"], 40, F, ⟨rfl, rfl, rfl, by decide +kernel, rfl, by decide +kernel, by decide +kernel⟩, rfl, t__law_wrong⟩
theorem t__law_known : trSs (tr 40) (M.sg ["value", "x"] (defScope s__law_known)) (defBody s__law_known) = some c__law_known := rfl
theorem i__law_known (X : K.In h) (G : h.Ns mainGlobals mg) (a1 : PySem.W.nsIn K mainGlobals "_law_known" = some (some (.ref fa))) (l1 : K.lookup fa = some ⟨oc, od, .func (PySem.W.fnOf "_law_known" "_law_known" (defArgs s__law_known) (defBody s__law_known) (defScope s__law_known) .none kV dc pm an cd ct), sl⟩) (c1 : PySem.W.codeIn K cd "_law_known" = true) (k1 : PySem.W.keepIn K (.ref fa) = true) :
    DefI M K mg "_law_known" ⟨1, 2, c__law_known⟩ fa (PySem.W.fnOf "_law_known" "_law_known" (defArgs s__law_known) (defBody s__law_known) (defScope s__law_known) .none kV dc pm an cd ct) ["value"] :=
  have F := fun_mk (st := s__law_known) l1 c1 k1
  ⟨PySem.W.mg_of X G a1, F.binds (ps := ["value"]) fun _ _ _ _ _ _ us hl => (match us, hl with | [_], _ => rfl), k1, rfl, s__law_known, ["value", "x"], 40, F, ⟨rfl, rfl, rfl, by decide +kernel, rfl, by decide +kernel, by decide +kernel⟩, rfl, t__law_known⟩
theorem t_law : trSs (tr 40) (M.sg ["script", "d", "n", "p", "q", "back", "exponent", "wrong", "x"] (defScope s_law)) (defBody s_law) = some c_law := rfl
theorem i_law (X : K.In h) (G : h.Ns mainGlobals mg) (a1 : PySem.W.nsIn K mainGlobals "law" = some (some (.ref fa))) (l1 : K.lookup fa = some ⟨oc, od, .func (PySem.W.fnOf "law" "law" (defArgs s_law) (defBody s_law) (defScope s_law) .none kV dc pm an cd ct), sl⟩) (c1 : PySem.W.codeIn K cd "law" = true) (k1 : PySem.W.keepIn K (.ref fa) = true) :
    DefI M K mg "law" ⟨1, 9, c_law⟩ fa (PySem.W.fnOf "law" "law" (defArgs s_law) (defBody s_law) (defScope s_law) .none kV dc pm an cd ct) ["script"] :=
  have F := fun_mk (st := s_law) l1 c1 k1
  ⟨PySem.W.mg_of X G a1, F.binds (ps := ["script"]) fun _ _ _ _ _ _ us hl => (match us, hl with | [_], _ => rfl), k1, rfl, s_law, ["script", "d", "n", "p", "q", "back", "exponent", "wrong", "x"], 40, F, ⟨rfl, rfl, rfl, by decide +kernel, rfl, by decide +kernel, by decide +kernel⟩, rfl, t_law⟩
end
end Mi
theorem Mi.law_true (ns : List Int) (h : ns.length ≤ 63) : ∃ h, Mi.callD Mi.M.T 60 "law" [.fz ns] [] = .ok (.bl true) h := Mi.law_body ns h
namespace Mi
open PySem L2
theorem all_mk {l : PySem.W.OpenLaw} {w : World} {K : PySem.W.Frag} {h : Heap} {mg : Str → Option Value} {fa : Addr} (X : K.In h) (G : h.Ns mainGlobals mg) (hfa : mg "law" = some (.ref fa))
    {f0 : Addr} {od0 an0 : Option Addr} {sl0 : Array (Option Value)} {oc0 kV0 dc0 pm0 cd0 ct0 : Value}
    (a0 : PySem.W.nsIn K mainGlobals "is_integer" = some (some (.ref f0))) (l0 : K.lookup f0 = some ⟨oc0, od0, .func (PySem.W.fnOf "is_integer" "is_integer" (defArgs s_is_integer) (defBody s_is_integer) (defScope s_is_integer) .none kV0 dc0 pm0 an0 cd0 ct0), sl0⟩) (c0 : PySem.W.codeIn K cd0 "is_integer" = true) (k0 : PySem.W.keepIn K (.ref f0) = true)
    {f1 : Addr} {od1 an1 : Option Addr} {sl1 : Array (Option Value)} {oc1 kV1 dc1 pm1 cd1 ct1 : Value}
    (a1 : PySem.W.nsIn K mainGlobals "is_perm" = some (some (.ref f1))) (l1 : K.lookup f1 = some ⟨oc1, od1, .func (PySem.W.fnOf "is_perm" "is_perm" (defArgs s_is_perm) (defBody s_is_perm) (defScope s_is_perm) .none kV1 dc1 pm1 an1 cd1 ct1), sl1⟩) (c1 : PySem.W.codeIn K cd1 "is_perm" = true) (k1 : PySem.W.keepIn K (.ref f1) = true)
    {f2 : Addr} {od2 an2 : Option Addr} {sl2 : Array (Option Value)} {oc2 kV2 dc2 pm2 cd2 ct2 : Value}
    (a2 : PySem.W.nsIn K mainGlobals "identity" = some (some (.ref f2))) (l2 : K.lookup f2 = some ⟨oc2, od2, .func (PySem.W.fnOf "identity" "identity" (defArgs s_identity) (defBody s_identity) (defScope s_identity) .none kV2 dc2 pm2 an2 cd2 ct2), sl2⟩) (c2 : PySem.W.codeIn K cd2 "identity" = true) (k2 : PySem.W.keepIn K (.ref f2) = true)
    {f3 : Addr} {od3 an3 : Option Addr} {sl3 : Array (Option Value)} {oc3 kV3 dc3 pm3 cd3 ct3 : Value}
    (a3 : PySem.W.nsIn K mainGlobals "times" = some (some (.ref f3))) (l3 : K.lookup f3 = some ⟨oc3, od3, .func (PySem.W.fnOf "times" "times" (defArgs s_times) (defBody s_times) (defScope s_times) .none kV3 dc3 pm3 an3 cd3 ct3), sl3⟩) (c3 : PySem.W.codeIn K cd3 "times" = true) (k3 : PySem.W.keepIn K (.ref f3) = true)
    {f4 : Addr} {od4 an4 : Option Addr} {sl4 : Array (Option Value)} {oc4 kV4 dc4 pm4 cd4 ct4 : Value}
    (a4 : PySem.W.nsIn K mainGlobals "inverse" = some (some (.ref f4))) (l4 : K.lookup f4 = some ⟨oc4, od4, .func (PySem.W.fnOf "inverse" "inverse" (defArgs s_inverse) (defBody s_inverse) (defScope s_inverse) .none kV4 dc4 pm4 an4 cd4 ct4), sl4⟩) (c4 : PySem.W.codeIn K cd4 "inverse" = true) (k4 : PySem.W.keepIn K (.ref f4) = true)
    {f5 : Addr} {od5 an5 : Option Addr} {sl5 : Array (Option Value)} {oc5 kV5 dc5 pm5 cd5 ct5 : Value}
    (a5 : PySem.W.nsIn K mainGlobals "cycles" = some (some (.ref f5))) (l5 : K.lookup f5 = some ⟨oc5, od5, .func (PySem.W.fnOf "cycles" "cycles" (defArgs s_cycles) (defBody s_cycles) (defScope s_cycles) .none kV5 dc5 pm5 an5 cd5 ct5), sl5⟩) (c5 : PySem.W.codeIn K cd5 "cycles" = true) (k5 : PySem.W.keepIn K (.ref f5) = true)
    {f6 : Addr} {od6 an6 : Option Addr} {sl6 : Array (Option Value)} {oc6 kV6 dc6 pm6 cd6 ct6 : Value}
    (a6 : PySem.W.nsIn K mainGlobals "kind" = some (some (.ref f6))) (l6 : K.lookup f6 = some ⟨oc6, od6, .func (PySem.W.fnOf "kind" "kind" (defArgs s_kind) (defBody s_kind) (defScope s_kind) .none kV6 dc6 pm6 an6 cd6 ct6), sl6⟩) (c6 : PySem.W.codeIn K cd6 "kind" = true) (k6 : PySem.W.keepIn K (.ref f6) = true)
    {f7 : Addr} {od7 an7 : Option Addr} {sl7 : Array (Option Value)} {oc7 kV7 dc7 pm7 cd7 ct7 : Value}
    (a7 : PySem.W.nsIn K mainGlobals "power" = some (some (.ref f7))) (l7 : K.lookup f7 = some ⟨oc7, od7, .func (PySem.W.fnOf "power" "power" (defArgs s_power) (defBody s_power) (defScope s_power) .none kV7 dc7 pm7 an7 cd7 ct7), sl7⟩) (c7 : PySem.W.codeIn K cd7 "power" = true) (k7 : PySem.W.keepIn K (.ref f7) = true)
    {f8 : Addr} {od8 an8 : Option Addr} {sl8 : Array (Option Value)} {oc8 kV8 dc8 pm8 cd8 ct8 : Value}
    (a8 : PySem.W.nsIn K mainGlobals "greatest_divisor" = some (some (.ref f8))) (l8 : K.lookup f8 = some ⟨oc8, od8, .func (PySem.W.fnOf "greatest_divisor" "greatest_divisor" (defArgs s_greatest_divisor) (defBody s_greatest_divisor) (defScope s_greatest_divisor) .none kV8 dc8 pm8 an8 cd8 ct8), sl8⟩) (c8 : PySem.W.codeIn K cd8 "greatest_divisor" = true) (k8 : PySem.W.keepIn K (.ref f8) = true)
    {f9 : Addr} {od9 an9 : Option Addr} {sl9 : Array (Option Value)} {oc9 kV9 dc9 pm9 cd9 ct9 : Value}
    (a9 : PySem.W.nsIn K mainGlobals "order" = some (some (.ref f9))) (l9 : K.lookup f9 = some ⟨oc9, od9, .func (PySem.W.fnOf "order" "order" (defArgs s_order) (defBody s_order) (defScope s_order) .none kV9 dc9 pm9 an9 cd9 ct9), sl9⟩) (c9 : PySem.W.codeIn K cd9 "order" = true) (k9 : PySem.W.keepIn K (.ref f9) = true)
    {f10 : Addr} {od10 an10 : Option Addr} {sl10 : Array (Option Value)} {oc10 kV10 dc10 pm10 cd10 ct10 : Value}
    (a10 : PySem.W.nsIn K mainGlobals "is_even" = some (some (.ref f10))) (l10 : K.lookup f10 = some ⟨oc10, od10, .func (PySem.W.fnOf "is_even" "is_even" (defArgs s_is_even) (defBody s_is_even) (defScope s_is_even) .none kV10 dc10 pm10 an10 cd10 ct10), sl10⟩) (c10 : PySem.W.codeIn K cd10 "is_even" = true) (k10 : PySem.W.keepIn K (.ref f10) = true)
    {f11 : Addr} {od11 an11 : Option Addr} {sl11 : Array (Option Value)} {oc11 kV11 dc11 pm11 cd11 ct11 : Value}
    (a11 : PySem.W.nsIn K mainGlobals "moved" = some (some (.ref f11))) (l11 : K.lookup f11 = some ⟨oc11, od11, .func (PySem.W.fnOf "moved" "moved" (defArgs s_moved) (defBody s_moved) (defScope s_moved) .none kV11 dc11 pm11 an11 cd11 ct11), sl11⟩) (c11 : PySem.W.codeIn K cd11 "moved" = true) (k11 : PySem.W.keepIn K (.ref f11) = true)
    {f12 : Addr} {od12 an12 : Option Addr} {sl12 : Array (Option Value)} {oc12 kV12 dc12 pm12 cd12 ct12 : Value}
    (a12 : PySem.W.nsIn K mainGlobals "conjugate" = some (some (.ref f12))) (l12 : K.lookup f12 = some ⟨oc12, od12, .func (PySem.W.fnOf "conjugate" "conjugate" (defArgs s_conjugate) (defBody s_conjugate) (defScope s_conjugate) .none kV12 dc12 pm12 an12 cd12 ct12), sl12⟩) (c12 : PySem.W.codeIn K cd12 "conjugate" = true) (k12 : PySem.W.keepIn K (.ref f12) = true)
    {f13 : Addr} {od13 an13 : Option Addr} {sl13 : Array (Option Value)} {oc13 kV13 dc13 pm13 cd13 ct13 : Value}
    (a13 : PySem.W.nsIn K mainGlobals "commutator" = some (some (.ref f13))) (l13 : K.lookup f13 = some ⟨oc13, od13, .func (PySem.W.fnOf "commutator" "commutator" (defArgs s_commutator) (defBody s_commutator) (defScope s_commutator) .none kV13 dc13 pm13 an13 cd13 ct13), sl13⟩) (c13 : PySem.W.codeIn K cd13 "commutator" = true) (k13 : PySem.W.keepIn K (.ref f13) = true)
    {f14 : Addr} {od14 an14 : Option Addr} {sl14 : Array (Option Value)} {oc14 kV14 dc14 pm14 cd14 ct14 : Value}
    (a14 : PySem.W.nsIn K mainGlobals "_law_inverse" = some (some (.ref f14))) (l14 : K.lookup f14 = some ⟨oc14, od14, .func (PySem.W.fnOf "_law_inverse" "_law_inverse" (defArgs s__law_inverse) (defBody s__law_inverse) (defScope s__law_inverse) .none kV14 dc14 pm14 an14 cd14 ct14), sl14⟩) (c14 : PySem.W.codeIn K cd14 "_law_inverse" = true) (k14 : PySem.W.keepIn K (.ref f14) = true)
    {f15 : Addr} {od15 an15 : Option Addr} {sl15 : Array (Option Value)} {oc15 kV15 dc15 pm15 cd15 ct15 : Value}
    (a15 : PySem.W.nsIn K mainGlobals "_law_take" = some (some (.ref f15))) (l15 : K.lookup f15 = some ⟨oc15, od15, .func (PySem.W.fnOf "_law_take" "_law_take" (defArgs s__law_take) (defBody s__law_take) (defScope s__law_take) .none kV15 dc15 pm15 an15 cd15 ct15), sl15⟩) (c15 : PySem.W.codeIn K cd15 "_law_take" = true) (k15 : PySem.W.keepIn K (.ref f15) = true)
    {f16 : Addr} {od16 an16 : Option Addr} {sl16 : Array (Option Value)} {oc16 kV16 dc16 pm16 cd16 ct16 : Value}
    (a16 : PySem.W.nsIn K mainGlobals "_law_begin" = some (some (.ref f16))) (l16 : K.lookup f16 = some ⟨oc16, od16, .func (PySem.W.fnOf "_law_begin" "_law_begin" (defArgs s__law_begin) (defBody s__law_begin) (defScope s__law_begin) .none kV16 dc16 pm16 an16 cd16 ct16), sl16⟩) (c16 : PySem.W.codeIn K cd16 "_law_begin" = true) (k16 : PySem.W.keepIn K (.ref f16) = true)
    {f17 : Addr} {od17 an17 : Option Addr} {sl17 : Array (Option Value)} {oc17 kV17 dc17 pm17 cd17 ct17 : Value}
    (a17 : PySem.W.nsIn K mainGlobals "_law_shuffled" = some (some (.ref f17))) (l17 : K.lookup f17 = some ⟨oc17, od17, .func (PySem.W.fnOf "_law_shuffled" "_law_shuffled" (defArgs s__law_shuffled) (defBody s__law_shuffled) (defScope s__law_shuffled) .none kV17 dc17 pm17 an17 cd17 ct17), sl17⟩) (c17 : PySem.W.codeIn K cd17 "_law_shuffled" = true) (k17 : PySem.W.keepIn K (.ref f17) = true)
    {f18 : Addr} {od18 an18 : Option Addr} {sl18 : Array (Option Value)} {oc18 kV18 dc18 pm18 cd18 ct18 : Value}
    (a18 : PySem.W.nsIn K mainGlobals "_law_times" = some (some (.ref f18))) (l18 : K.lookup f18 = some ⟨oc18, od18, .func (PySem.W.fnOf "_law_times" "_law_times" (defArgs s__law_times) (defBody s__law_times) (defScope s__law_times) .none kV18 dc18 pm18 an18 cd18 ct18), sl18⟩) (c18 : PySem.W.codeIn K cd18 "_law_times" = true) (k18 : PySem.W.keepIn K (.ref f18) = true)
    {f19 : Addr} {od19 an19 : Option Addr} {sl19 : Array (Option Value)} {oc19 kV19 dc19 pm19 cd19 ct19 : Value}
    (a19 : PySem.W.nsIn K mainGlobals "_law_cycle" = some (some (.ref f19))) (l19 : K.lookup f19 = some ⟨oc19, od19, .func (PySem.W.fnOf "_law_cycle" "_law_cycle" (defArgs s__law_cycle) (defBody s__law_cycle) (defScope s__law_cycle) .none kV19 dc19 pm19 an19 cd19 ct19), sl19⟩) (c19 : PySem.W.codeIn K cd19 "_law_cycle" = true) (k19 : PySem.W.keepIn K (.ref f19) = true)
    {f20 : Addr} {od20 an20 : Option Addr} {sl20 : Array (Option Value)} {oc20 kV20 dc20 pm20 cd20 ct20 : Value}
    (a20 : PySem.W.nsIn K mainGlobals "_law_conj" = some (some (.ref f20))) (l20 : K.lookup f20 = some ⟨oc20, od20, .func (PySem.W.fnOf "_law_conj" "_law_conj" (defArgs s__law_conj) (defBody s__law_conj) (defScope s__law_conj) .none kV20 dc20 pm20 an20 cd20 ct20), sl20⟩) (c20 : PySem.W.codeIn K cd20 "_law_conj" = true) (k20 : PySem.W.keepIn K (.ref f20) = true)
    {f21 : Addr} {od21 an21 : Option Addr} {sl21 : Array (Option Value)} {oc21 kV21 dc21 pm21 cd21 ct21 : Value}
    (a21 : PySem.W.nsIn K mainGlobals "_law_comm" = some (some (.ref f21))) (l21 : K.lookup f21 = some ⟨oc21, od21, .func (PySem.W.fnOf "_law_comm" "_law_comm" (defArgs s__law_comm) (defBody s__law_comm) (defScope s__law_comm) .none kV21 dc21 pm21 an21 cd21 ct21), sl21⟩) (c21 : PySem.W.codeIn K cd21 "_law_comm" = true) (k21 : PySem.W.keepIn K (.ref f21) = true)
    {f22 : Addr} {od22 an22 : Option Addr} {sl22 : Array (Option Value)} {oc22 kV22 dc22 pm22 cd22 ct22 : Value}
    (a22 : PySem.W.nsIn K mainGlobals "_law_walk" = some (some (.ref f22))) (l22 : K.lookup f22 = some ⟨oc22, od22, .func (PySem.W.fnOf "_law_walk" "_law_walk" (defArgs s__law_walk) (defBody s__law_walk) (defScope s__law_walk) .none kV22 dc22 pm22 an22 cd22 ct22), sl22⟩) (c22 : PySem.W.codeIn K cd22 "_law_walk" = true) (k22 : PySem.W.keepIn K (.ref f22) = true)
    {f23 : Addr} {od23 an23 : Option Addr} {sl23 : Array (Option Value)} {oc23 kV23 dc23 pm23 cd23 ct23 : Value}
    (a23 : PySem.W.nsIn K mainGlobals "_law_rows" = some (some (.ref f23))) (l23 : K.lookup f23 = some ⟨oc23, od23, .func (PySem.W.fnOf "_law_rows" "_law_rows" (defArgs s__law_rows) (defBody s__law_rows) (defScope s__law_rows) .none kV23 dc23 pm23 an23 cd23 ct23), sl23⟩) (c23 : PySem.W.codeIn K cd23 "_law_rows" = true) (k23 : PySem.W.keepIn K (.ref f23) = true)
    {f24 : Addr} {od24 an24 : Option Addr} {sl24 : Array (Option Value)} {oc24 kV24 dc24 pm24 cd24 ct24 : Value}
    (a24 : PySem.W.nsIn K mainGlobals "_law_right" = some (some (.ref f24))) (l24 : K.lookup f24 = some ⟨oc24, od24, .func (PySem.W.fnOf "_law_right" "_law_right" (defArgs s__law_right) (defBody s__law_right) (defScope s__law_right) .none kV24 dc24 pm24 an24 cd24 ct24), sl24⟩) (c24 : PySem.W.codeIn K cd24 "_law_right" = true) (k24 : PySem.W.keepIn K (.ref f24) = true)
    {f25 : Addr} {od25 an25 : Option Addr} {sl25 : Array (Option Value)} {oc25 kV25 dc25 pm25 cd25 ct25 : Value}
    (a25 : PySem.W.nsIn K mainGlobals "_law_wrong" = some (some (.ref f25))) (l25 : K.lookup f25 = some ⟨oc25, od25, .func (PySem.W.fnOf "_law_wrong" "_law_wrong" (defArgs s__law_wrong) (defBody s__law_wrong) (defScope s__law_wrong) .none kV25 dc25 pm25 an25 cd25 ct25), sl25⟩) (c25 : PySem.W.codeIn K cd25 "_law_wrong" = true) (k25 : PySem.W.keepIn K (.ref f25) = true)
    {f26 : Addr} {od26 an26 : Option Addr} {sl26 : Array (Option Value)} {oc26 kV26 dc26 pm26 cd26 ct26 : Value}
    (a26 : PySem.W.nsIn K mainGlobals "_law_known" = some (some (.ref f26))) (l26 : K.lookup f26 = some ⟨oc26, od26, .func (PySem.W.fnOf "_law_known" "_law_known" (defArgs s__law_known) (defBody s__law_known) (defScope s__law_known) .none kV26 dc26 pm26 an26 cd26 ct26), sl26⟩) (c26 : PySem.W.codeIn K cd26 "_law_known" = true) (k26 : PySem.W.keepIn K (.ref f26) = true)
    {f27 : Addr} {od27 an27 : Option Addr} {sl27 : Array (Option Value)} {oc27 kV27 dc27 pm27 cd27 ct27 : Value}
    (a27 : PySem.W.nsIn K mainGlobals "law" = some (some (.ref f27))) (l27 : K.lookup f27 = some ⟨oc27, od27, .func (PySem.W.fnOf "law" "law" (defArgs s_law) (defBody s_law) (defScope s_law) .none kV27 dc27 pm27 an27 cd27 ct27), sl27⟩) (c27 : PySem.W.codeIn K cd27 "law" = true) (k27 : PySem.W.keepIn K (.ref f27) = true)
    (z0 : PySem.W.nsIn K mainGlobals "len" = some none)
    (z1 : PySem.W.nsIn K mainGlobals "any" = some none)
    (z2 : PySem.W.nsIn K mainGlobals "all" = some none)
    (z3 : PySem.W.nsIn K mainGlobals "sorted" = some none)
    (z4 : PySem.W.nsIn K mainGlobals "list" = some none)
    (z5 : PySem.W.nsIn K mainGlobals "tuple" = some none)
    (z6 : PySem.W.nsIn K mainGlobals "sum" = some none)
    (z7 : PySem.W.nsIn K mainGlobals "min" = some none)
    (z8 : PySem.W.nsIn K mainGlobals "abs" = some none)
    (z9 : PySem.W.nsIn K mainGlobals "int" = some none)
    (z10 : PySem.W.nsIn K mainGlobals "bool" = some none)
    (z11 : PySem.W.nsIn K mainGlobals "isinstance" = some none)
    (z12 : PySem.W.nsIn K mainGlobals "range" = some none)
    (z13 : PySem.W.nsIn K mainGlobals "enumerate" = some none)
    {tk0 : Tok} (n0 : PySem.W.nsIn K mainGlobals "MOST_POINTS" = some (some (.int (16) tk0)))
    : ∃ fd : FuncData, (∀ (s : Shared) (v : Value), BindsTo s fd ⟨[v], []⟩ [("script", v)]) ∧ ∀ base : Heap, K.In base → base.Ns mainGlobals mg → FnOk l.prog w K mg base CX0 60 fa fd ["script"] (spL M 60 "law" K) := by
  have e := hfa.symm.trans (PySem.W.mg_of X G a27)
  cases e
  have O : MdOk M K mg := ⟨List.forall_mem_cons.mpr ⟨PySem.W.mg_none_of X G z0, List.forall_mem_cons.mpr ⟨PySem.W.mg_none_of X G z1, List.forall_mem_cons.mpr ⟨PySem.W.mg_none_of X G z2, List.forall_mem_cons.mpr ⟨PySem.W.mg_none_of X G z3, List.forall_mem_cons.mpr ⟨PySem.W.mg_none_of X G z4, List.forall_mem_cons.mpr ⟨PySem.W.mg_none_of X G z5, List.forall_mem_cons.mpr ⟨PySem.W.mg_none_of X G z6, List.forall_mem_cons.mpr ⟨PySem.W.mg_none_of X G z7, List.forall_mem_cons.mpr ⟨PySem.W.mg_none_of X G z8, List.forall_mem_cons.mpr ⟨PySem.W.mg_none_of X G z9, List.forall_mem_cons.mpr ⟨PySem.W.mg_none_of X G z10, List.forall_mem_cons.mpr ⟨PySem.W.mg_none_of X G z11, List.forall_mem_cons.mpr ⟨PySem.W.mg_none_of X G z12, List.forall_mem_cons.mpr ⟨PySem.W.mg_none_of X G z13, fun _ h => (by cases h)⟩⟩⟩⟩⟩⟩⟩⟩⟩⟩⟩⟩⟩⟩, List.forall_mem_cons.mpr ⟨⟨_, .int (16), PySem.W.mg_of X G n0, ⟨_, rfl⟩, fun _ _ => .int _⟩, fun _ h => (by cases h)⟩⟩
  have A : AllI M K mg := List.forall_mem_cons.mpr ⟨⟨_, _, _, i_is_integer X G a0 l0 c0 k0⟩, List.forall_mem_cons.mpr ⟨⟨_, _, _, i_is_perm X G a1 l1 c1 k1⟩, List.forall_mem_cons.mpr ⟨⟨_, _, _, i_identity X G a2 l2 c2 k2⟩, List.forall_mem_cons.mpr ⟨⟨_, _, _, i_times X G a3 l3 c3 k3⟩, List.forall_mem_cons.mpr ⟨⟨_, _, _, i_inverse X G a4 l4 c4 k4⟩, List.forall_mem_cons.mpr ⟨⟨_, _, _, i_cycles X G a5 l5 c5 k5⟩, List.forall_mem_cons.mpr ⟨⟨_, _, _, i_kind X G a6 l6 c6 k6⟩, List.forall_mem_cons.mpr ⟨⟨_, _, _, i_power X G a7 l7 c7 k7⟩, List.forall_mem_cons.mpr ⟨⟨_, _, _, i_greatest_divisor X G a8 l8 c8 k8⟩, List.forall_mem_cons.mpr ⟨⟨_, _, _, i_order X G a9 l9 c9 k9⟩, List.forall_mem_cons.mpr ⟨⟨_, _, _, i_is_even X G a10 l10 c10 k10⟩, List.forall_mem_cons.mpr ⟨⟨_, _, _, i_moved X G a11 l11 c11 k11⟩, List.forall_mem_cons.mpr ⟨⟨_, _, _, i_conjugate X G a12 l12 c12 k12⟩, List.forall_mem_cons.mpr ⟨⟨_, _, _, i_commutator X G a13 l13 c13 k13⟩, List.forall_mem_cons.mpr ⟨⟨_, _, _, i__law_inverse X G a14 l14 c14 k14⟩, List.forall_mem_cons.mpr ⟨⟨_, _, _, i__law_take X G a15 l15 c15 k15⟩, List.forall_mem_cons.mpr ⟨⟨_, _, _, i__law_begin X G a16 l16 c16 k16⟩, List.forall_mem_cons.mpr ⟨⟨_, _, _, i__law_shuffled X G a17 l17 c17 k17⟩, List.forall_mem_cons.mpr ⟨⟨_, _, _, i__law_times X G a18 l18 c18 k18⟩, List.forall_mem_cons.mpr ⟨⟨_, _, _, i__law_cycle X G a19 l19 c19 k19⟩, List.forall_mem_cons.mpr ⟨⟨_, _, _, i__law_conj X G a20 l20 c20 k20⟩, List.forall_mem_cons.mpr ⟨⟨_, _, _, i__law_comm X G a21 l21 c21 k21⟩, List.forall_mem_cons.mpr ⟨⟨_, _, _, i__law_walk X G a22 l22 c22 k22⟩, List.forall_mem_cons.mpr ⟨⟨_, _, _, i__law_rows X G a23 l23 c23 k23⟩, List.forall_mem_cons.mpr ⟨⟨_, _, _, i__law_right X G a24 l24 c24 k24⟩, List.forall_mem_cons.mpr ⟨⟨_, _, _, i__law_wrong X G a25 l25 c25 k25⟩, List.forall_mem_cons.mpr ⟨⟨_, _, _, i__law_known X G a26 l26 c26 k26⟩, List.forall_mem_cons.mpr ⟨⟨_, _, _, i_law X G a27 l27 c27 k27⟩, fun _ h => (by cases h)⟩⟩⟩⟩⟩⟩⟩⟩⟩⟩⟩⟩⟩⟩⟩⟩⟩⟩⟩⟩⟩⟩⟩⟩⟩⟩⟩⟩
  exact ⟨PySem.W.fnOf "law" "law" (defArgs s_law) (defBody s_law) (defScope s_law) .none kV27 dc27 pm27 an27 cd27 ct27, fun s v => .of_eq rfl, fun base _ _ => def_ok O A 60 "law" ⟨1, 9, c_law⟩ _ _ _ rfl (i_law X G a27 l27 c27 k27)⟩
end Mi
open PySem PySem.W PyProof.Rows
set_option maxHeartbeats 0 in
theorem PySem.Challenge.cw_symhouse_k01_products_and_cycles_holds : PySem.Challenge.rw_symhouse_k01_products_and_cycles.Holds := by
  w_on; o_law; k_head; (case hw => w_witness2)
  k_fill
  refine L2.walk_ofK (l := PySem.Challenge.rw_symhouse_k01_products_and_cycles) (n := 63) (k := 60) (x := "script") (CX := L2.CX0) (sp := Mi.spL Mi.M 60 "law") rfl (by decide) rfl ⟨rfl, by decide, by decide⟩ (fun w h Y => PySem.W.kIn_of Y) ?F (fun K H a ns hl O S => Mi.law_sp Mi.law_true hl O S) (fun _ _ _ _ h => h)
  case F =>
    intro w mg fa h KX G hmg
    refine' Mi.all_mk KX G hmg ?a0 ?l0 ?c0 ?k0 ?a1 ?l1 ?c1 ?k1 ?a2 ?l2 ?c2 ?k2 ?a3 ?l3 ?c3 ?k3 ?a4 ?l4 ?c4 ?k4 ?a5 ?l5 ?c5 ?k5 ?a6 ?l6 ?c6 ?k6 ?a7 ?l7 ?c7 ?k7 ?a8 ?l8 ?c8 ?k8 ?a9 ?l9 ?c9 ?k9 ?a10 ?l10 ?c10 ?k10 ?a11 ?l11 ?c11 ?k11 ?a12 ?l12 ?c12 ?k12 ?a13 ?l13 ?c13 ?k13 ?a14 ?l14 ?c14 ?k14 ?a15 ?l15 ?c15 ?k15 ?a16 ?l16 ?c16 ?k16 ?a17 ?l17 ?c17 ?k17 ?a18 ?l18 ?c18 ?k18 ?a19 ?l19 ?c19 ?k19 ?a20 ?l20 ?c20 ?k20 ?a21 ?l21 ?c21 ?k21 ?a22 ?l22 ?c22 ?k22 ?a23 ?l23 ?c23 ?k23 ?a24 ?l24 ?c24 ?k24 ?a25 ?l25 ?c25 ?k25 ?a26 ?l26 ?c26 ?k26 ?a27 ?l27 ?c27 ?k27 ?z0 ?z1 ?z2 ?z3 ?z4 ?z5 ?z6 ?z7 ?z8 ?z9 ?z10 ?z11 ?z12 ?z13 ?n0
    (case a0 => k_is); (case l0 => k_is); (case c0 => k_is); (case k0 => k_is); (case a1 => k_is); (case l1 => k_is); (case c1 => k_is); (case k1 => k_is); (case a2 => k_is); (case l2 => k_is); (case c2 => k_is); (case k2 => k_is); (case a3 => k_is); (case l3 => k_is); (case c3 => k_is); (case k3 => k_is); (case a4 => k_is); (case l4 => k_is); (case c4 => k_is); (case k4 => k_is); (case a5 => k_is); (case l5 => k_is); (case c5 => k_is); (case k5 => k_is); (case a6 => k_is); (case l6 => k_is); (case c6 => k_is); (case k6 => k_is); (case a7 => k_is); (case l7 => k_is); (case c7 => k_is); (case k7 => k_is); (case a8 => k_is); (case l8 => k_is); (case c8 => k_is); (case k8 => k_is); (case a9 => k_is); (case l9 => k_is); (case c9 => k_is); (case k9 => k_is); (case a10 => k_is); (case l10 => k_is); (case c10 => k_is); (case k10 => k_is); (case a11 => k_is); (case l11 => k_is); (case c11 => k_is); (case k11 => k_is); (case a12 => k_is); (case l12 => k_is); (case c12 => k_is); (case k12 => k_is); (case a13 => k_is); (case l13 => k_is); (case c13 => k_is); (case k13 => k_is); (case a14 => k_is); (case l14 => k_is); (case c14 => k_is); (case k14 => k_is); (case a15 => k_is); (case l15 => k_is); (case c15 => k_is); (case k15 => k_is); (case a16 => k_is); (case l16 => k_is); (case c16 => k_is); (case k16 => k_is); (case a17 => k_is); (case l17 => k_is); (case c17 => k_is); (case k17 => k_is); (case a18 => k_is); (case l18 => k_is); (case c18 => k_is); (case k18 => k_is); (case a19 => k_is); (case l19 => k_is); (case c19 => k_is); (case k19 => k_is); (case a20 => k_is); (case l20 => k_is); (case c20 => k_is); (case k20 => k_is); (case a21 => k_is); (case l21 => k_is); (case c21 => k_is); (case k21 => k_is); (case a22 => k_is); (case l22 => k_is); (case c22 => k_is); (case k22 => k_is); (case a23 => k_is); (case l23 => k_is); (case c23 => k_is); (case k23 => k_is); (case a24 => k_is); (case l24 => k_is); (case c24 => k_is); (case k24 => k_is); (case a25 => k_is); (case l25 => k_is); (case c25 => k_is); (case k25 => k_is); (case a26 => k_is); (case l26 => k_is); (case c26 => k_is); (case k26 => k_is); (case a27 => k_is); (case l27 => k_is); (case c27 => k_is); (case k27 => k_is); (case z0 => k_is); (case z1 => k_is); (case z2 => k_is); (case z3 => k_is); (case z4 => k_is); (case z5 => k_is); (case z6 => k_is); (case z7 => k_is); (case z8 => k_is); (case z9 => k_is); (case z10 => k_is); (case z11 => k_is); (case z12 => k_is); (case z13 => k_is); (case n0 => k_is)
