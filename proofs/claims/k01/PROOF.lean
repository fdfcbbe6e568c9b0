import PyProof.Rows.All
import Wide.All
import OpenK.AllK
import Wide.FinOn
import HandS.ForMost
import HandS.Exc
import HandS.Flow
import HandS.Text
import HandS.TupAny
import HandS.IsInst
import HandS.ExcOwn
import HandS.CallSlots
import HandS.ExcIs
import HandS.Defaults
import HandS.More
import HandS.TryMany
import HandS.Iter
import HandS.TryOnly
import HandS.Style
import HandS.WordsExc
import KE.KStateDown
import HandS.Head0
import HandS.Head1
import HandS.Head2
import HandS.HeadEnd
import HandS.HeadHook1
import HandS.HeadHook2
import HandS.HeadHook3
import HandS.HeadHook4
import PySem.Challenge.RW_rowsworth_k01_coarser_kinds
section
set_option Elab.async false
set_option linter.all false
set_option maxRecDepth 100000
/-! MP: a small evaluator for the programs at hand: values, heap, forms, evaluation. -/
namespace MP
open PySem

/-- a list, a text has at most so many members -/
abbrev LIM : Nat := 16777216

/-- values: tuples by value, objects that change by their number -/
inductive D where
  | non
  | bl (b : Bool)
  | int (i : Int)
  | str (s : List Nat)
  | tup (xs : List D)
  | ref (n : Nat)
  | kd (n : Nat)
  deriving Inhabited
mutual
def D.beq : D → D → Bool
  | .non, .non => true
  | .bl a, .bl b => a == b
  | .int a, .int b => decide (a = b)
  | .str a, .str b => decide (a = b)
  | .tup a, .tup b => D.beqL a b
  | .ref a, .ref b => decide (a = b)
  | .kd a, .kd b => decide (a = b)
  | _, _ => false
def D.beqL : List D → List D → Bool
  | [], [] => true
  | a :: as, b :: bs => D.beq a b && D.beqL as bs
  | _, _ => false
end
mutual
theorem D.beq_self : ∀ a : D, D.beq a a = true
  | .non => rfl
  | .bl a => by simp [D.beq]
  | .int a => by simp [D.beq]
  | .str a => by simp [D.beq]
  | .ref a => by simp [D.beq]
  | .kd a => by simp [D.beq]
  | .tup a => by rw [D.beq]; exact D.beqL_self a
theorem D.beqL_self : ∀ a : List D, D.beqL a a = true
  | [] => rfl
  | a :: as => by rw [D.beqL, D.beq_self a, D.beqL_self as]; rfl
end
mutual
theorem D.eq_of_beq : ∀ a b : D, D.beq a b = true → a = b
  | .non, b, h => by cases b <;> first | rfl | simp [D.beq] at h
  | .bl a, b, h => by
    cases b with
    | bl c => simp [D.beq] at h; rw [h]
    | _ => simp [D.beq] at h
  | .int a, b, h => by
    cases b with
    | int c => simp [D.beq] at h; rw [h]
    | _ => simp [D.beq] at h
  | .str a, b, h => by
    cases b with
    | str c => simp [D.beq] at h; rw [h]
    | _ => simp [D.beq] at h
  | .ref a, b, h => by
    cases b with
    | ref c => simp [D.beq] at h; rw [h]
    | _ => simp [D.beq] at h
  | .kd a, b, h => by
    cases b with
    | kd c => simp [D.beq] at h; rw [h]
    | _ => simp [D.beq] at h
  | .tup a, b, h => by
    cases b with
    | tup c => rw [D.beq] at h; rw [D.eq_of_beqL a c h]
    | _ => simp [D.beq] at h
theorem D.eq_of_beqL : ∀ a b : List D, D.beqL a b = true → a = b
  | [], b, h => by cases b with
    | nil => rfl
    | cons _ _ => simp [D.beqL] at h
  | a :: as, b, h => by
    cases b with
    | nil => simp [D.beqL] at h
    | cons c cs =>
      rw [D.beqL, Bool.and_eq_true] at h
      rw [D.eq_of_beq a c h.1, D.eq_of_beqL as cs h.2]
end
instance : DecidableEq D := fun a b => if h : D.beq a b = true then Decidable.isTrue (D.eq_of_beq a b h) else Decidable.isFalse fun e => h (e ▸ D.beq_self a)

/-- objects -/
inductive O where
  | lst (xs : List D)
  | frz (xs : List D)
  | dct (kvs : List (D × D))
  | set (xs : List D)
  deriving DecidableEq
abbrev HP := List O

mutual
/-- all references are below n -/
def D.cl (n : Nat) : D → Bool
  | .ref m => decide (m < n)
  | .tup xs => D.clL n xs
  | _ => true
def D.clL (n : Nat) : List D → Bool
  | [] => true
  | x :: xs => D.cl n x && D.clL n xs
end
def O.cl (n : Nat) : O → Bool
  | .lst xs => D.clL n xs
  | .frz xs => D.clL n xs
  | .dct kvs => D.clL n (kvs.map (·.1)) && D.clL n (kvs.map (·.2))
  | .set xs => D.clL n xs

/-- an exception: its class (a name's number), its fields -/
structure Xn where
  c : Nat
  fs : List D

inductive Res (α : Type) where
  | ok (a : α) (h : HP)
  | ex (x : Xn) (h : HP)
  | bad
def Res.bind {α β : Type} (r : Res α) (f : α → HP → Res β) : Res β :=
  match r with
  | .ok a h => f a h
  | .ex x h => .ex x h
  | .bad => .bad
@[simp] theorem Res.bind_ok {α β : Type} (a : α) (h : HP) (f : α → HP → Res β) : (Res.ok a h).bind f = f a h := rfl
@[simp] theorem Res.bind_ex {α β : Type} (x : Xn) (h : HP) (f : α → HP → Res β) : (Res.ex x h : Res α).bind f = .ex x h := rfl
@[simp] theorem Res.bind_bad {α β : Type} (f : α → HP → Res β) : (Res.bad : Res α).bind f = .bad := rfl
/-- an option's value, or no result -/
def lift {α : Type} (o : Option α) (h : HP) : Res α :=
  match o with
  | some a => .ok a h
  | none => .bad
@[simp] theorem lift_some {α : Type} (a : α) (h : HP) : lift (some a) h = .ok a h := rfl
@[simp] theorem lift_none {α : Type} (h : HP) : lift (none : Option α) h = .bad := rfl

/-! ### data -/
def strOf (s : List Nat) : Str := ⟨s.toArray⟩
mutual
/-- the data that a value reads as; r reads what is referred to -/
def pyR (r : Nat → Option PyData) : D → Option PyData
  | .non => some .none
  | .bl b => some (.bool b)
  | .int i => some (.int i)
  | .str s => some (.str (strOf s))
  | .tup xs => (pyL r xs).map .tuple
  | .kd _ => none
  | .ref m => r m
def pyL (r : Nat → Option PyData) : List D → Option (List PyData)
  | [] => some []
  | x :: xs => match pyR r x, pyL r xs with
    | some y, some ys => some (y :: ys)
    | _, _ => none
end
def pyN (h : HP) : Nat → Nat → Option PyData
  | 0, _ => none
  | n + 1, m => match h[m]? with
    | some (.lst xs) => (pyL (pyN h n) xs).map .list
    | some (.frz xs) => (pyL (pyN h n) xs).map .list
    | _ => none
abbrev py (h : HP) (d : D) : Option PyData := pyR (pyN h 6) d
/-- == -/
def eqD (h : HP) (a b : D) : Option Bool :=
  match py h a, py h b with
  | some x, some y => if x.depth ≤ 64 ∧ y.depth ≤ 64 then some (PyData.eqv x y) else none
  | _, _ => none
/-- x in xs -/
def memD (h : HP) (x : D) : List D → Option Bool
  | [] => some false
  | y :: ys => match eqD h y x, memD h x ys with
    | some a, some b => some (a || b)
    | _, _ => none

/-! ### forms -/
inductive BOp where
  | add | sub | mul | fdiv | mod | pow | shl | shr | band | bor | bxor
  deriving DecidableEq
inductive COp where
  | eq | ne | lt | le | gt | ge | isNone | notNone | in_ | notIn
  deriving DecidableEq
/-- types, as isinstance asks for them -/
inductive Ty where
  | int | str | bool | tuple | list | dict | none
  deriving DecidableEq
/-- built-in functions -/
inductive BF where
  | len | abs | min2 | max2 | int1 | list1 | tuple1
  deriving DecidableEq
/-- methods of built-in types -/
inductive MF where
  | append | upper
  deriving DecidableEq
/-- what is stored to -/
inductive Tg where
  | nm (i : Nat)
  | tp (ts : List Tg)
mutual
inductive E where
  | loc (i : Nat)
  | con (d : D)
  | bin (op : BOp) (a b : E)
  | neg (a : E)
  | cmp (op : COp) (a b : E)
  | chain (o1 o2 : COp) (a b c : E)
  | and (a b : E)
  | or (a b : E)
  | not (a : E)
  | ite (c a b : E)
  | call (f : Nat) (es : EL)
  | kcall (f : Nat) (pm : List Nat) (es ks : EL)
  | kix (kvs : List (List Nat × D)) (e : E)
  | blt (f : BF) (es : EL)
  | mth (m : MF) (o : E) (es : EL)
  | tup (es : EL)
  | lst (es : EL)
  | emp
  | ix (a b : E)
  | slc (a : E) (bl bh : Bool) (lo hi : E)
  | isi (a : E) (t : List Ty)
  | lc (elt : E) (own : List Nat) (t : Tg) (w : W) (ifs : EL)
  | xis (c : Nat)
  | xf (k : Nat)
inductive EL where
  | nil
  | cons (e : E) (es : EL)
/-- what is walked -/
inductive W where
  | val (e : E)
  | rng (n : Nat) (es : EL)
  | enum (e : E)
  | zip (a b : E)
end
mutual
inductive S where
  | asg (t : Tg) (e : E)
  | asx (a i e : E)
  | exp (e : E)
  | ret (e : E)
  | ite (c : E) (a b : SL)
  | for_ (t : Tg) (w : W) (b : SL)
  | whl (c : E) (b : SL)
  | try_ (b : SL) (h : HL)
  | rse (c : Nat) (keep : Bool) (es : EL)
  | pass | brk | cont
inductive SL where
  | nil
  | cons (s : S) (t : SL)
/-- except clauses: the class, the name's slot, the suite -/
inductive HL where
  | nil
  | cons (c : Nat) (x : Option Nat) (b : SL) (t : HL)
end

/-! ### evaluation -/
structure Lo where
  v : List (Option D)
  x : Option Xn
/-- the items of a list -/
def rdL (h : HP) (m : Nat) : Option (List D) :=
  match h[m]? with
  | some (.lst xs) => some xs
  | some (.frz xs) => some xs
  | _ => none
def truthy (h : HP) : D → Option Bool
  | .non => some false
  | .bl b => some b
  | .int i => some (decide (i ≠ 0))
  | .str s => some (!s.isEmpty)
  | .tup xs => some (!xs.isEmpty)
  | .kd _ => none
  | .ref m => match h[m]? with
    | some (.lst xs) => some (!xs.isEmpty)
    | some (.frz xs) => some (!xs.isEmpty)
    | some (.dct kvs) => some (!kvs.isEmpty)
    | some (.set _) => none
    | none => none
def P64 : Int := 18446744073709551616
def opB (op : BOp) (a b : D) (h : HP) : Res D :=
  match op, a, b with
  | .add, .int i, .int j => .ok (.int (i + j)) h
  | .sub, .int i, .int j => .ok (.int (i - j)) h
  | .mul, .int i, .int j => if (-P64 < i ∧ i < P64) ∨ (-P64 < j ∧ j < P64) then .ok (.int (i * j)) h else .bad
  | .fdiv, .int i, .int j => if 0 < j ∧ j < 1073741824 then .ok (.int (i / j)) h else .bad
  | .mod, .int i, .int j => if 0 < j then .ok (.int (i % j)) h else .bad
  | .pow, .int i, .int j => if 0 ≤ j ∧ j ≤ 1000000 ∧ i.natAbs < 18446744073709551616 then .ok (.int (i ^ j.toNat)) h else .bad
  | .add, .str x, .str y => if x.length + y.length ≤ LIM then .ok (.str (x ++ y)) h else .bad
  | .add, .tup x, .tup y => if x.length + y.length ≤ LIM then .ok (.tup (x ++ y)) h else .bad
  | .add, .ref m, .ref n => match h[m]?, h[n]? with
    | some (.lst x), some (.lst y) => if x.length + y.length ≤ LIM then .ok (.ref h.length) (h ++ [.lst (x ++ y)]) else .bad
    | _, _ => .bad
  | _, _, _ => .bad
def keyOk : D → Bool
  | .non => true
  | .int _ => true
  | .str _ => true
  | _ => false
def opC (op : COp) (a b : D) (h : HP) : Option Bool :=
  match op with
  | .eq => eqD h a b
  | .ne => (eqD h a b).map (!·)
  | .lt => match a, b with
    | .int i, .int j => some (decide (i < j))
    | .str i, .str j => some (decide (i < j))
    | _, _ => none
  | .le => match a, b with
    | .int i, .int j => some (decide (i ≤ j))
    | _, _ => none
  | .gt => match a, b with
    | .int i, .int j => some (decide (j < i))
    | _, _ => none
  | .ge => match a, b with
    | .int i, .int j => some (decide (j ≤ i))
    | _, _ => none
  | .isNone => some (decide (a = .non))
  | .notNone => some (decide (a ≠ .non))
  | .in_ => match b with
    | .tup ys => memD h a ys
    | .ref m => match rdL h m with
      | some ys => memD h a ys
      | none => none
    | _ => none
  | .notIn => match b with
    | .tup ys => (memD h a ys).map (!·)
    | .ref m => match rdL h m with
      | some ys => (memD h a ys).map (!·)
      | none => none
    | _ => none
def opIx (a b : D) (h : HP) : Option D :=
  match a, b with
  | .tup xs, .int i => (L2.ixN xs.length i).bind fun k => xs[k]?
  | .str s, .int i => ((L2.ixN s.length i).bind fun k => s[k]?).map fun c => .str [c]
  | .ref m, .int i => (rdL h m).bind fun xs => (L2.ixN xs.length i).bind fun k => xs[k]?
  | _, _ => none
/-- a slice's part: left out, or an int -/
def sPart : Bool → D → Option (Option Int)
  | false, _ => some none
  | true, .int i => some (some i)
  | true, _ => none
def cut {α : Type} (xs : List α) (lo hi : Option Int) : List α := (xs.drop (HT.sIx xs.length 0 lo)).take (HT.sIx xs.length xs.length hi - HT.sIx xs.length 0 lo)
def opSl (a : D) (lo hi : Option Int) (h : HP) : Res D :=
  match a with
  | .tup xs => .ok (.tup (cut xs lo hi)) h
  | .str s => .ok (.str (cut s lo hi)) h
  | .ref m => match rdL h m with
    | some xs => .ok (.ref h.length) (h ++ [.lst (cut xs lo hi)])
    | none => .bad
  | _ => .bad
def isTy (h : HP) (a : D) (t : Ty) : Bool :=
  match t, a with
  | .int, .int _ => true
  | .int, .bl _ => true
  | .bool, .bl _ => true
  | .str, .str _ => true
  | .tuple, .tup _ => true
  | .none, .non => true
  | .list, .ref m => match h[m]? with
    | some (.lst _) => true
    | some (.frz _) => true
    | _ => false
  | .dict, .ref m => match h[m]? with
    | some (.dct _) => true
    | _ => false
  | _, _ => false
/-- the type of a value, by its name -/
def dTy (h : HP) : D → Option Ty
  | .non => some .none
  | .bl _ => some .bool
  | .int _ => some .int
  | .str _ => some .str
  | .tup _ => some .tuple
  | .kd _ => none
  | .ref m => match h[m]? with
    | some (.lst _) => some .list
    | some (.frz _) => some .list
    | some (.dct _) => some .dict
    | _ => none
def upC (c : Nat) : Nat := if 97 ≤ c ∧ c ≤ 122 then c - 32 else c
def ascii (s : List Nat) : Bool := s.all fun c => decide (c < 128)
/-- a written dict's value -/
def kget (kvs : List (List Nat × D)) : D → Option D
  | .str s => kvs.lookup s
  | _ => none
def evB (f : BF) (ds : List D) (h : HP) : Res D :=
  match f, ds with
  | .len, [.str s] => .ok (.int s.length) h
  | .len, [.tup xs] => .ok (.int xs.length) h
  | .len, [.ref m] => match h[m]? with
    | some (.lst xs) => .ok (.int xs.length) h
    | some (.frz xs) => .ok (.int xs.length) h
    | _ => .bad
  | .abs, [.int i] => .ok (.int (if i < 0 then -i else i)) h
  | .min2, [.int i, .int j] => .ok (.int (if j < i then j else i)) h
  | .max2, [.int i, .int j] => .ok (.int (if j > i then j else i)) h
  | .int1, [.int i] => .ok (.int i) h
  | .list1, [.tup xs] => .ok (.ref h.length) (h ++ [.lst xs])
  | .list1, [.ref m] => match rdL h m with
    | some xs => .ok (.ref h.length) (h ++ [.lst xs])
    | none => .bad
  | .tuple1, [.ref m] => match rdL h m with
    | some xs => .ok (.tup xs) h
    | none => .bad
  | .tuple1, [.tup xs] => .ok (.tup xs) h
  | _, _ => .bad
/-- types that have methods -/
inductive MT where
  | str | list | dict | tuple | set
  deriving DecidableEq
def tyM (h : HP) : D → Option MT
  | .str _ => some .str
  | .ref m => match h[m]? with
    | some (.lst _) => some .list
    | some (.dct _) => some .dict
    | _ => none
  | _ => none
/-- the types that have the method -/
def okM : MF → List MT
  | .append => [.list]
  | .upper => [.str]
/-- has the value such a method? -/
def hasM (m : MF) (h : HP) (d : D) : Bool := match tyM h d with
  | some t => (okM m).contains t
  | none => false
def evM (m : MF) (o : D) (ds : List D) (h : HP) : Res D :=
  match m, o, ds with
  | .append, .ref p, [d] => match h[p]? with
    | some (.lst xs) => if xs.length < LIM then .ok .non (h.set p (.lst (xs ++ [d]))) else .bad
    | _ => .bad
  | .upper, .str s, [] => if ascii s = true ∧ s.length ≤ 5592405 then .ok (.str (s.map upC)) h else .bad
  | _, _, _ => .bad
def watchOk (ws : List (Nat × O)) (h : HP) : Bool := ws.all fun w => decide (h[w.1]? = some w.2)
/-- what a value walks: its items, the objects that must stay -/
def walk (h : HP) : D → Option (List D × List (Nat × O))
  | .tup xs => some (xs, [])
  | .str s => some (s.map fun c => .str [c], [])
  | .ref m => match h[m]? with
    | some (.lst xs) => some (xs, [(m, .lst xs)])
    | some (.frz xs) => some (xs, [(m, .frz xs)])
    | _ => none
  | _ => none
/-- a list that is walked in pairs -/
def walkL (h : HP) : D → Option (List D × List (Nat × O))
  | .ref m => match h[m]? with
    | some (.lst xs) => some (xs, [(m, .lst xs)])
    | some (.frz xs) => some (xs, [(m, .frz xs)])
    | _ => none
  | _ => none
def upto (lo : Int) : Nat → List D
  | 0 => []
  | n + 1 => .int lo :: upto (lo + 1) n
def rng : List D → Option (List D)
  | [.int n] => if -4611686018427387904 ≤ n ∧ n < 4611686018427387904 then some (upto 0 n.toNat) else none
  | [.int a, .int n] => if -4611686018427387904 ≤ a ∧ a < 4611686018427387904 ∧ -4611686018427387904 ≤ n ∧ n < 4611686018427387904 then some (upto a (n - a).toNat) else none
  | _ => none
def nums (i : Nat) : List D → List D
  | [] => []
  | x :: xs => .tup [.int i, x] :: nums (i + 1) xs
def zipD : List D → List D → List D
  | x :: xs, y :: ys => .tup [x, y] :: zipD xs ys
  | _, _ => []
mutual
def bindT (h : HP) : Tg → D → List (Option D) → Option (List (Option D))
  | .nm i, d, ls => if i < ls.length then some (ls.set i (some d)) else none
  | .tp ts, .tup ds, ls => bindTs h ts ds ls
  | .tp ts, .ref m, ls => match rdL h m with
    | some ds => bindTs h ts ds ls
    | none => none
  | .tp _, _, _ => none
def bindTs (h : HP) : List Tg → List D → List (Option D) → Option (List (Option D))
  | [], [], ls => some ls
  | t :: ts, d :: ds, ls => match bindT h t d ls with
    | some ls => bindTs h ts ds ls
    | none => none
  | _, _, _ => none
end
def wipeL (ls : List (Option D)) : List Nat → List (Option D)
  | [] => ls
  | v :: vs => (wipeL ls vs).set v none
section
variable (cf : Nat → List D → HP → Res D) (sub : Nat → Nat → Bool)
/-- a comprehension's turns -/
def lcGo (tst : List (Option D) → HP → Res Bool) (elt : List (Option D) → HP → Res D) (t : Tg) (ws : List (Nat × O)) (ls : List (Option D)) : List D → List D → HP → Res (List D)
  | [], acc, h => if watchOk ws h then .ok acc h else .bad
  | x :: xs, acc, h => if watchOk ws h then
      (match bindT h t x ls with
      | some ls' => (match tst ls' h with
        | .ok true h' => (match elt ls' h' with
          | .ok y h'' => lcGo tst elt t ws ls xs (acc ++ [y]) h''
          | _ => .bad)
        | .ok false h' => lcGo tst elt t ws ls xs acc h'
        | _ => .bad)
      | none => .bad)
    else .bad
mutual
def evE : E → Lo → HP → Res D
  | .loc i, ls, h => match ls.v[i]? with
    | some (some d) => .ok d h
    | _ => .bad
  | .con d, _, h => .ok d h
  | .bin op a b, ls, h => (evE a ls h).bind fun x h => (evE b ls h).bind fun y h => opB op x y h
  | .neg a, ls, h => (evE a ls h).bind fun x h => match x with
    | .int i => .ok (.int (-i)) h
    | _ => .bad
  | .cmp op a b, ls, h => (evE a ls h).bind fun x h => (evE b ls h).bind fun y h => (lift (opC op x y h) h).bind fun r h => .ok (.bl r) h
  | .chain o1 o2 a b c, ls, h => (evE a ls h).bind fun x h => (evE b ls h).bind fun y h => (lift (opC o1 x y h) h).bind fun r h =>
      if r = true then (evE c ls h).bind fun z h => (lift (opC o2 y z h) h).bind fun r h => .ok (.bl r) h else .ok (.bl false) h
  | .and a b, ls, h => (evE a ls h).bind fun x h => (lift (truthy h x) h).bind fun r h => if r = true then evE b ls h else .ok x h
  | .or a b, ls, h => (evE a ls h).bind fun x h => (lift (truthy h x) h).bind fun r h => if r = true then .ok x h else evE b ls h
  | .not a, ls, h => (evE a ls h).bind fun x h => (lift (truthy h x) h).bind fun r h => .ok (.bl (!r)) h
  | .ite c a b, ls, h => (evE c ls h).bind fun x h => (lift (truthy h x) h).bind fun r h => if r = true then evE a ls h else evE b ls h
  | .call f es, ls, h => (evL es ls h).bind fun ds h => cf f ds h
  | .kcall f pm es ks, ls, h => (evL es ls h).bind fun ds h => (evL ks ls h).bind fun us h => cf f (ds ++ pm.filterMap (us[·]?)) h
  | .kix kvs e, ls, h => (evE e ls h).bind fun x h => lift (kget kvs x) h
  | .blt f es, ls, h => (evL es ls h).bind fun ds h => evB f ds h
  | .mth m o es, ls, h => (evE o ls h).bind fun x h => if hasM m h x = true then (evL es ls h).bind fun ds h => evM m x ds h else .bad
  | .tup es, ls, h => (evL es ls h).bind fun ds h => if ds.length ≤ LIM then .ok (.tup ds) h else .bad
  | .lst es, ls, h => (evL es ls h).bind fun ds h => if ds.length ≤ LIM then .ok (.ref h.length) (h ++ [.lst ds]) else .bad
  | .emp, _, h => .ok (.ref h.length) (h ++ [.dct []])
  | .ix a b, ls, h => (evE a ls h).bind fun x h => (evE b ls h).bind fun y h => lift (opIx x y h) h
  | .slc a bl bh lo hi, ls, h => (evE a ls h).bind fun x h => (evE lo ls h).bind fun y h => (lift (sPart bl y) h).bind fun p h => (evE hi ls h).bind fun z h => (lift (sPart bh z) h).bind fun q h => opSl x p q h
  | .isi a ts, ls, h => (evE a ls h).bind fun x h => if (dTy h x).isSome = true then .ok (.bl (ts.any (isTy h x))) h else .bad
  | .lc elt own t w ifs, ls, h => (evW w ls h).bind fun iw h =>
      (lcGo (fun l h => evTs ifs ⟨l, ls.x⟩ h) (fun l h => evE elt ⟨l, ls.x⟩ h) t iw.2 (wipeL ls.v own) iw.1 [] h).bind fun ys h =>
        if ys.length ≤ LIM then .ok (.ref h.length) (h ++ [.lst ys]) else .bad
  | .xis c, ls, h => match ls.x with
    | some x => if x.fs.isEmpty = true then .ok (.bl (sub x.c c)) h else .bad
    | none => .bad
  | .xf k, ls, h => match ls.x with
    | some x => lift x.fs[k]? h
    | none => .bad
def evL : EL → Lo → HP → Res (List D)
  | .nil, _, h => .ok [] h
  | .cons e es, ls, h => (evE e ls h).bind fun x h => (evL es ls h).bind fun xs h => .ok (x :: xs) h
def evTs : EL → Lo → HP → Res Bool
  | .nil, _, h => .ok true h
  | .cons e es, ls, h => (evE e ls h).bind fun x h => (lift (truthy h x) h).bind fun r h => if r = true then evTs es ls h else .ok false h
def evW : W → Lo → HP → Res (List D × List (Nat × O))
  | .val e, ls, h => (evE e ls h).bind fun x h => lift (walk h x) h
  | .rng n es, ls, h => (evL es ls h).bind fun ds h => if ds.length = n then lift ((rng ds).map fun xs => (xs, [])) h else .bad
  | .enum e, ls, h => (evE e ls h).bind fun x h => lift ((walkL h x).map fun p => (nums 0 p.1, p.2)) h
  | .zip a b, ls, h => (evE a ls h).bind fun x h => (evE b ls h).bind fun y h =>
      match walkL h x, walkL h y with
      | some p, some q => .ok (zipD p.1 q.1, p.2 ++ q.2) h
      | _, _ => .bad
end
inductive Out where
  | nx (ls : Lo) (h : HP)
  | rt (d : D) (h : HP)
  | bk (ls : Lo) (h : HP)
  | ct (ls : Lo) (h : HP)
  | ex (x : Xn) (ls : Lo) (h : HP)
  | bad
/-- an expression's result, then a statement's -/
def Res.out {α : Type} (r : Res α) (ls : Lo) (f : α → HP → Out) : Out :=
  match r with
  | .ok a h => f a h
  | .ex x h => .ex x ls h
  | .bad => .bad
@[simp] theorem Res.out_ok {α : Type} (a : α) (h : HP) (ls : Lo) (f : α → HP → Out) : (Res.ok a h).out ls f = f a h := rfl
@[simp] theorem Res.out_ex {α : Type} (x : Xn) (h : HP) (ls : Lo) (f : α → HP → Out) : (Res.ex x h : Res α).out ls f = .ex x ls h := rfl
@[simp] theorem Res.out_bad {α : Type} (ls : Lo) (f : α → HP → Out) : (Res.bad : Res α).out ls f = .bad := rfl
/-- one statement, then the others -/
def Out.then (o : Out) (f : Lo → HP → Out) : Out :=
  match o with
  | .nx ls h => f ls h
  | o => o
/-- a for loop's turns -/
def forGo (body : Lo → HP → Out) (t : Tg) (ws : List (Nat × O)) : List D → Lo → HP → Out
  | [], ls, h => if watchOk ws h then .nx ls h else .bad
  | x :: xs, ls, h => if watchOk ws h then
      (match bindT h t x ls.v with
      | some v => (match body ⟨v, ls.x⟩ h with
        | .nx ls h => forGo body t ws xs ls h
        | .ct ls h => forGo body t ws xs ls h
        | .bk ls h => .nx ls h
        | o => o)
      | none => .bad)
    else .bad
/-- a while loop's turns, at most n -/
def whGo (test : Lo → HP → Res Bool) (body : Lo → HP → Out) : Nat → Lo → HP → Out
  | 0, _, _ => .bad
  | n + 1, ls, h => (test ls h).out ls fun r h => if r = true then
      (match body ls h with
      | .nx ls h => whGo test body n ls h
      | .ct ls h => whGo test body n ls h
      | .bk ls h => .nx ls h
      | o => o)
    else .nx ls h
variable (wf : Nat)
mutual
def exS : S → Lo → HP → Out
  | .asg t e, ls, h => (evE cf sub e ls h).out ls fun x h => match bindT h t x ls.v with
    | some v => .nx ⟨v, ls.x⟩ h
    | none => .bad
  | .asx a i e, ls, h => (evE cf sub e ls h).out ls fun y h => (evE cf sub a ls h).out ls fun x h => (evE cf sub i ls h).out ls fun k h =>
      match x, k with
      | .ref m, .int k => (match h[m]? with
        | some (.lst xs) => (match L2.ixN xs.length k with
          | some j => .nx ls (h.set m (.lst (xs.set j y)))
          | none => .bad)
        | _ => .bad)
      | _, _ => .bad
  | .exp e, ls, h => (evE cf sub e ls h).out ls fun _ h => .nx ls h
  | .ret e, ls, h => (evE cf sub e ls h).out ls fun x h => .rt x h
  | .ite c a b, ls, h => (evE cf sub c ls h).out ls fun x h => (lift (truthy h x) h).out ls fun r h => if r = true then exL a ls h else exL b ls h
  | .for_ t w b, ls, h => (evW cf sub w ls h).out ls fun iw h => forGo (fun l h => exL b l h) t iw.2 iw.1 ls h
  | .whl c b, ls, h => whGo (fun l h => (evE cf sub c l h).bind fun x h => lift (truthy h x) h) (fun l h => exL b l h) wf ls h
  | .try_ b hs, ls, h => match exL b ls h with
    | .ex x ls h => exH hs x ls h
    | o => o
  | .rse c keep es, ls, h => (evL cf sub es ls h).out ls fun ds h => .ex ⟨c, if keep = true then ds else []⟩ ls h
  | .pass, ls, h => .nx ls h
  | .brk, ls, h => .bk ls h
  | .cont, ls, h => .ct ls h
def exL : SL → Lo → HP → Out
  | .nil, ls, h => .nx ls h
  | .cons s t, ls, h => (exS s ls h).then fun ls h => exL t ls h
def exH : HL → Xn → Lo → HP → Out
  | .nil, x, ls, h => .ex x ls h
  | .cons c n b t, x, ls, h => if sub x.c c = true then
      (match n with
      | none => (match exL b ⟨ls.v, some x⟩ h with
        | .nx l h => .nx ⟨l.v, ls.x⟩ h
        | .bk l h => .bk ⟨l.v, ls.x⟩ h
        | .ct l h => .ct ⟨l.v, ls.x⟩ h
        | .rt d h => .rt d h
        | _ => .bad)
      | some i => if i < ls.v.length then (match exL b ⟨ls.v.set i none, some x⟩ h with
        | .nx l h => .nx ⟨l.v.set i none, ls.x⟩ h
        | .bk l h => .bk ⟨l.v.set i none, ls.x⟩ h
        | .ct l h => .ct ⟨l.v.set i none, ls.x⟩ h
        | .rt d h => .rt d h
        | _ => .bad) else .bad)
    else exH t x ls h
end
end
/-! ### defs -/
structure Fn where
  np : Nat
  ns : Nat
  body : SL
structure Pg where
  fns : List Fn
  sub : Nat → Nat → Bool
def gcOk (h h' : HP) : Bool := decide (h.length ≤ h'.length) && ((h'.take h.length).zip h).all fun p => decide (p.1 = p.2) || p.1.cl h.length
/-- behind a call: what nothing leads to any more is forgotten -/
def gc (h : HP) (d : D) (h' : HP) : Res D :=
  if gcOk h h' = true then
    if d.cl h.length = true then .ok d (h'.take h.length)
    else match d with
      | .ref m => (match h'[m]? with
        | some o => if h.length ≤ m ∧ o.cl h.length = true then .ok (.ref h.length) (h'.take h.length ++ [o]) else .ok d h'
        | none => .ok d h')
      | _ => .ok d h'
  else .ok d h'
def gcX (h : HP) (x : Xn) (h' : HP) : Res D :=
  if gcOk h h' = true ∧ D.clL h.length x.fs = true then .ex x (h'.take h.length) else .ex x h'
def run (P : Pg) (wf : Nat) : Nat → Nat → List D → HP → Res D
  | 0, _, _, _ => .bad
  | k + 1, f, ds, h => match P.fns[f]? with
    | some fn => if ds.length = fn.np then
        (match exL (run P wf k) P.sub wf fn.body ⟨ds.map some ++ List.replicate (fn.ns - fn.np) none, none⟩ h with
        | .nx _ h' => gc h .non h'
        | .rt d h' => gc h d h'
        | .ex x _ h' => gcX h x h'
        | _ => .bad)
      else .bad
    | none => .bad
end MP

end
section
set_option Elab.async false
set_option linter.all false
set_option maxRecDepth 100000
set_option maxHeartbeats 1000000
/-! MP: a run over a part of the heap is a run over the whole. -/
namespace MP
open PySem
/-! ### other numbers -/
mutual
def rD (r : Nat → Nat) : D → D
  | .ref m => .ref (r m)
  | .tup xs => .tup (rL r xs)
  | .non => .non
  | .bl b => .bl b
  | .int i => .int i
  | .str s => .str s
  | .kd n => .kd n
def rL (r : Nat → Nat) : List D → List D
  | [] => []
  | x :: xs => rD r x :: rL r xs
end
theorem rL_map {r : Nat → Nat} : ∀ {xs : List D}, rL r xs = xs.map (rD r)
  | [] => rfl
  | x :: xs => by rw [rL, List.map_cons, rL_map]
@[simp] theorem rD_non {r : Nat → Nat} : rD r .non = .non := by rw [rD]
@[simp] theorem rD_bl {r : Nat → Nat} {b : Bool} : rD r (.bl b) = .bl b := by rw [rD]
@[simp] theorem rD_int {r : Nat → Nat} {i : Int} : rD r (.int i) = .int i := by rw [rD]
@[simp] theorem rD_str {r : Nat → Nat} {s : List Nat} : rD r (.str s) = .str s := by rw [rD]
@[simp] theorem rD_kd {r : Nat → Nat} {n : Nat} : rD r (.kd n) = .kd n := by rw [rD]
@[simp] theorem rD_ref {r : Nat → Nat} {n : Nat} : rD r (.ref n) = .ref (r n) := by rw [rD]
@[simp] theorem rD_tup {r : Nat → Nat} {xs : List D} : rD r (.tup xs) = .tup (xs.map (rD r)) := by rw [rD, rL_map]
def rO (r : Nat → Nat) : O → O
  | .lst xs => .lst (xs.map (rD r))
  | .frz xs => .frz (xs.map (rD r))
  | .dct kvs => .dct (kvs.map fun p => (rD r p.1, rD r p.2))
  | .set xs => .set (xs.map (rD r))
def rX (r : Nat → Nat) (x : Xn) : Xn := ⟨x.c, x.fs.map (rD r)⟩
def rV (r : Nat → Nat) (v : List (Option D)) : List (Option D) := v.map (Option.map (rD r))
def rLo (r : Nat → Nat) (lo : Lo) : Lo := ⟨rV r lo.v, lo.x.map (rX r)⟩
def rW (r : Nat → Nat) (ws : List (Nat × O)) : List (Nat × O) := ws.map fun w => (r w.1, rO r w.2)
mutual
/-- names no object -/
def D.nr : D → Bool
  | .ref _ => false
  | .tup xs => D.nrL xs
  | _ => true
def D.nrL : List D → Bool
  | [] => true
  | x :: xs => D.nr x && D.nrL xs
end
mutual
theorem nr_id {r : Nat → Nat} : ∀ {d : D}, d.nr = true → rD r d = d
  | .non, _ => rD_non
  | .bl _, _ => rD_bl
  | .int _, _ => rD_int
  | .str _, _ => rD_str
  | .kd _, _ => rD_kd
  | .ref _, h => by cases h
  | .tup xs, h => by
    rw [rD_tup]
    rw [D.nr] at h
    rw [nrL_id h]
theorem nrL_id {r : Nat → Nat} : ∀ {xs : List D}, D.nrL xs = true → xs.map (rD r) = xs
  | [], _ => rfl
  | x :: xs, h => by
    rw [D.nrL, Bool.and_eq_true] at h
    rw [List.map_cons, nr_id h.1, nrL_id h.2]
end
mutual
def E.nr : E → Bool
  | .con d => d.nr
  | .bin _ a b => a.nr && b.nr
  | .neg a => a.nr
  | .cmp _ a b => a.nr && b.nr
  | .chain _ _ a b c => a.nr && (b.nr && c.nr)
  | .and a b => a.nr && b.nr
  | .or a b => a.nr && b.nr
  | .not a => a.nr
  | .ite a b c => a.nr && (b.nr && c.nr)
  | .call _ es => es.nr
  | .kcall _ _ es ks => es.nr && ks.nr
  | .kix kvs e => kvs.all (fun p => p.2.nr) && e.nr
  | .blt _ es => es.nr
  | .mth _ o es => o.nr && es.nr
  | .tup es => es.nr
  | .lst es => es.nr
  | .ix a b => a.nr && b.nr
  | .slc a _ _ l h => a.nr && (l.nr && h.nr)
  | .isi a _ => a.nr
  | .lc e _ _ w i => e.nr && (w.nr && i.nr)
  | _ => true
def EL.nr : EL → Bool
  | .nil => true
  | .cons e es => e.nr && es.nr
def W.nr : W → Bool
  | .val e => e.nr
  | .rng _ es => es.nr
  | .enum e => e.nr
  | .zip a b => a.nr && b.nr
end
mutual
def S.nr : S → Bool
  | .asg _ e => e.nr
  | .asx a i e => a.nr && (i.nr && e.nr)
  | .exp e => e.nr
  | .ret e => e.nr
  | .ite c a b => c.nr && (a.nr && b.nr)
  | .for_ _ w b => w.nr && b.nr
  | .whl c b => c.nr && b.nr
  | .try_ b h => b.nr && h.nr
  | .rse _ _ es => es.nr
  | _ => true
def SL.nr : SL → Bool
  | .nil => true
  | .cons s t => s.nr && t.nr
def HL.nr : HL → Bool
  | .nil => true
  | .cons _ _ b t => b.nr && t.nr
end
/-! ### a part of the heap -/
structure Rn (r : Nat → Nat) (n0 m0 : Nat) : Prop where
  lo : ∀ i, i < n0 → r i < m0
  hi : ∀ i, n0 ≤ i → r i = m0 + (i - n0)
  inj : ∀ i j, r i = r j → i = j
structure Sm (r : Nat → Nat) (n0 m0 : Nat) (h0 hp h : HP) : Prop where
  le : n0 ≤ hp.length
  len : h.length = m0 + (hp.length - n0)
  obj : ∀ (i : Nat) o, hp[i]? = some o → h[r i]? = some (rO r o)
  fr : ∀ m, m < m0 → (∀ i, i < n0 → r i ≠ m) → h[m]? = h0[m]?
section
variable {r : Nat → Nat} {n0 m0 : Nat} {h0 : HP}
theorem Sm.lt (R : Rn r n0 m0) {hp h : HP} (s : Sm r n0 m0 h0 hp h) (i : Nat) : r i < h.length ↔ i < hp.length := by
  have := s.len
  have := s.le
  by_cases hi : i < n0
  · have := R.lo i hi
    constructor <;> intro <;> omega
  · have := R.hi i (by omega)
    constructor <;> intro <;> omega
theorem Sm.end_ (R : Rn r n0 m0) {hp h : HP} (s : Sm r n0 m0 h0 hp h) : r hp.length = h.length := by
  rw [R.hi _ s.le, s.len]
mutual
theorem cl_ren {n m : Nat} (hlt : ∀ i, r i < m ↔ i < n) : ∀ (d : D), (rD r d).cl m = d.cl n
  | .non => by rw [rD_non]; rfl
  | .bl _ => by rw [rD_bl]; rfl
  | .int _ => by rw [rD_int]; rfl
  | .str _ => by rw [rD_str]; rfl
  | .kd _ => by rw [rD_kd]; rfl
  | .ref i => by
    rw [rD_ref, D.cl, D.cl]
    exact decide_eq_decide.mpr (hlt i)
  | .tup xs => by
    rw [rD_tup, D.cl, D.cl]
    exact clL_ren hlt xs
theorem clL_ren {n m : Nat} (hlt : ∀ i, r i < m ↔ i < n) : ∀ (xs : List D), D.clL m (xs.map (rD r)) = D.clL n xs
  | [] => rfl
  | x :: xs => by
    rw [List.map_cons, D.clL, D.clL, cl_ren hlt x, clL_ren hlt xs]
end
theorem clO_ren {n m : Nat} (hlt : ∀ i, r i < m ↔ i < n) (o : O) : (rO r o).cl m = o.cl n := by
  cases o with
  | lst xs => exact clL_ren hlt xs
  | frz xs => exact clL_ren hlt xs
  | set xs => exact clL_ren hlt xs
  | dct kvs =>
    simp only [rO, O.cl, List.map_map]
    have e1 : (kvs.map ((fun x => x.1) ∘ fun p => (rD r p.1, rD r p.2))) = (kvs.map (·.1)).map (rD r) := by simp [Function.comp_def]
    have e2 : (kvs.map ((fun x => x.2) ∘ fun p => (rD r p.1, rD r p.2))) = (kvs.map (·.2)).map (rD r) := by simp [Function.comp_def]
    rw [e1, e2, clL_ren hlt, clL_ren hlt]
mutual
theorem rD_inj (hi : ∀ i j, r i = r j → i = j) : ∀ (a b : D), rD r a = rD r b → a = b
  | .non, b, h => by cases b <;> simp at h <;> rfl
  | .bl _, b, h => by cases b <;> simp at h <;> rw [h]
  | .int _, b, h => by cases b <;> simp at h <;> rw [h]
  | .str _, b, h => by cases b <;> simp at h <;> rw [h]
  | .kd _, b, h => by cases b <;> simp at h <;> rw [h]
  | .ref i, b, h => by
    cases b with
    | ref j =>
      simp at h
      rw [hi i j h]
    | _ => simp at h
  | .tup xs, b, h => by
    cases b with
    | tup ys =>
      simp at h
      rw [rL_inj hi xs ys h]
    | _ => simp at h
theorem rL_inj (hi : ∀ i j, r i = r j → i = j) : ∀ (a b : List D), a.map (rD r) = b.map (rD r) → a = b
  | [], b, h => by
    cases b with
    | nil => rfl
    | cons _ _ => simp at h
  | x :: xs, b, h => by
    cases b with
    | nil => simp at h
    | cons y ys =>
      rw [List.map_cons, List.map_cons] at h
      injection h with h1 h2
      rw [rD_inj hi x y h1, rL_inj hi xs ys h2]
end
theorem rP_inj (hi : ∀ i j, r i = r j → i = j) : ∀ (a b : List (D × D)), a.map (fun p => (rD r p.1, rD r p.2)) = b.map (fun p => (rD r p.1, rD r p.2)) → a = b
  | [], b, h => by
    cases b with
    | nil => rfl
    | cons _ _ => simp at h
  | (x, x') :: xs, b, h => by
    cases b with
    | nil => simp at h
    | cons y ys =>
      obtain ⟨y, y'⟩ := y
      rw [List.map_cons, List.map_cons] at h
      injection h with h1 h2
      injection h1 with h3 h4
      rw [rD_inj hi x y h3, rD_inj hi x' y' h4, rP_inj hi xs ys h2]
theorem rO_inj (hi : ∀ i j, r i = r j → i = j) (a b : O) (h : rO r a = rO r b) : a = b := by
  cases a <;> cases b <;> simp only [rO, O.lst.injEq, O.frz.injEq, O.set.injEq, O.dct.injEq] at h <;> first | (cases h; done) | skip
  · rw [rL_inj hi _ _ h]
  · rw [rL_inj hi _ _ h]
  · rw [rP_inj hi _ _ h]
  · rw [rL_inj hi _ _ h]
theorem rO_eq (hi : ∀ i j, r i = r j → i = j) (a b : O) : decide (rO r a = rO r b) = decide (a = b) := decide_eq_decide.mpr ⟨rO_inj hi a b, fun e => by rw [e]⟩
theorem Sm.new (R : Rn r n0 m0) {hp h : HP} (s : Sm r n0 m0 h0 hp h) (o : O) : Sm r n0 m0 h0 (hp ++ [o]) (h ++ [rO r o]) where
  le := by rw [List.length_append]; have := s.le; omega
  len := by
    rw [List.length_append, List.length_append, s.len]
    have := s.le
    simp only [List.length_singleton]
    omega
  obj := fun i o' e => by
    by_cases hi : i < hp.length
    · rw [List.getElem?_append_left hi] at e
      rw [List.getElem?_append_left ((s.lt R i).mpr hi)]
      exact s.obj i o' e
    · have hl := (List.getElem?_eq_some_iff.mp e).1
      rw [List.length_append, List.length_singleton] at hl
      have : i = hp.length := by omega
      subst this
      rw [List.getElem?_append_right (Nat.le_refl _), Nat.sub_self] at e
      simp at e
      subst e
      rw [s.end_ R, List.getElem?_append_right (Nat.le_refl _), Nat.sub_self]
      rfl
  fr := fun m hm hn => by
    rw [List.getElem?_append_left (by have := s.len; omega)]
    exact s.fr m hm hn
theorem Sm.set (R : Rn r n0 m0) {hp h : HP} (s : Sm r n0 m0 h0 hp h) {m : Nat} (hm : m < hp.length) (o : O) : Sm r n0 m0 h0 (hp.set m o) (h.set (r m) (rO r o)) where
  le := by rw [List.length_set]; exact s.le
  len := by rw [List.length_set, List.length_set]; exact s.len
  obj := fun i o' e => by
    by_cases hi : i = m
    · subst hi
      rw [List.getElem?_set_self hm] at e
      cases e
      rw [List.getElem?_set_self ((s.lt R i).mpr hm)]
    · rw [List.getElem?_set_ne (Ne.symm hi)] at e
      rw [List.getElem?_set_ne fun q => hi (R.inj _ _ q).symm]
      exact s.obj i o' e
  fr := fun k hk hn => by
    have : r m ≠ k := by
      by_cases h1 : m < n0
      · exact hn m h1
      · have := R.hi m (by omega)
        omega
    rw [List.getElem?_set_ne this]
    exact s.fr k hk hn
theorem Sm.take (R : Rn r n0 m0) {hp h hp' h' : HP} (s : Sm r n0 m0 h0 hp h) (s' : Sm r n0 m0 h0 hp' h') (hl : hp.length ≤ hp'.length) : Sm r n0 m0 h0 (hp'.take hp.length) (h'.take h.length) where
  le := by rw [List.length_take, Nat.min_eq_left hl]; exact s.le
  len := by
    have h1 := s.len
    have h2 := s'.len
    have h3 := s.le
    rw [List.length_take, List.length_take, Nat.min_eq_left hl, Nat.min_eq_left (by omega)]
    exact h1
  obj := fun i o e => by
    have hi : i < hp.length := by
      have := (List.getElem?_eq_some_iff.mp e).1
      rw [List.length_take] at this
      omega
    rw [List.getElem?_take_of_lt hi] at e
    rw [List.getElem?_take_of_lt ((s.lt R i).mpr hi)]
    exact s'.obj i o e
  fr := fun m hm hn => by
    rw [List.getElem?_take_of_lt (by have := s.len; omega)]
    exact s'.fr m hm hn
/-! ### results -/
variable (r n0 m0 h0) in
def RS {α : Type} (f : α → α) (a b : Res α) : Prop :=
  match a with
  | .ok d hp => ∃ h, b = .ok (f d) h ∧ Sm r n0 m0 h0 hp h
  | .ex x hp => ∃ h, b = .ex (rX r x) h ∧ Sm r n0 m0 h0 hp h
  | .bad => True
theorem RS.bind {α β : Type} {f : α → α} {g : β → β} {a b : Res α} {k k' : α → HP → Res β} (h1 : RS r n0 m0 h0 f a b) (h2 : ∀ d hp h, Sm r n0 m0 h0 hp h → RS r n0 m0 h0 g (k d hp) (k' (f d) h)) : RS r n0 m0 h0 g (a.bind k) (b.bind k') := by
  cases a with
  | bad => trivial
  | ex x hp =>
    obtain ⟨h, e, s⟩ := h1
    rw [e]
    exact ⟨h, rfl, s⟩
  | ok d hp =>
    obtain ⟨h, e, s⟩ := h1
    rw [e]
    exact h2 d hp h s
theorem RS.ok {α : Type} {f : α → α} {d : α} {hp h : HP} (s : Sm r n0 m0 h0 hp h) : RS r n0 m0 h0 f (.ok d hp) (.ok (f d) h) := ⟨h, rfl, s⟩
theorem RS.ok' {α : Type} {f : α → α} {d d' : α} {hp h : HP} (s : Sm r n0 m0 h0 hp h) (e : d' = f d) : RS r n0 m0 h0 f (.ok d hp) (.ok d' h) := by
  subst e
  exact ⟨h, rfl, s⟩
theorem RS.lift {α : Type} {f : α → α} {a b : Option α} {hp h : HP} (s : Sm r n0 m0 h0 hp h) (e : ∀ x, a = some x → b = some (f x)) : RS r n0 m0 h0 f (MP.lift a hp) (MP.lift b h) := by
  cases a with
  | none => trivial
  | some x =>
    rw [e x rfl]
    exact ⟨h, rfl, s⟩
theorem RS.ite {α : Type} {f : α → α} {c c' : Prop} [Decidable c] [Decidable c'] {a b : Res α} (h : c → c') (h2 : c → RS r n0 m0 h0 f a b) : RS r n0 m0 h0 f (if c then a else .bad) (if c' then b else .bad) := by
  by_cases hc : c
  · rw [if_pos hc, if_pos (h hc)]
    exact h2 hc
  · rw [if_neg hc]
    trivial
/-! ### what is read -/
theorem rdL_ren {hp h : HP} (s : Sm r n0 m0 h0 hp h) {m : Nat} {xs : List D} (e : rdL hp m = some xs) : rdL h (r m) = some (xs.map (rD r)) := by
  unfold rdL at e ⊢
  cases q : hp[m]? with
  | none =>
    rw [q] at e
    cases e
  | some o =>
    rw [q] at e
    rw [s.obj _ _ q]
    cases o <;> cases e <;> rfl
mutual
theorem pyR_ren {f g : Nat → Option PyData} (hf : ∀ m x, f m = some x → g (r m) = some x) : ∀ (d : D) (x : PyData), pyR f d = some x → pyR g (rD r d) = some x
  | .non, x, h => by rw [rD_non]; exact h
  | .bl _, x, h => by rw [rD_bl]; exact h
  | .int _, x, h => by rw [rD_int]; exact h
  | .str _, x, h => by rw [rD_str]; exact h
  | .kd _, x, h => by cases h
  | .ref m, x, h => by
    rw [rD_ref, pyR]
    exact hf m x h
  | .tup xs, x, h => by
    rw [pyR] at h
    obtain ⟨ys, e1, e2⟩ := Option.map_eq_some_iff.mp h
    rw [rD_tup, pyR, pyL_ren hf xs ys e1, ← e2]
    rfl
theorem pyL_ren {f g : Nat → Option PyData} (hf : ∀ m x, f m = some x → g (r m) = some x) : ∀ (xs : List D) (ys : List PyData), pyL f xs = some ys → pyL g (xs.map (rD r)) = some ys
  | [], ys, h => h
  | x :: xs, ys, h => by
    rw [pyL] at h
    split at h
    · rename_i y zs e1 e2
      cases h
      rw [List.map_cons, pyL, pyR_ren hf x y e1, pyL_ren hf xs zs e2]
    · cases h
end
theorem pyN_ren {hp h : HP} (s : Sm r n0 m0 h0 hp h) : ∀ (n m : Nat) (x : PyData), pyN hp n m = some x → pyN h n (r m) = some x
  | 0, _, _, e => by cases e
  | n + 1, m, x, e => by
    rw [pyN] at e
    split at e
    · rename_i xs q
      obtain ⟨ys, e1, e2⟩ := Option.map_eq_some_iff.mp e
      rw [pyN, s.obj _ _ q]
      simp only [rO]
      rw [pyL_ren (pyN_ren s n) _ _ e1, ← e2]
      rfl
    · rename_i xs q
      obtain ⟨ys, e1, e2⟩ := Option.map_eq_some_iff.mp e
      rw [pyN, s.obj _ _ q]
      simp only [rO]
      rw [pyL_ren (pyN_ren s n) _ _ e1, ← e2]
      rfl
    · cases e
theorem py_ren {hp h : HP} (s : Sm r n0 m0 h0 hp h) {d : D} {x : PyData} (e : py hp d = some x) : py h (rD r d) = some x := pyR_ren (pyN_ren s 6) d x e
theorem eqD_ren {hp h : HP} (s : Sm r n0 m0 h0 hp h) {a b : D} {k : Bool} (e : eqD hp a b = some k) : eqD h (rD r a) (rD r b) = some k := by
  unfold eqD at e ⊢
  split at e
  · rename_i x y e1 e2
    rw [py_ren s e1, py_ren s e2]
    exact e
  · cases e
theorem memD_ren {hp h : HP} (s : Sm r n0 m0 h0 hp h) {x : D} : ∀ {ys : List D} {k : Bool}, memD hp x ys = some k → memD h (rD r x) (ys.map (rD r)) = some k
  | [], _, e => e
  | y :: ys, k, e => by
    rw [memD] at e
    split at e
    · rename_i a b e1 e2
      rw [List.map_cons, memD, eqD_ren s e1, memD_ren s e2]
      exact e
    · cases e
theorem truthy_ren {hp h : HP} (s : Sm r n0 m0 h0 hp h) {d : D} {k : Bool} (e : truthy hp d = some k) : truthy h (rD r d) = some k := by
  cases d with
  | tup xs =>
    rw [rD_tup]
    simpa [truthy] using e
  | ref m =>
    rw [rD_ref]
    unfold truthy at e ⊢
    dsimp only at e ⊢
    cases q : hp[m]? with
    | none =>
      rw [q] at e
      cases e
    | some o =>
      rw [q] at e
      rw [s.obj _ _ q]
      cases o <;> simp only [rO, List.isEmpty_map] at e ⊢ <;> exact e
  | non => rw [rD_non]; exact e
  | bl _ => rw [rD_bl]; exact e
  | int _ => rw [rD_int]; exact e
  | str _ => rw [rD_str]; exact e
  | kd _ => rw [rD_kd]; exact e
theorem rD_isNon {d : D} : decide (rD r d = .non) = decide (d = .non) := by cases d <;> simp
theorem map_not {a b : Option Bool} (h : ∀ k, a = some k → b = some k) {k : Bool} (e : a.map (!·) = some k) : b.map (!·) = some k := by
  obtain ⟨x, e1, e2⟩ := Option.map_eq_some_iff.mp e
  rw [h x e1]
  exact congrArg some e2
theorem opC_ren {hp h : HP} (s : Sm r n0 m0 h0 hp h) {op : COp} {a b : D} {k : Bool} (e : opC op a b hp = some k) : opC op (rD r a) (rD r b) h = some k := by
  cases op with
  | eq => exact eqD_ren s e
  | ne => exact map_not (fun k => eqD_ren s) e
  | isNone =>
    simp only [opC] at e ⊢
    rw [rD_isNon]
    exact e
  | notNone =>
    simp only [opC] at e ⊢
    rw [← e]
    congr 1
    exact decide_eq_decide.mpr ⟨fun q z => q (by rw [z, rD_non]), fun q z => q (by cases a <;> simp at z <;> rfl)⟩
  | lt => cases a <;> cases b <;> first | (cases e; done) | simpa [opC] using e
  | le => cases a <;> cases b <;> first | (cases e; done) | simpa [opC] using e
  | gt => cases a <;> cases b <;> first | (cases e; done) | simpa [opC] using e
  | ge => cases a <;> cases b <;> first | (cases e; done) | simpa [opC] using e
  | in_ =>
    cases b with
    | tup ys =>
      rw [rD_tup]
      exact memD_ren s e
    | ref m =>
      rw [rD_ref]
      simp only [opC] at e ⊢
      split at e
      · rename_i ys q
        rw [rdL_ren s q]
        exact memD_ren s e
      · cases e
    | _ => cases e
  | notIn =>
    cases b with
    | tup ys =>
      rw [rD_tup]
      exact map_not (fun k => memD_ren s) e
    | ref m =>
      rw [rD_ref]
      simp only [opC] at e ⊢
      split at e
      · rename_i ys q
        rw [rdL_ren s q]
        exact map_not (fun k => memD_ren s) e
      · cases e
    | _ => cases e
theorem opIx_ren {hp h : HP} (s : Sm r n0 m0 h0 hp h) {a b : D} {k : D} (e : opIx a b hp = some k) : opIx (rD r a) (rD r b) h = some (rD r k) := by
  unfold opIx at e
  split at e
  · obtain ⟨j, e1, e2⟩ := Option.bind_eq_some_iff.mp e
    rw [rD_tup, rD_int]
    simp only [opIx, List.length_map, e1, Option.bind_some, List.getElem?_map, e2, Option.map_some]
  · obtain ⟨c, e1, e2⟩ := Option.map_eq_some_iff.mp e
    subst e2
    simp only [rD_str, rD_int, opIx, e1, Option.map_some]
  · obtain ⟨xs, e1, e2⟩ := Option.bind_eq_some_iff.mp e
    obtain ⟨j, e3, e4⟩ := Option.bind_eq_some_iff.mp e2
    simp only [rD_ref, rD_int, opIx, rdL_ren s e1, List.length_map, e3, Option.bind_some, List.getElem?_map, e4, Option.map_some]
  · cases e
theorem cut_map {xs : List D} {lo hi : Option Int} : cut (xs.map (rD r)) lo hi = (cut xs lo hi).map (rD r) := by
  unfold cut
  simp [List.map_take, List.map_drop]
theorem opSl_ren (R : Rn r n0 m0) {hp h : HP} (s : Sm r n0 m0 h0 hp h) {a : D} {lo hi : Option Int} : RS r n0 m0 h0 (rD r) (opSl a lo hi hp) (opSl (rD r a) lo hi h) := by
  unfold opSl
  split
  · rw [rD_tup]
    exact .ok' s (by rw [cut_map, rD_tup])
  · rw [rD_str]
    exact .ok' s (by rw [rD_str])
  · rw [rD_ref]
    dsimp only
    split
    · rename_i xs e
      rw [rdL_ren s e]
      dsimp only
      rw [cut_map]
      exact .ok' (s.new R (.lst (cut xs lo hi))) (by rw [rD_ref, s.end_ R])
    · trivial
  · trivial
theorem opB_ren (R : Rn r n0 m0) {hp h : HP} (s : Sm r n0 m0 h0 hp h) {op : BOp} {a b : D} : RS r n0 m0 h0 (rD r) (opB op a b hp) (opB op (rD r a) (rD r b) h) := by
  unfold opB
  split <;> try simp only [rD_int, rD_str, rD_tup, rD_ref]
  · exact .ok' s rD_int.symm
  · exact .ok' s rD_int.symm
  · exact .ite id fun _ => .ok' s rD_int.symm
  · exact .ite id fun _ => .ok' s rD_int.symm
  · exact .ite id fun _ => .ok' s rD_int.symm
  · exact .ite id fun _ => .ok' s rD_int.symm
  · exact .ite id fun _ => .ok' s rD_str.symm
  · simp only [List.length_map]
    exact .ite id fun _ => .ok' s (by rw [rD_tup, List.map_append])
  · split
    · rename_i x y e1 e2
      rw [s.obj _ _ e1, s.obj _ _ e2]
      simp only [rO, List.length_map]
      refine .ite id fun _ => ?_
      rw [← List.map_append]
      exact .ok' (s.new R (.lst (x ++ y))) (by rw [rD_ref, s.end_ R])
    · trivial
  · trivial
theorem dTy_ren {hp h : HP} (s : Sm r n0 m0 h0 hp h) {d : D} {t : Ty} (e : dTy hp d = some t) : dTy h (rD r d) = some t := by
  cases d with
  | tup xs =>
    rw [rD_tup]
    exact e
  | ref m =>
    rw [rD_ref]
    unfold dTy at e ⊢
    dsimp only at e ⊢
    cases q : hp[m]? with
    | none =>
      rw [q] at e
      cases e
    | some o =>
      rw [q] at e
      rw [s.obj _ _ q]
      cases o <;> simp only [rO] at e ⊢ <;> exact e
  | non => rw [rD_non]; exact e
  | bl _ => rw [rD_bl]; exact e
  | int _ => rw [rD_int]; exact e
  | str _ => rw [rD_str]; exact e
  | kd _ => rw [rD_kd]; exact e
theorem isTy_ren {hp h : HP} (s : Sm r n0 m0 h0 hp h) {d : D} (hd : (dTy hp d).isSome = true) (t : Ty) : isTy h (rD r d) t = isTy hp d t := by
  cases d with
  | ref m =>
    rw [rD_ref]
    cases q : hp[m]? with
    | none =>
      unfold dTy at hd
      dsimp only at hd
      rw [q] at hd
      cases hd
    | some o =>
      have := s.obj _ _ q
      cases t <;> simp only [isTy, q, this] <;> cases o <;> rfl
  | tup xs =>
    rw [rD_tup]
    cases t <;> rfl
  | non => rw [rD_non]; cases t <;> rfl
  | bl _ => rw [rD_bl]; cases t <;> rfl
  | int _ => rw [rD_int]; cases t <;> rfl
  | str _ => rw [rD_str]; cases t <;> rfl
  | kd _ => rw [rD_kd]; cases t <;> rfl
theorem evB_ren (R : Rn r n0 m0) {hp h : HP} (s : Sm r n0 m0 h0 hp h) {f : BF} {ds : List D} : RS r n0 m0 h0 (rD r) (evB f ds hp) (evB f (ds.map (rD r)) h) := by
  unfold evB
  split <;> try simp only [List.map_cons, List.map_nil, rD_int, rD_str, rD_tup, rD_ref]
  · exact .ok' s rD_int.symm
  · exact .ok' s (by rw [rD_int, List.length_map])
  · split
    · rename_i e
      rw [s.obj _ _ e]
      exact .ok' s (by rw [rD_int, List.length_map])
    · rename_i e
      rw [s.obj _ _ e]
      exact .ok' s (by rw [rD_int, List.length_map])
    · trivial
  · exact .ok' s rD_int.symm
  · exact .ok' s rD_int.symm
  · exact .ok' s rD_int.symm
  · exact .ok' s rD_int.symm
  · rename_i xs
    exact .ok' (s.new R (.lst xs)) (by rw [rD_ref, s.end_ R])
  · split
    · rename_i xs e
      rw [rdL_ren s e]
      exact .ok' (s.new R (.lst xs)) (by rw [rD_ref, s.end_ R])
    · trivial
  · split
    · rename_i xs e
      rw [rdL_ren s e]
      exact .ok' s (by rw [rD_tup])
    · trivial
  · exact .ok' s (by rw [rD_tup])
  · trivial
theorem hasM_ren {hp h : HP} (s : Sm r n0 m0 h0 hp h) {m : MF} {d : D} (e : hasM m hp d = true) : hasM m h (rD r d) = true := by
  unfold hasM tyM at e ⊢
  cases d with
  | ref p =>
    rw [rD_ref]
    dsimp only at e ⊢
    cases q : hp[p]? with
    | none =>
      rw [q] at e
      cases e
    | some o =>
      rw [q] at e
      rw [s.obj _ _ q]
      cases o <;> simp only [rO] at e ⊢ <;> exact e
  | tup xs =>
    rw [rD_tup]
    exact e
  | non => rw [rD_non]; exact e
  | bl _ => rw [rD_bl]; exact e
  | int _ => rw [rD_int]; exact e
  | str _ => rw [rD_str]; exact e
  | kd _ => rw [rD_kd]; exact e
theorem evM_ren (R : Rn r n0 m0) {hp h : HP} (s : Sm r n0 m0 h0 hp h) {m : MF} {o : D} {ds : List D} : RS r n0 m0 h0 (rD r) (evM m o ds hp) (evM m (rD r o) (ds.map (rD r)) h) := by
  unfold evM
  split <;> try simp only [List.map_cons, List.map_nil, rD_str, rD_ref]
  · split
    · rename_i p d _ xs e
      rw [s.obj _ _ e]
      simp only [rO, List.length_map]
      refine .ite id fun _ => ?_
      have hp' := (List.getElem?_eq_some_iff.mp e).1
      have := s.set R hp' (.lst (xs ++ [d]))
      simp only [rO, List.map_append, List.map_cons, List.map_nil] at this
      exact .ok' this rD_non.symm
    · trivial
  · exact .ite id fun _ => .ok' s rD_str.symm
  · trivial
theorem kget_ren {kvs : List (List Nat × D)} (hk : kvs.all (fun p => p.2.nr) = true) {d x : D} (e : kget kvs d = some x) : kget kvs (rD r d) = some (rD r x) := by
  cases d with
  | str z =>
    rw [rD_str]
    have hx : x.nr = true := by
      have e : kvs.lookup z = some x := e
      induction kvs with
      | nil => cases e
      | cons y l ih =>
        obtain ⟨a, b⟩ := y
        rw [List.all_cons, Bool.and_eq_true] at hk
        rw [List.lookup_cons] at e
        cases q : z == a with
        | true =>
          rw [q] at e
          cases e
          exact hk.1
        | false =>
          rw [q] at e
          exact ih hk.2 e e
    rw [nr_id hx]
    exact e
  | _ => cases e
/-! ### walks -/
theorem watch_ren {hp h : HP} (s : Sm r n0 m0 h0 hp h) {ws : List (Nat × O)} (e : watchOk ws hp = true) : watchOk (rW r ws) h = true := by
  unfold watchOk at e ⊢
  rw [List.all_eq_true] at e ⊢
  intro w hw
  obtain ⟨v, h1, h2⟩ := List.mem_map.mp hw
  subst h2
  have := of_decide_eq_true (e v h1)
  exact decide_eq_true (s.obj _ _ this)
theorem walk_ren {hp h : HP} (s : Sm r n0 m0 h0 hp h) {d : D} {iw : List D × List (Nat × O)} (e : walk hp d = some iw) : walk h (rD r d) = some (iw.1.map (rD r), rW r iw.2) := by
  cases d with
  | tup xs =>
    cases e
    rw [rD_tup]
    rfl
  | str z =>
    cases e
    rw [rD_str]
    simp [walk, rW, Function.comp_def]
  | ref m =>
    rw [rD_ref]
    unfold walk at e ⊢
    dsimp only at e ⊢
    cases q : hp[m]? with
    | none =>
      rw [q] at e
      cases e
    | some o =>
      rw [q] at e
      rw [s.obj _ _ q]
      cases o <;> cases e <;> rfl
  | _ => cases e
theorem walkL_ren {hp h : HP} (s : Sm r n0 m0 h0 hp h) {d : D} {iw : List D × List (Nat × O)} (e : walkL hp d = some iw) : walkL h (rD r d) = some (iw.1.map (rD r), rW r iw.2) := by
  cases d with
  | ref m =>
    rw [rD_ref]
    unfold walkL at e ⊢
    dsimp only at e ⊢
    cases q : hp[m]? with
    | none =>
      rw [q] at e
      cases e
    | some o =>
      rw [q] at e
      rw [s.obj _ _ q]
      cases o <;> cases e <;> rfl
  | _ => cases e
theorem upto_ren {lo : Int} : ∀ {n : Nat}, (upto lo n).map (rD r) = upto lo n
  | 0 => rfl
  | n + 1 => by rw [upto, List.map_cons, rD_int, upto_ren]
theorem rng_ren {ds xs : List D} (e : rng ds = some xs) : rng (ds.map (rD r)) = some (xs.map (rD r)) := by
  unfold rng at e
  split at e
  · split at e
    · rename_i hc
      cases e
      simp only [List.map_cons, List.map_nil, rD_int, rng, if_pos hc, upto_ren]
    · cases e
  · split at e
    · rename_i hc
      cases e
      simp only [List.map_cons, List.map_nil, rD_int, rng, if_pos hc, upto_ren]
    · cases e
  · cases e
theorem nums_ren : ∀ {xs : List D} {k : Nat}, nums k (xs.map (rD r)) = (nums k xs).map (rD r)
  | [], _ => rfl
  | x :: xs, k => by
    rw [List.map_cons, nums, nums, List.map_cons, nums_ren, rD_tup]
    simp
theorem zipD_ren : ∀ {xs ys : List D}, zipD (xs.map (rD r)) (ys.map (rD r)) = (zipD xs ys).map (rD r)
  | [], ys => by simp [zipD]
  | _ :: _, [] => by simp [zipD]
  | x :: xs, y :: ys => by
    rw [List.map_cons, List.map_cons, zipD, zipD, List.map_cons, zipD_ren, rD_tup]
    simp
/-! ### slots -/
theorem rV_get {v : List (Option D)} {i : Nat} {d : D} (e : v[i]? = some (some d)) : (rV r v)[i]? = some (some (rD r d)) := by
  unfold rV
  rw [List.getElem?_map, e]
  rfl
theorem rV_set {v : List (Option D)} {i : Nat} {d : Option D} : rV r (v.set i d) = (rV r v).set i (d.map (rD r)) := by
  unfold rV
  rw [List.map_set]
theorem rV_len {v : List (Option D)} : (rV r v).length = v.length := by unfold rV; rw [List.length_map]
mutual
theorem bindT_ren {hp h : HP} (s : Sm r n0 m0 h0 hp h) : ∀ (t : Tg) (d : D) (l l' : List (Option D)), bindT hp t d l = some l' → bindT h t (rD r d) (rV r l) = some (rV r l')
  | .nm i, d, l, l', e => by
    rw [bindT] at e ⊢
    rw [rV_len]
    split at e
    · rename_i hi
      cases e
      rw [if_pos hi, rV_set]
      rfl
    · cases e
  | .tp ts, d, l, l', e => by
    cases d with
    | tup ds =>
      rw [rD_tup]
      rw [bindT] at e ⊢
      exact bindTs_ren s ts ds l l' e
    | ref m =>
      rw [rD_ref]
      rw [bindT] at e ⊢
      split at e
      · rename_i ds q
        rw [rdL_ren s q]
        exact bindTs_ren s ts ds l l' e
      · cases e
    | _ => simp [bindT] at e
theorem bindTs_ren {hp h : HP} (s : Sm r n0 m0 h0 hp h) : ∀ (ts : List Tg) (ds : List D) (l l' : List (Option D)), bindTs hp ts ds l = some l' → bindTs h ts (ds.map (rD r)) (rV r l) = some (rV r l')
  | [], [], l, l', e => by
    rw [bindTs] at e
    cases e
    simp [bindTs]
  | [], _ :: _, _, _, e => by simp [bindTs] at e
  | _ :: _, [], _, _, e => by simp [bindTs] at e
  | t :: ts, d :: ds, l, l', e => by
    rw [bindTs] at e
    split at e
    · rename_i l1 q
      rw [List.map_cons, bindTs, bindT_ren s t d l l1 q]
      exact bindTs_ren s ts ds l1 l' e
    · cases e
end
theorem wipe_ren {l : List (Option D)} : ∀ {vs : List Nat}, rV r (wipeL l vs) = wipeL (rV r l) vs
  | [] => rfl
  | v :: vs => by rw [wipeL, wipeL, rV_set, wipe_ren]; rfl
/-! ### expressions -/
section
variable {cf cf' : Nat → List D → HP → Res D} {sub : Nat → Nat → Bool}
variable (r n0 m0 h0) in
def CfS (cf cf' : Nat → List D → HP → Res D) : Prop := ∀ f ds hp h, Sm r n0 m0 h0 hp h → RS r n0 m0 h0 (rD r) (cf f ds hp) (cf' f (ds.map (rD r)) h)
theorem lc_ren (R : Rn r n0 m0) {t1 t2 : List (Option D) → HP → Res Bool} {e1 e2 : List (Option D) → HP → Res D} {t : Tg} {ws : List (Nat × O)} {ls : List (Option D)}
    (ht : ∀ l hp h, Sm r n0 m0 h0 hp h → RS r n0 m0 h0 id (t1 l hp) (t2 (rV r l) h)) (he : ∀ l hp h, Sm r n0 m0 h0 hp h → RS r n0 m0 h0 (rD r) (e1 l hp) (e2 (rV r l) h)) :
    ∀ (xs acc : List D) (hp h : HP), Sm r n0 m0 h0 hp h → RS r n0 m0 h0 (List.map (rD r)) (lcGo t1 e1 t ws ls xs acc hp) (lcGo t2 e2 t (rW r ws) (rV r ls) (xs.map (rD r)) (acc.map (rD r)) h)
  | [], acc, hp, h, s => by
    rw [List.map_nil, lcGo, lcGo]
    exact .ite (watch_ren s) fun _ => .ok s
  | x :: xs, acc, hp, h, s => by
    rw [List.map_cons, lcGo, lcGo]
    by_cases w : watchOk ws hp = true
    · rw [if_pos w, if_pos (watch_ren s w)]
      cases eb : bindT hp t x ls with
      | none => trivial
      | some l' =>
        rw [bindT_ren s _ _ _ _ eb]
        dsimp only
        have h1 := ht l' hp h s
        cases et : t1 l' hp with
        | bad => trivial
        | ex _ _ => trivial
        | ok b hp1 =>
          rw [et] at h1
          obtain ⟨h', q1, s1⟩ := h1
          rw [q1]
          cases b with
          | false => exact lc_ren (t := t) (ws := ws) (ls := ls) R ht he xs acc hp1 h' s1
          | true =>
            dsimp only [id]
            have h2 := he l' hp1 h' s1
            cases ee : e1 l' hp1 with
            | bad => trivial
            | ex _ _ => trivial
            | ok y hp2 =>
              rw [ee] at h2
              obtain ⟨h'', q2, s2⟩ := h2
              rw [q2]
              have := lc_ren (t := t) (ws := ws) (ls := ls) R ht he xs (acc ++ [y]) hp2 h'' s2
              rw [List.map_append] at this
              exact this
    · rw [if_neg w]
      trivial
theorem ite_ren {α : Type} {f : α → α} {b : Bool} {x y x' y' : Res α} (h1 : RS r n0 m0 h0 f x x') (h2 : RS r n0 m0 h0 f y y') : RS r n0 m0 h0 f (if b = true then x else y) (if b = true then x' else y') := by
  cases b
  · exact h2
  · exact h1
mutual
theorem evE_ren (R : Rn r n0 m0) (hc : CfS r n0 m0 h0 cf cf') : ∀ (e : E), e.nr = true → ∀ (lo : Lo) (hp h : HP), Sm r n0 m0 h0 hp h → RS r n0 m0 h0 (rD r) (evE cf sub e lo hp) (evE cf' sub e (rLo r lo) h)
  | .loc i, _, lo, hp, h, s => by
    rw [evE, evE]
    cases q : lo.v[i]? with
    | none => trivial
    | some o =>
      cases o with
      | none => trivial
      | some d =>
        have : (rLo r lo).v[i]? = some (some (rD r d)) := rV_get q
        rw [this]
        exact .ok s
  | .con d, n, lo, hp, h, s => by
    rw [evE, evE]
    exact .ok' s (nr_id n).symm
  | .bin op a b, n, lo, hp, h, s => by
    rw [E.nr, Bool.and_eq_true] at n
    rw [evE, evE]
    exact .bind (evE_ren R hc a n.1 lo hp h s) fun x hp h s => .bind (evE_ren R hc b n.2 lo hp h s) fun y hp h s => opB_ren R s
  | .neg a, n, lo, hp, h, s => by
    rw [E.nr] at n
    rw [evE, evE]
    refine .bind (evE_ren R hc a n lo hp h s) fun x hp h s => ?_
    cases x <;> first | trivial | (rw [rD_int]; exact .ok' s rD_int.symm)
  | .cmp op a b, n, lo, hp, h, s => by
    rw [E.nr, Bool.and_eq_true] at n
    rw [evE, evE]
    exact .bind (evE_ren R hc a n.1 lo hp h s) fun x hp h s => .bind (evE_ren R hc b n.2 lo hp h s) fun y hp h s => .bind (f := id) (.lift s fun k e => opC_ren s e) fun k hp h s => .ok' s rD_bl.symm
  | .chain o1 o2 a b c, n, lo, hp, h, s => by
    rw [E.nr, Bool.and_eq_true, Bool.and_eq_true] at n
    rw [evE, evE]
    exact .bind (evE_ren R hc a n.1 lo hp h s) fun x hp h s => .bind (evE_ren R hc b n.2.1 lo hp h s) fun y hp h s => .bind (f := id) (.lift s fun k e => opC_ren s e) fun k hp h s =>
      ite_ren (.bind (evE_ren R hc c n.2.2 lo hp h s) fun z hp h s => .bind (f := id) (.lift s fun k e => opC_ren s e) fun k hp h s => .ok' s rD_bl.symm) (.ok' s rD_bl.symm)
  | .and a b, n, lo, hp, h, s => by
    rw [E.nr, Bool.and_eq_true] at n
    rw [evE, evE]
    exact .bind (evE_ren R hc a n.1 lo hp h s) fun x hp h s => .bind (f := id) (.lift s fun k e => truthy_ren s e) fun k hp h s => ite_ren (evE_ren R hc b n.2 lo hp h s) (.ok s)
  | .or a b, n, lo, hp, h, s => by
    rw [E.nr, Bool.and_eq_true] at n
    rw [evE, evE]
    exact .bind (evE_ren R hc a n.1 lo hp h s) fun x hp h s => .bind (f := id) (.lift s fun k e => truthy_ren s e) fun k hp h s => ite_ren (.ok s) (evE_ren R hc b n.2 lo hp h s)
  | .not a, n, lo, hp, h, s => by
    rw [E.nr] at n
    rw [evE, evE]
    exact .bind (evE_ren R hc a n lo hp h s) fun x hp h s => .bind (f := id) (.lift s fun k e => truthy_ren s e) fun k hp h s => .ok' s rD_bl.symm
  | .ite c a b, n, lo, hp, h, s => by
    rw [E.nr, Bool.and_eq_true, Bool.and_eq_true] at n
    rw [evE, evE]
    exact .bind (evE_ren R hc c n.1 lo hp h s) fun x hp h s => .bind (f := id) (.lift s fun k e => truthy_ren s e) fun k hp h s => ite_ren (evE_ren R hc a n.2.1 lo hp h s) (evE_ren R hc b n.2.2 lo hp h s)
  | .call f es, n, lo, hp, h, s => by
    rw [E.nr] at n
    rw [evE, evE]
    exact .bind (evL_ren R hc es n lo hp h s) fun ds hp h s => hc f ds hp h s
  | .kcall f pm es ks, n, lo, hp, h, s => by
    rw [E.nr, Bool.and_eq_true] at n
    rw [evE, evE]
    refine .bind (evL_ren R hc es n.1 lo hp h s) fun ds hp h s => .bind (evL_ren R hc ks n.2 lo hp h s) fun us hp h s => ?_
    have := hc f (ds ++ pm.filterMap (us[·]?)) hp h s
    rw [List.map_append, List.map_filterMap] at this
    have e : (fun x : Nat => (us[x]?).map (rD r)) = fun x => (us.map (rD r))[x]? := by funext x; rw [List.getElem?_map]
    rw [e] at this
    exact this
  | .kix kvs a, n, lo, hp, h, s => by
    rw [E.nr, Bool.and_eq_true] at n
    rw [evE, evE]
    exact .bind (evE_ren R hc a n.2 lo hp h s) fun x hp h s => .lift s fun k e => kget_ren n.1 e
  | .blt f es, n, lo, hp, h, s => by
    rw [E.nr] at n
    rw [evE, evE]
    exact .bind (evL_ren R hc es n lo hp h s) fun ds hp h s => evB_ren R s
  | .mth m o es, n, lo, hp, h, s => by
    rw [E.nr, Bool.and_eq_true] at n
    rw [evE, evE]
    exact .bind (evE_ren R hc o n.1 lo hp h s) fun x hp h s => .ite (hasM_ren s) fun _ => .bind (evL_ren R hc es n.2 lo hp h s) fun ds hp h s => evM_ren R s
  | .tup es, n, lo, hp, h, s => by
    rw [E.nr] at n
    rw [evE, evE]
    refine .bind (evL_ren R hc es n lo hp h s) fun ds hp h s => ?_
    rw [List.length_map]
    exact .ite id fun _ => .ok' s rD_tup.symm
  | .lst es, n, lo, hp, h, s => by
    rw [E.nr] at n
    rw [evE, evE]
    refine .bind (evL_ren R hc es n lo hp h s) fun ds hp h s => ?_
    rw [List.length_map]
    exact .ite id fun _ => .ok' (s.new R (.lst ds)) (by rw [rD_ref, s.end_ R])
  | .emp, _, lo, hp, h, s => by
    rw [evE, evE]
    exact .ok' (s.new R (.dct [])) (by rw [rD_ref, s.end_ R])
  | .ix a b, n, lo, hp, h, s => by
    rw [E.nr, Bool.and_eq_true] at n
    rw [evE, evE]
    exact .bind (evE_ren R hc a n.1 lo hp h s) fun x hp h s => .bind (evE_ren R hc b n.2 lo hp h s) fun y hp h s => .lift s fun k e => opIx_ren s e
  | .slc a bl bh l u, n, lo, hp, h, s => by
    rw [E.nr, Bool.and_eq_true, Bool.and_eq_true] at n
    rw [evE, evE]
    have sp : ∀ (b : Bool) (x : D) k, sPart b x = some k → sPart b (rD r x) = some k := fun b x k e => by
      cases b <;> cases x <;> first | (cases e; done) | (simp only [rD_int, rD_non, rD_bl, rD_str, rD_tup, rD_ref, rD_kd]; exact e) | exact e
    exact .bind (evE_ren R hc a n.1 lo hp h s) fun x hp h s => .bind (evE_ren R hc l n.2.1 lo hp h s) fun y hp h s => .bind (f := id) (.lift s (sp bl y)) fun p hp h s =>
      .bind (evE_ren R hc u n.2.2 lo hp h s) fun z hp h s => .bind (f := id) (.lift s (sp bh z)) fun q hp h s => opSl_ren R s
  | .isi a ts, n, lo, hp, h, s => by
    rw [E.nr] at n
    rw [evE, evE]
    refine .bind (evE_ren R hc a n lo hp h s) fun x hp h s => .ite (fun e => ?_) fun e => .ok' s ?_
    · obtain ⟨t, et⟩ := Option.isSome_iff_exists.mp e
      rw [dTy_ren s et]
      rfl
    · rw [rD_bl]
      congr 1
      exact congrArg (fun f => ts.any f) (funext fun t => isTy_ren s e t)
  | .lc elt own t w ifs, n, lo, hp, h, s => by
    rw [E.nr, Bool.and_eq_true, Bool.and_eq_true] at n
    rw [evE, evE]
    refine .bind (evW_ren R hc w n.2.1 lo hp h s) fun iw hp h s => .bind (f := List.map (rD r)) ?_ fun ys hp h s => ?_
    · have := lc_ren (h0 := h0) R (t1 := fun l h => evTs cf sub ifs ⟨l, lo.x⟩ h) (t2 := fun l h => evTs cf' sub ifs ⟨l, (rLo r lo).x⟩ h) (e1 := fun l h => evE cf sub elt ⟨l, lo.x⟩ h) (e2 := fun l h => evE cf' sub elt ⟨l, (rLo r lo).x⟩ h) (t := t) (ws := iw.2) (ls := wipeL lo.v own)
        (fun l hp h s => evTs_ren R hc ifs n.2.2 ⟨l, lo.x⟩ hp h s) (fun l hp h s => evE_ren R hc elt n.1 ⟨l, lo.x⟩ hp h s) iw.1 [] hp h s
      rw [wipe_ren] at this
      exact this
    · rw [List.length_map]
      exact .ite id fun _ => .ok' (s.new R (.lst ys)) (by rw [rD_ref, s.end_ R])
  | .xis c, _, lo, hp, h, s => by
    rw [evE, evE]
    cases q : lo.x with
    | none => trivial
    | some x =>
      have : (rLo r lo).x = some (rX r x) := by unfold rLo; simp [q]
      rw [this]
      dsimp only
      refine .ite (fun e => ?_) fun _ => .ok' s rD_bl.symm
      unfold rX
      simpa using e
  | .xf k, _, lo, hp, h, s => by
    rw [evE, evE]
    cases q : lo.x with
    | none => trivial
    | some x =>
      have : (rLo r lo).x = some (rX r x) := by unfold rLo; simp [q]
      rw [this]
      dsimp only
      refine .lift s fun d e => ?_
      unfold rX
      simp [e]
theorem evL_ren (R : Rn r n0 m0) (hc : CfS r n0 m0 h0 cf cf') : ∀ (es : EL), es.nr = true → ∀ (lo : Lo) (hp h : HP), Sm r n0 m0 h0 hp h → RS r n0 m0 h0 (List.map (rD r)) (evL cf sub es lo hp) (evL cf' sub es (rLo r lo) h)
  | .nil, _, lo, hp, h, s => by
    rw [evL, evL]
    exact .ok s
  | .cons e es, n, lo, hp, h, s => by
    rw [EL.nr, Bool.and_eq_true] at n
    rw [evL, evL]
    exact .bind (evE_ren R hc e n.1 lo hp h s) fun x hp h s => .bind (evL_ren R hc es n.2 lo hp h s) fun xs hp h s => .ok s
theorem evTs_ren (R : Rn r n0 m0) (hc : CfS r n0 m0 h0 cf cf') : ∀ (es : EL), es.nr = true → ∀ (lo : Lo) (hp h : HP), Sm r n0 m0 h0 hp h → RS r n0 m0 h0 id (evTs cf sub es lo hp) (evTs cf' sub es (rLo r lo) h)
  | .nil, _, lo, hp, h, s => by
    rw [evTs, evTs]
    exact .ok s
  | .cons e es, n, lo, hp, h, s => by
    rw [EL.nr, Bool.and_eq_true] at n
    rw [evTs, evTs]
    exact .bind (evE_ren R hc e n.1 lo hp h s) fun x hp h s => .bind (f := id) (.lift s fun k e => truthy_ren s e) fun k hp h s => ite_ren (evTs_ren R hc es n.2 lo hp h s) (.ok s)
theorem evW_ren (R : Rn r n0 m0) (hc : CfS r n0 m0 h0 cf cf') : ∀ (w : W), w.nr = true → ∀ (lo : Lo) (hp h : HP), Sm r n0 m0 h0 hp h → RS r n0 m0 h0 (fun iw => (iw.1.map (rD r), rW r iw.2)) (evW cf sub w lo hp) (evW cf' sub w (rLo r lo) h)
  | .val e, n, lo, hp, h, s => by
    rw [W.nr] at n
    rw [evW, evW]
    exact .bind (evE_ren R hc e n lo hp h s) fun x hp h s => .lift s fun k e => walk_ren s e
  | .rng k es, n, lo, hp, h, s => by
    rw [W.nr] at n
    rw [evW, evW]
    refine .bind (evL_ren R hc es n lo hp h s) fun ds hp h s => ?_
    rw [List.length_map]
    refine .ite id fun _ => .lift s fun iw e => ?_
    obtain ⟨xs, e1, e2⟩ := Option.map_eq_some_iff.mp e
    subst e2
    rw [rng_ren e1]
    rfl
  | .enum e, n, lo, hp, h, s => by
    rw [W.nr] at n
    rw [evW, evW]
    refine .bind (evE_ren R hc e n lo hp h s) fun x hp h s => .lift s fun iw e => ?_
    obtain ⟨p, e1, e2⟩ := Option.map_eq_some_iff.mp e
    subst e2
    rw [walkL_ren s e1]
    simp only [Option.map_some, nums_ren]
  | .zip a b, n, lo, hp, h, s => by
    rw [W.nr, Bool.and_eq_true] at n
    rw [evW, evW]
    refine .bind (evE_ren R hc a n.1 lo hp h s) fun x hp h s => .bind (evE_ren R hc b n.2 lo hp h s) fun y hp h s => ?_
    cases e1 : walkL hp x with
    | none => trivial
    | some p =>
      cases e2 : walkL hp y with
      | none => trivial
      | some q =>
        rw [walkL_ren s e1, walkL_ren s e2]
        exact .ok' s (by simp only [zipD_ren, rW, List.map_append])
end
end
end
end MP

end
section
set_option Elab.async false
set_option linter.all false
set_option maxRecDepth 100000
set_option maxHeartbeats 1000000
/-! MP: statements and defs over a part of the heap. -/
namespace MP
open PySem
theorem gcOk_iff {h h' : HP} : gcOk h h' = true ↔ h.length ≤ h'.length ∧ ∀ (m : Nat) o' o, h'[m]? = some o' → h[m]? = some o → o' = o ∨ o'.cl h.length = true := by
  unfold gcOk
  rw [Bool.and_eq_true, decide_eq_true_eq]
  refine and_congr_right fun hl => ?_
  constructor
  · intro q m o' o e1 e2
    have hm := (List.getElem?_eq_some_iff.mp e2).1
    have : (o', o) ∈ (h'.take h.length).zip h := by
      refine List.mem_iff_getElem?.mpr ⟨m, ?_⟩
      rw [List.getElem?_zip_eq_some]
      exact ⟨by rw [List.getElem?_take_of_lt hm]; exact e1, e2⟩
    have := List.all_eq_true.mp q _ this
    rcases Bool.or_eq_true_iff.mp this with z | z
    · exact .inl (of_decide_eq_true z)
    · exact .inr z
  · intro q
    rw [List.all_eq_true]
    intro p hp
    obtain ⟨m, e⟩ := List.mem_iff_getElem?.mp hp
    rw [List.getElem?_zip_eq_some] at e
    have hm := (List.getElem?_eq_some_iff.mp e.2).1
    rw [List.getElem?_take_of_lt hm] at e
    rcases q m p.1 p.2 e.1 e.2 with z | z
    · rw [z]
      simp
    · rw [z]
      simp
section
variable {r : Nat → Nat} {n0 m0 : Nat} {h0 : HP}
theorem gcOk_ren (R : Rn r n0 m0) {hp h hp' h' : HP} (s : Sm r n0 m0 h0 hp h) (s' : Sm r n0 m0 h0 hp' h') : gcOk h h' = gcOk hp hp' := by
  have hlen : h.length ≤ h'.length ↔ hp.length ≤ hp'.length := by
    have := s.len
    have := s'.len
    have := s.le
    have := s'.le
    constructor <;> intro <;> omega
  rw [Bool.eq_iff_iff, gcOk_iff, gcOk_iff, hlen]
  refine and_congr_right fun hl => ⟨fun q i o' o e1 e2 => ?_, fun q m o' o e1 e2 => ?_⟩
  · rcases q (r i) _ _ (s'.obj _ _ e1) (s.obj _ _ e2) with z | z
    · exact .inl (rO_inj R.inj _ _ z)
    · rw [clO_ren (s.lt R)] at z
      exact .inr z
  · have hm := (List.getElem?_eq_some_iff.mp e2).1
    have im : ∀ i, i < hp.length → r i = m → o' = o ∨ o'.cl h.length = true := fun i hi em => by
      subst em
      have e3 := List.getElem?_eq_getElem hi
      have e4 := List.getElem?_eq_getElem (Nat.lt_of_lt_of_le hi hl)
      rw [s'.obj _ _ e4] at e1
      rw [s.obj _ _ e3] at e2
      cases e1
      cases e2
      rcases q i _ _ e4 e3 with z | z
      · exact .inl (by rw [z])
      · exact .inr (by rw [clO_ren (s.lt R)]; exact z)
    by_cases h1 : m < m0
    · by_cases h2 : ∃ i, i < n0 ∧ r i = m
      · obtain ⟨i, hi, em⟩ := h2
        exact im i (Nat.lt_of_lt_of_le hi s.le) em
      · have hn : ∀ i, i < n0 → r i ≠ m := fun i hi em => h2 ⟨i, hi, em⟩
        rw [s'.fr m h1 hn] at e1
        rw [s.fr m h1 hn] at e2
        rw [e1] at e2
        cases e2
        exact .inl rfl
    · have := s.len
      have := s.le
      exact im (n0 + (m - m0)) (by omega) (by rw [R.hi _ (by omega)]; omega)
theorem gc_ren (R : Rn r n0 m0) {hp h hp' h' : HP} (s : Sm r n0 m0 h0 hp h) (s' : Sm r n0 m0 h0 hp' h') (d : D) : RS r n0 m0 h0 (rD r) (gc hp d hp') (gc h (rD r d) h') := by
  unfold gc
  rw [gcOk_ren R s s', cl_ren (s.lt R)]
  by_cases g : gcOk hp hp' = true
  · rw [if_pos g, if_pos g]
    have hl := (gcOk_iff.mp g).1
    by_cases c : d.cl hp.length = true
    · rw [if_pos c, if_pos c]
      exact .ok (s.take R s' hl)
    · rw [if_neg c, if_neg c]
      cases d with
      | ref m =>
        rw [rD_ref]
        dsimp only
        cases q : hp'[m]? with
        | none =>
          have : h'[r m]? = none := by
            rw [List.getElem?_eq_none_iff] at q ⊢
            have := s'.lt R m
            omega
          rw [this]
          exact .ok' s' rD_ref.symm
        | some o =>
          rw [s'.obj _ _ q]
          dsimp only
          have hc : (h.length ≤ r m ∧ (rO r o).cl h.length = true) ↔ (hp.length ≤ m ∧ o.cl hp.length = true) := by
            rw [clO_ren (s.lt R)]
            have := s.lt R m
            refine and_congr_left fun _ => ?_
            constructor <;> intro <;> omega
          by_cases c2 : hp.length ≤ m ∧ o.cl hp.length = true
          · rw [if_pos c2, if_pos (hc.mpr c2)]
            have st := (s.take R s' hl).new R o
            refine .ok' st ?_
            rw [rD_ref, s.end_ R]
          · rw [if_neg c2, if_neg fun z => c2 (hc.mp z)]
            exact .ok' s' rD_ref.symm
      | tup xs =>
        rw [rD_tup]
        exact .ok' s' rD_tup.symm
      | non => exact absurd rfl c
      | bl _ => exact absurd rfl c
      | int _ => exact absurd rfl c
      | str _ => exact absurd rfl c
      | kd _ => exact absurd rfl c
  · rw [if_neg g, if_neg g]
    exact .ok s'
theorem gcX_ren (R : Rn r n0 m0) {hp h hp' h' : HP} (s : Sm r n0 m0 h0 hp h) (s' : Sm r n0 m0 h0 hp' h') (x : Xn) : RS r n0 m0 h0 (rD r) (gcX hp x hp') (gcX h (rX r x) h') := by
  unfold gcX
  have e : D.clL h.length (rX r x).fs = D.clL hp.length x.fs := clL_ren (s.lt R) x.fs
  rw [gcOk_ren R s s', e]
  by_cases c : gcOk hp hp' = true ∧ D.clL hp.length x.fs = true
  · rw [if_pos c, if_pos c]
    exact ⟨_, rfl, s.take R s' (gcOk_iff.mp c.1).1⟩
  · rw [if_neg c, if_neg c]
    exact ⟨_, rfl, s'⟩
variable (r n0 m0 h0) in
def OS (a b : Out) : Prop :=
  match a with
  | .nx lo hp => ∃ h, b = .nx (rLo r lo) h ∧ Sm r n0 m0 h0 hp h
  | .bk lo hp => ∃ h, b = .bk (rLo r lo) h ∧ Sm r n0 m0 h0 hp h
  | .ct lo hp => ∃ h, b = .ct (rLo r lo) h ∧ Sm r n0 m0 h0 hp h
  | .rt d hp => ∃ h, b = .rt (rD r d) h ∧ Sm r n0 m0 h0 hp h
  | .ex x lo hp => ∃ h, b = .ex (rX r x) (rLo r lo) h ∧ Sm r n0 m0 h0 hp h
  | .bad => True
theorem RS.out {α : Type} {f : α → α} {a b : Res α} {lo : Lo} {k k' : α → HP → Out} (h1 : RS r n0 m0 h0 f a b) (h2 : ∀ d hp h, Sm r n0 m0 h0 hp h → OS r n0 m0 h0 (k d hp) (k' (f d) h)) : OS r n0 m0 h0 (a.out lo k) (b.out (rLo r lo) k') := by
  cases a with
  | bad => trivial
  | ex x hp =>
    obtain ⟨h, e, s⟩ := h1
    rw [e]
    exact ⟨h, rfl, s⟩
  | ok d hp =>
    obtain ⟨h, e, s⟩ := h1
    rw [e]
    exact h2 d hp h s
theorem OS.then {a b : Out} {k k' : Lo → HP → Out} (h1 : OS r n0 m0 h0 a b) (h2 : ∀ lo hp h, Sm r n0 m0 h0 hp h → OS r n0 m0 h0 (k lo hp) (k' (rLo r lo) h)) : OS r n0 m0 h0 (a.then k) (b.then k') := by
  cases a with
  | bad => trivial
  | nx lo hp =>
    obtain ⟨h, e, s⟩ := h1
    rw [e]
    exact h2 lo hp h s
  | bk lo hp =>
    obtain ⟨h, e, s⟩ := h1
    rw [e]
    exact ⟨h, rfl, s⟩
  | ct lo hp =>
    obtain ⟨h, e, s⟩ := h1
    rw [e]
    exact ⟨h, rfl, s⟩
  | rt d hp =>
    obtain ⟨h, e, s⟩ := h1
    rw [e]
    exact ⟨h, rfl, s⟩
  | ex x lo hp =>
    obtain ⟨h, e, s⟩ := h1
    rw [e]
    exact ⟨h, rfl, s⟩
theorem iteO_ren {b : Bool} {x y x' y' : Out} (h1 : OS r n0 m0 h0 x x') (h2 : OS r n0 m0 h0 y y') : OS r n0 m0 h0 (if b = true then x else y) (if b = true then x' else y') := by
  cases b
  · exact h2
  · exact h1
theorem for_ren (R : Rn r n0 m0) {b1 b2 : Lo → HP → Out} {t : Tg} {ws : List (Nat × O)} (hb : ∀ lo hp h, Sm r n0 m0 h0 hp h → OS r n0 m0 h0 (b1 lo hp) (b2 (rLo r lo) h)) :
    ∀ (xs : List D) (lo : Lo) (hp h : HP), Sm r n0 m0 h0 hp h → OS r n0 m0 h0 (forGo b1 t ws xs lo hp) (forGo b2 t (rW r ws) (xs.map (rD r)) (rLo r lo) h)
  | [], lo, hp, h, s => by
    rw [List.map_nil, forGo, forGo]
    by_cases w : watchOk ws hp = true
    · rw [if_pos w, if_pos (watch_ren s w)]
      exact ⟨h, rfl, s⟩
    · rw [if_neg w]
      trivial
  | x :: xs, lo, hp, h, s => by
    rw [List.map_cons, forGo, forGo]
    by_cases w : watchOk ws hp = true
    · rw [if_pos w, if_pos (watch_ren s w)]
      cases eb : bindT hp t x lo.v with
      | none => trivial
      | some l' =>
        have : bindT h t (rD r x) (rLo r lo).v = some (rV r l') := bindT_ren s _ _ _ _ eb
        rw [this]
        dsimp only
        have h1 := hb ⟨l', lo.x⟩ hp h s
        have e2 : (⟨rV r l', (rLo r lo).x⟩ : Lo) = rLo r ⟨l', lo.x⟩ := rfl
        rw [e2]
        cases eo : b1 ⟨l', lo.x⟩ hp with
        | nx lo1 hp1 =>
          rw [eo] at h1
          obtain ⟨h', q, s1⟩ := h1
          rw [q]
          exact for_ren R hb xs lo1 hp1 h' s1
        | ct lo1 hp1 =>
          rw [eo] at h1
          obtain ⟨h', q, s1⟩ := h1
          rw [q]
          exact for_ren R hb xs lo1 hp1 h' s1
        | bk lo1 hp1 =>
          rw [eo] at h1
          obtain ⟨h', q, s1⟩ := h1
          rw [q]
          exact ⟨h', rfl, s1⟩
        | rt d hp1 =>
          rw [eo] at h1
          obtain ⟨h', q, s1⟩ := h1
          rw [q]
          exact ⟨h', rfl, s1⟩
        | ex x lo1 hp1 =>
          rw [eo] at h1
          obtain ⟨h', q, s1⟩ := h1
          rw [q]
          exact ⟨h', rfl, s1⟩
        | bad => trivial
    · rw [if_neg w]
      trivial
theorem wh_ren (R : Rn r n0 m0) {t1 t2 : Lo → HP → Res Bool} {b1 b2 : Lo → HP → Out} (ht : ∀ lo hp h, Sm r n0 m0 h0 hp h → RS r n0 m0 h0 id (t1 lo hp) (t2 (rLo r lo) h)) (hb : ∀ lo hp h, Sm r n0 m0 h0 hp h → OS r n0 m0 h0 (b1 lo hp) (b2 (rLo r lo) h)) :
    ∀ (n : Nat) (lo : Lo) (hp h : HP), Sm r n0 m0 h0 hp h → OS r n0 m0 h0 (whGo t1 b1 n lo hp) (whGo t2 b2 n (rLo r lo) h)
  | 0, _, _, _, _ => trivial
  | n + 1, lo, hp, h, s => by
    rw [whGo, whGo]
    refine RS.out (ht lo hp h s) fun b hp h s => iteO_ren ?_ ⟨h, rfl, s⟩
    have h1 := hb lo hp h s
    cases eo : b1 lo hp with
    | nx lo1 hp1 =>
      rw [eo] at h1
      obtain ⟨h', q, s1⟩ := h1
      rw [q]
      exact wh_ren R ht hb n lo1 hp1 h' s1
    | ct lo1 hp1 =>
      rw [eo] at h1
      obtain ⟨h', q, s1⟩ := h1
      rw [q]
      exact wh_ren R ht hb n lo1 hp1 h' s1
    | bk lo1 hp1 =>
      rw [eo] at h1
      obtain ⟨h', q, s1⟩ := h1
      rw [q]
      exact ⟨h', rfl, s1⟩
    | rt d hp1 =>
      rw [eo] at h1
      obtain ⟨h', q, s1⟩ := h1
      rw [q]
      exact ⟨h', rfl, s1⟩
    | ex x lo1 hp1 =>
      rw [eo] at h1
      obtain ⟨h', q, s1⟩ := h1
      rw [q]
      exact ⟨h', rfl, s1⟩
    | bad => trivial
section
variable {cf cf' : Nat → List D → HP → Res D} {sub : Nat → Nat → Bool} {wf : Nat}
mutual
theorem exS_ren (R : Rn r n0 m0) (hc : CfS r n0 m0 h0 cf cf') : ∀ (x : S), x.nr = true → ∀ (lo : Lo) (hp h : HP), Sm r n0 m0 h0 hp h → OS r n0 m0 h0 (exS cf sub wf x lo hp) (exS cf' sub wf x (rLo r lo) h)
  | .asg t e, n, lo, hp, h, s => by
    rw [S.nr] at n
    rw [exS, exS]
    refine RS.out (evE_ren R hc e n lo hp h s) fun d hp h s => ?_
    cases eb : bindT hp t d lo.v with
    | none => trivial
    | some l' =>
      have : bindT h t (rD r d) (rLo r lo).v = some (rV r l') := bindT_ren s _ _ _ _ eb
      rw [this]
      exact ⟨h, rfl, s⟩
  | .asx a i e, n, lo, hp, h, s => by
    rw [S.nr, Bool.and_eq_true, Bool.and_eq_true] at n
    rw [exS, exS]
    refine RS.out (evE_ren R hc e n.2.2 lo hp h s) fun y hp h s => RS.out (evE_ren R hc a n.1 lo hp h s) fun x hp h s => RS.out (evE_ren R hc i n.2.1 lo hp h s) fun k hp h s => ?_
    cases x with
    | ref m =>
      cases k with
      | int k =>
        rw [rD_ref, rD_int]
        dsimp only
        cases q : hp[m]? with
        | none => trivial
        | some o =>
          rw [s.obj _ _ q]
          cases o with
          | lst xs =>
            simp only [rO, List.length_map]
            cases ej : L2.ixN xs.length k with
            | none => trivial
            | some j =>
              dsimp only
              have hm := (List.getElem?_eq_some_iff.mp q).1
              have st := s.set R hm (.lst (xs.set j y))
              simp only [rO, List.map_set] at st
              exact ⟨_, rfl, st⟩
          | frz _ => trivial
          | dct _ => trivial
          | set _ => trivial
      | _ => trivial
    | _ => trivial
  | .exp e, n, lo, hp, h, s => by
    rw [S.nr] at n
    rw [exS, exS]
    exact RS.out (evE_ren R hc e n lo hp h s) fun d hp h s => ⟨h, rfl, s⟩
  | .ret e, n, lo, hp, h, s => by
    rw [S.nr] at n
    rw [exS, exS]
    exact RS.out (evE_ren R hc e n lo hp h s) fun d hp h s => ⟨h, rfl, s⟩
  | .ite c a b, n, lo, hp, h, s => by
    rw [S.nr, Bool.and_eq_true, Bool.and_eq_true] at n
    rw [exS, exS]
    exact RS.out (evE_ren R hc c n.1 lo hp h s) fun d hp h s => RS.out (f := id) (.lift s fun k e => truthy_ren s e) fun k hp h s => iteO_ren (exL_ren R hc a n.2.1 lo hp h s) (exL_ren R hc b n.2.2 lo hp h s)
  | .for_ t w b, n, lo, hp, h, s => by
    rw [S.nr, Bool.and_eq_true] at n
    rw [exS, exS]
    exact RS.out (evW_ren R hc w n.1 lo hp h s) fun iw hp h s => for_ren R (fun lo hp h s => exL_ren R hc b n.2 lo hp h s) iw.1 lo hp h s
  | .whl c b, n, lo, hp, h, s => by
    rw [S.nr, Bool.and_eq_true] at n
    rw [exS, exS]
    exact wh_ren R (fun lo hp h s => .bind (evE_ren R hc c n.1 lo hp h s) fun x hp h s => .lift s fun k e => truthy_ren s e) (fun lo hp h s => exL_ren R hc b n.2 lo hp h s) wf lo hp h s
  | .try_ b hs, n, lo, hp, h, s => by
    rw [S.nr, Bool.and_eq_true] at n
    rw [exS, exS]
    have h1 := exL_ren R hc b n.1 lo hp h s
    cases eo : exL cf sub wf b lo hp with
    | nx lo1 hp1 =>
      rw [eo] at h1
      obtain ⟨h', q, s1⟩ := h1
      rw [q]
      exact ⟨h', rfl, s1⟩
    | ct lo1 hp1 =>
      rw [eo] at h1
      obtain ⟨h', q, s1⟩ := h1
      rw [q]
      exact ⟨h', rfl, s1⟩
    | bk lo1 hp1 =>
      rw [eo] at h1
      obtain ⟨h', q, s1⟩ := h1
      rw [q]
      exact ⟨h', rfl, s1⟩
    | rt d hp1 =>
      rw [eo] at h1
      obtain ⟨h', q, s1⟩ := h1
      rw [q]
      exact ⟨h', rfl, s1⟩
    | ex x lo1 hp1 =>
      rw [eo] at h1
      obtain ⟨h', q, s1⟩ := h1
      rw [q]
      exact exH_ren R hc hs n.2 x lo1 hp1 h' s1
    | bad => trivial
  | .rse c k es, n, lo, hp, h, s => by
    rw [S.nr] at n
    rw [exS, exS]
    refine RS.out (evL_ren R hc es n lo hp h s) fun ds hp h s => ⟨h, ?_, s⟩
    cases k <;> rfl
  | .pass, _, lo, hp, h, s => by
    rw [exS, exS]
    exact ⟨h, rfl, s⟩
  | .brk, _, lo, hp, h, s => by
    rw [exS, exS]
    exact ⟨h, rfl, s⟩
  | .cont, _, lo, hp, h, s => by
    rw [exS, exS]
    exact ⟨h, rfl, s⟩
theorem exL_ren (R : Rn r n0 m0) (hc : CfS r n0 m0 h0 cf cf') : ∀ (x : SL), x.nr = true → ∀ (lo : Lo) (hp h : HP), Sm r n0 m0 h0 hp h → OS r n0 m0 h0 (exL cf sub wf x lo hp) (exL cf' sub wf x (rLo r lo) h)
  | .nil, _, lo, hp, h, s => by
    rw [exL, exL]
    exact ⟨h, rfl, s⟩
  | .cons x t, n, lo, hp, h, s => by
    rw [SL.nr, Bool.and_eq_true] at n
    rw [exL, exL]
    exact OS.then (exS_ren R hc x n.1 lo hp h s) fun lo hp h s => exL_ren R hc t n.2 lo hp h s
theorem exH_ren (R : Rn r n0 m0) (hc : CfS r n0 m0 h0 cf cf') : ∀ (x : HL), x.nr = true → ∀ (e : Xn) (lo : Lo) (hp h : HP), Sm r n0 m0 h0 hp h → OS r n0 m0 h0 (exH cf sub wf x e lo hp) (exH cf' sub wf x (rX r e) (rLo r lo) h)
  | .nil, _, e, lo, hp, h, s => by
    rw [exH, exH]
    exact ⟨h, rfl, s⟩
  | .cons c k b t, n, e, lo, hp, h, s => by
    rw [HL.nr, Bool.and_eq_true] at n
    rw [exH.eq_def, exH.eq_def cf']
    dsimp only
    have ec : (rX r e).c = e.c := rfl
    rw [ec]
    by_cases hs : sub e.c c = true
    · rw [if_pos hs, if_pos hs]
      cases k with
      | none =>
        dsimp only
        have h1 := exL_ren R hc b n.1 ⟨lo.v, some e⟩ hp h s
        have e2 : (⟨(rLo r lo).v, some (rX r e)⟩ : Lo) = rLo r ⟨lo.v, some e⟩ := rfl
        rw [e2]
        cases eo : exL cf sub wf b ⟨lo.v, some e⟩ hp with
        | nx lo1 hp1 =>
          rw [eo] at h1
          obtain ⟨h', q, s1⟩ := h1
          rw [q]
          exact ⟨h', rfl, s1⟩
        | ct lo1 hp1 =>
          rw [eo] at h1
          obtain ⟨h', q, s1⟩ := h1
          rw [q]
          exact ⟨h', rfl, s1⟩
        | bk lo1 hp1 =>
          rw [eo] at h1
          obtain ⟨h', q, s1⟩ := h1
          rw [q]
          exact ⟨h', rfl, s1⟩
        | rt d hp1 =>
          rw [eo] at h1
          obtain ⟨h', q, s1⟩ := h1
          rw [q]
          exact ⟨h', rfl, s1⟩
        | ex _ _ _ => trivial
        | bad => trivial
      | some i =>
        dsimp only
        have el : (rLo r lo).v.length = lo.v.length := rV_len
        rw [el]
        by_cases hi : i < lo.v.length
        · rw [if_pos hi, if_pos hi]
          have h1 := exL_ren R hc b n.1 ⟨lo.v.set i none, some e⟩ hp h s
          have e2 : (⟨(rLo r lo).v.set i none, some (rX r e)⟩ : Lo) = rLo r ⟨lo.v.set i none, some e⟩ := by
            unfold rLo
            dsimp only
            rw [rV_set]
            rfl
          rw [e2]
          have back : ∀ (l : Lo), (⟨(rLo r l).v.set i none, (rLo r lo).x⟩ : Lo) = rLo r ⟨l.v.set i none, lo.x⟩ := fun l => by
            unfold rLo
            dsimp only
            rw [rV_set]
            rfl
          cases eo : exL cf sub wf b ⟨lo.v.set i none, some e⟩ hp with
          | nx lo1 hp1 =>
            rw [eo] at h1
            obtain ⟨h', q, s1⟩ := h1
            rw [q]
            exact ⟨h', by dsimp only; rw [back], s1⟩
          | ct lo1 hp1 =>
            rw [eo] at h1
            obtain ⟨h', q, s1⟩ := h1
            rw [q]
            exact ⟨h', by dsimp only; rw [back], s1⟩
          | bk lo1 hp1 =>
            rw [eo] at h1
            obtain ⟨h', q, s1⟩ := h1
            rw [q]
            exact ⟨h', by dsimp only; rw [back], s1⟩
          | rt d hp1 =>
            rw [eo] at h1
            obtain ⟨h', q, s1⟩ := h1
            rw [q]
            exact ⟨h', rfl, s1⟩
          | ex _ _ _ => trivial
          | bad => trivial
        · rw [if_neg hi]
          trivial
    · rw [if_neg hs, if_neg hs]
      exact exH_ren R hc t n.2 e lo hp h s
end
end
def Pg.nr (P : Pg) : Bool := P.fns.all fun f => f.body.nr
theorem run_ren (R : Rn r n0 m0) {P : Pg} (hn : P.nr = true) {wf : Nat} : ∀ k, CfS r n0 m0 h0 (run P wf k) (run P wf k)
  | 0 => fun _ _ _ _ _ => trivial
  | k + 1 => fun f ds hp h s => by
    rw [run, run]
    cases e : P.fns[f]? with
    | none => trivial
    | some fn =>
      dsimp only
      rw [List.length_map]
      by_cases hl : ds.length = fn.np
      · rw [if_pos hl, if_pos hl]
        have hb : fn.body.nr = true := List.all_eq_true.mp hn fn (List.mem_of_getElem? e)
        have h1 := exL_ren (sub := P.sub) (wf := wf) R (run_ren (wf := wf) R hn k) fn.body hb ⟨ds.map some ++ List.replicate (fn.ns - fn.np) none, none⟩ hp h s
        have e2 : rLo r ⟨ds.map some ++ List.replicate (fn.ns - fn.np) none, none⟩ = ⟨(ds.map (rD r)).map some ++ List.replicate (fn.ns - fn.np) none, none⟩ := by
          unfold rLo rV
          simp [Function.comp_def]
        rw [e2] at h1
        cases eo : exL (run P wf k) P.sub wf fn.body ⟨ds.map some ++ List.replicate (fn.ns - fn.np) none, none⟩ hp with
        | nx lo1 hp1 =>
          rw [eo] at h1
          obtain ⟨h', q, s1⟩ := h1
          rw [q]
          have := gc_ren R s s1 .non
          rw [rD_non] at this
          exact this
        | rt d hp1 =>
          rw [eo] at h1
          obtain ⟨h', q, s1⟩ := h1
          rw [q]
          exact gc_ren R s s1 d
        | ex x lo1 hp1 =>
          rw [eo] at h1
          obtain ⟨h', q, s1⟩ := h1
          rw [q]
          exact gcX_ren R s s1 x
        | bk _ _ => trivial
        | ct _ _ => trivial
        | bad => trivial
      · rw [if_neg hl]
        trivial
end
/-! ### for use -/
/-- the numbers: the first ones as told, then as they come -/
def rAt (l : List Nat) (m0 : Nat) (i : Nat) : Nat := match l[i]? with
  | some k => k
  | none => m0 + (i - l.length)
theorem rAt_rn {l : List Nat} {m0 : Nat} (hl : ∀ k ∈ l, k < m0) (nd : l.Nodup) : Rn (rAt l m0) l.length m0 where
  lo := fun i hi => by
    unfold rAt
    rw [List.getElem?_eq_getElem hi]
    exact hl _ (List.getElem_mem hi)
  hi := fun i hi => by
    unfold rAt
    rw [List.getElem?_eq_none hi]
  inj := fun i j e => by
    unfold rAt at e
    by_cases h1 : i < l.length
    · rw [List.getElem?_eq_getElem h1] at e
      have := hl _ (List.getElem_mem h1)
      by_cases h2 : j < l.length
      · rw [List.getElem?_eq_getElem h2] at e
        exact (List.getElem_inj nd).mp e
      · rw [List.getElem?_eq_none (by omega)] at e
        dsimp only at e
        omega
    · rw [List.getElem?_eq_none (by omega)] at e
      by_cases h2 : j < l.length
      · rw [List.getElem?_eq_getElem h2] at e
        have := hl _ (List.getElem_mem h2)
        dsimp only at e
        omega
      · rw [List.getElem?_eq_none (by omega)] at e
        dsimp only at e
        omega
/-- A CALL: seen at a small heap, done in a large one; l: where the small heap's objects stand -/
theorem call_at {P : Pg} (hn : P.nr = true) {wf k f : Nat} {ds : List D} {hp hp' h : HP} {d : D} (l : List Nat) (hll : l.length = hp.length) (hl : ∀ k ∈ l, k < h.length) (nd : l.Nodup) (ho : ∀ (i : Nat) o, hp[i]? = some o → h[rAt l h.length i]? = some (rO (rAt l h.length) o))
    (e : run P wf k f ds hp = .ok d hp') : ∃ h', run P wf k f (ds.map (rD (rAt l h.length))) h = .ok (rD (rAt l h.length) d) h' ∧ h'.length = h.length + (hp'.length - hp.length) ∧ hp.length ≤ hp'.length ∧
      (∀ (i : Nat) o, hp'[i]? = some o → h'[rAt l h.length i]? = some (rO (rAt l h.length) o)) ∧ ∀ m, m < h.length → m ∉ l → h'[m]? = h[m]? := by
  have R := rAt_rn hl nd
  have s : Sm (rAt l h.length) l.length h.length h hp h := ⟨by omega, by omega, ho, fun _ _ _ => rfl⟩
  have := run_ren R hn (wf := wf) k f ds hp h s
  rw [e] at this
  obtain ⟨h', e1, s'⟩ := this
  refine ⟨h', e1, by rw [s'.len, hll], by rw [← hll]; exact s'.le, s'.obj, fun m hm hn => s'.fr m hm fun i hi q => hn ?_⟩
  unfold rAt at q
  rw [List.getElem?_eq_getElem hi] at q
  subst q
  exact List.getElem_mem hi
theorem call_ex {P : Pg} (hn : P.nr = true) {wf k f : Nat} {ds : List D} {hp hp' h : HP} {x : Xn} (l : List Nat) (hll : l.length = hp.length) (hl : ∀ k ∈ l, k < h.length) (nd : l.Nodup) (ho : ∀ (i : Nat) o, hp[i]? = some o → h[rAt l h.length i]? = some (rO (rAt l h.length) o))
    (e : run P wf k f ds hp = .ex x hp') : ∃ h', run P wf k f (ds.map (rD (rAt l h.length))) h = .ex (rX (rAt l h.length) x) h' ∧ h'.length = h.length + (hp'.length - hp.length) ∧ hp.length ≤ hp'.length ∧
      (∀ (i : Nat) o, hp'[i]? = some o → h'[rAt l h.length i]? = some (rO (rAt l h.length) o)) ∧ ∀ m, m < h.length → m ∉ l → h'[m]? = h[m]? := by
  have R := rAt_rn hl nd
  have s : Sm (rAt l h.length) l.length h.length h hp h := ⟨by omega, by omega, ho, fun _ _ _ => rfl⟩
  have := run_ren R hn (wf := wf) k f ds hp h s
  rw [e] at this
  obtain ⟨h', e1, s'⟩ := this
  refine ⟨h', e1, by rw [s'.len, hll], by rw [← hll]; exact s'.le, s'.obj, fun m hm hn => s'.fr m hm fun i hi q => hn ?_⟩
  unfold rAt at q
  rw [List.getElem?_eq_getElem hi] at q
  subst q
  exact List.getElem_mem hi
/-- no objects are asked, none is made: any heap -/
theorem call_pure {P : Pg} (hn : P.nr = true) {wf k f : Nat} {ds : List D} {d : D} (hd : D.nrL ds = true) (hr : d.nr = true) (e : run P wf k f ds [] = .ok d []) (h : HP) : run P wf k f ds h = .ok d h := by
  obtain ⟨h', e1, e2, _, _, e4⟩ := call_at (h := h) hn [] rfl (fun _ h => nomatch h) List.nodup_nil (fun i o e => by simp at e) e
  rw [nrL_id hd, nr_id hr] at e1
  have : h' = h := by
    refine List.ext_getElem? fun m => ?_
    by_cases hm : m < h.length
    · exact e4 m hm (by simp)
    · rw [List.length_nil] at e2
      rw [List.getElem?_eq_none (by omega), List.getElem?_eq_none (by omega)]
  rw [e1, this]
theorem call_pureX {P : Pg} (hn : P.nr = true) {wf k f : Nat} {ds : List D} {x : Xn} (hd : D.nrL ds = true) (hr : D.nrL x.fs = true) (e : run P wf k f ds [] = .ex x []) (h : HP) : run P wf k f ds h = .ex x h := by
  obtain ⟨h', e1, e2, _, _, e4⟩ := call_ex (h := h) hn [] rfl (fun _ h => nomatch h) List.nodup_nil (fun i o e => by simp at e) e
  have ex : rX (rAt [] h.length) x = x := by unfold rX; rw [nrL_id hr]
  rw [nrL_id hd, ex] at e1
  have : h' = h := by
    refine List.ext_getElem? fun m => ?_
    by_cases hm : m < h.length
    · exact e4 m hm (by simp)
    · rw [List.length_nil] at e2
      rw [List.getElem?_eq_none (by omega), List.getElem?_eq_none (by omega)]
  rw [e1, this]
/-- no objects are asked, one flat new list comes back -/
theorem call_list {P : Pg} (hn : P.nr = true) {wf k f : Nat} {ds xs : List D} (hd : D.nrL ds = true) (hr : D.nrL xs = true) (e : run P wf k f ds [] = .ok (.ref 0) [.lst xs]) (h : HP) : run P wf k f ds h = .ok (.ref h.length) (h ++ [.lst xs]) := by
  obtain ⟨h', e1, e2, _, e3, e4⟩ := call_at (h := h) hn [] rfl (fun _ h => nomatch h) List.nodup_nil (fun i o e => by simp at e) e
  rw [nrL_id hd, rD_ref] at e1
  have e0 : rAt [] h.length 0 = h.length := rfl
  rw [e0] at e1
  have e5 := e3 0 _ rfl
  rw [e0] at e5
  simp only [rO, nrL_id hr] at e5
  have : h' = h ++ [.lst xs] := by
    refine List.ext_getElem? fun m => ?_
    by_cases hm : m < h.length
    · rw [List.getElem?_append_left hm]
      exact e4 m hm (by simp)
    · by_cases hm2 : m = h.length
      · subst hm2
        rw [e5, List.getElem?_append_right (Nat.le_refl _), Nat.sub_self]
        rfl
      · rw [List.length_nil, List.length_singleton] at e2
        rw [List.getElem?_eq_none (by omega), List.getElem?_eq_none (by rw [List.length_append, List.length_singleton]; omega)]
  rw [e1, this]
end MP

end
section
set_option Elab.async false
set_option linter.all false
set_option maxRecDepth 100000
set_option maxHeartbeats 1000000
/-! MP: rows for a walk over a text by simp. -/
namespace MP
open PySem
def Out.fin (o : Out) (h : HP) : Res D := match o with
  | .nx _ h' => gc h .non h'
  | .rt d h' => gc h d h'
  | .ex x _ h' => gcX h x h'
  | _ => .bad
theorem fin_nx {ls : Lo} {h h' : HP} : (Out.nx ls h').fin h = gc h .non h' := rfl
theorem fin_rt {d : D} {h h' : HP} : (Out.rt d h').fin h = gc h d h' := rfl
theorem fin_ex {x : Xn} {ls : Lo} {h h' : HP} : (Out.ex x ls h').fin h = gcX h x h' := rfl
/-- a suite's end -/
def Out.suE (o : Out) (g : Lo → Lo) : Out := match o with
  | .nx l h => .nx (g l) h
  | .bk l h => .bk (g l) h
  | .ct l h => .ct (g l) h
  | .rt d h => .rt d h
  | _ => .bad
theorem su_nx {ls : Lo} {h : HP} {g : Lo → Lo} : (Out.nx ls h).suE g = .nx (g ls) h := rfl
theorem su_bk {ls : Lo} {h : HP} {g : Lo → Lo} : (Out.bk ls h).suE g = .bk (g ls) h := rfl
theorem su_ct {ls : Lo} {h : HP} {g : Lo → Lo} : (Out.ct ls h).suE g = .ct (g ls) h := rfl
theorem su_rt {d : D} {h : HP} {g : Lo → Lo} : (Out.rt d h).suE g = .rt d h := rfl
/-- a loop's body, its test, a comprehension's tests and element: not looked into before they run -/
def fB (cf : Nat → List D → HP → Res D) (sub : Nat → Nat → Bool) (wf : Nat) (b : SL) (l : Lo) (h : HP) : Out := exL cf sub wf b l h
def fT (cf : Nat → List D → HP → Res D) (sub : Nat → Nat → Bool) (c : E) (l : Lo) (h : HP) : Res Bool := (evE cf sub c l h).bind fun x h => lift (truthy h x) h
def fTs (cf : Nat → List D → HP → Res D) (sub : Nat → Nat → Bool) (es : EL) (x : Option Xn) (l : List (Option D)) (h : HP) : Res Bool := evTs cf sub es ⟨l, x⟩ h
def fE (cf : Nat → List D → HP → Res D) (sub : Nat → Nat → Bool) (e : E) (x : Option Xn) (l : List (Option D)) (h : HP) : Res D := evE cf sub e ⟨l, x⟩ h
def stO (x k y : D) (ls : Lo) (h : HP) : Out := match x, k with
  | .ref m, .int k => (match h[m]? with
    | some (.lst xs) => (match L2.ixN xs.length k with
      | some j => .nx ls (h.set m (.lst (xs.set j y)))
      | none => .bad)
    | _ => .bad)
  | _, _ => .bad
def gL (o : Option (Option D)) (h : HP) : Res D := match o with
  | some (some d) => .ok d h
  | _ => .bad
theorem gL_some {d : D} {h : HP} : gL (some (some d)) h = .ok d h := rfl
def kN (r : Res D) : Res D := match r with
  | .ok (.int i) h => .ok (.int (-i)) h
  | .ex x h => .ex x h
  | _ => .bad
theorem kN_ok {i : Int} {h : HP} : kN (.ok (.int i) h) = .ok (.int (-i)) h := rfl
theorem kN_ex {x : Xn} {h : HP} : kN (.ex x h) = .ex x h := rfl
def kB2 (op : BOp) (u : D) (r : Res (D)) : Res D := match r with
  | .ok x h => opB op u x h
  | .ex x h => .ex x h
  | .bad => .bad
theorem kB2_ok {op : BOp} {u : D} {x : D} {h : HP} : kB2 op u (.ok x h) = opB op u x h := rfl
theorem kB2_ex {op : BOp} {u : D} {x : Xn} {h : HP} : kB2 op u (.ex x h) = .ex x h := rfl
theorem kB2_eq {op : BOp} {u : D} {r : Res (D)} : kB2 op u r = r.bind fun x h => opB op u x h := by cases r <;> rfl
def kB1 (cf : Nat → List D → HP → Res D) (sub : Nat → Nat → Bool) (op : BOp) (b : E) (ls : Lo) (r : Res (D)) : Res D := match r with
  | .ok x h => kB2 op x (evE cf sub b ls h)
  | .ex x h => .ex x h
  | .bad => .bad
theorem kB1_ok {cf : Nat → List D → HP → Res D} {sub : Nat → Nat → Bool} {op : BOp} {b : E} {ls : Lo} {x : D} {h : HP} : kB1 cf sub op b ls (.ok x h) = kB2 op x (evE cf sub b ls h) := rfl
theorem kB1_ex {cf : Nat → List D → HP → Res D} {sub : Nat → Nat → Bool} {op : BOp} {b : E} {ls : Lo} {x : Xn} {h : HP} : kB1 cf sub op b ls (.ex x h) = .ex x h := rfl
theorem kB1_eq {cf : Nat → List D → HP → Res D} {sub : Nat → Nat → Bool} {op : BOp} {b : E} {ls : Lo} {r : Res (D)} : kB1 cf sub op b ls r = r.bind fun x h => kB2 op x (evE cf sub b ls h) := by cases r <;> rfl
def kC3  (o : Option (Bool)) (h : HP) : Res D := match o with
  | some v => .ok (.bl v) h
  | none => .bad
theorem kC3_some  {v : Bool} {h : HP} : kC3  (some v) h = .ok (.bl v) h := rfl
theorem kC3_eq  {o : Option (Bool)} {h : HP} : kC3  o h = (lift o h).bind fun v h => .ok (.bl v) h := by cases o <;> rfl
def kC2 (op : COp) (u : D) (r : Res (D)) : Res D := match r with
  | .ok x h => kC3 (opC op u x h) h
  | .ex x h => .ex x h
  | .bad => .bad
theorem kC2_ok {op : COp} {u : D} {x : D} {h : HP} : kC2 op u (.ok x h) = kC3 (opC op u x h) h := rfl
theorem kC2_ex {op : COp} {u : D} {x : Xn} {h : HP} : kC2 op u (.ex x h) = .ex x h := rfl
theorem kC2_eq {op : COp} {u : D} {r : Res (D)} : kC2 op u r = r.bind fun x h => kC3 (opC op u x h) h := by cases r <;> rfl
def kC1 (cf : Nat → List D → HP → Res D) (sub : Nat → Nat → Bool) (op : COp) (b : E) (ls : Lo) (r : Res (D)) : Res D := match r with
  | .ok x h => kC2 op x (evE cf sub b ls h)
  | .ex x h => .ex x h
  | .bad => .bad
theorem kC1_ok {cf : Nat → List D → HP → Res D} {sub : Nat → Nat → Bool} {op : COp} {b : E} {ls : Lo} {x : D} {h : HP} : kC1 cf sub op b ls (.ok x h) = kC2 op x (evE cf sub b ls h) := rfl
theorem kC1_ex {cf : Nat → List D → HP → Res D} {sub : Nat → Nat → Bool} {op : COp} {b : E} {ls : Lo} {x : Xn} {h : HP} : kC1 cf sub op b ls (.ex x h) = .ex x h := rfl
theorem kC1_eq {cf : Nat → List D → HP → Res D} {sub : Nat → Nat → Bool} {op : COp} {b : E} {ls : Lo} {r : Res (D)} : kC1 cf sub op b ls r = r.bind fun x h => kC2 op x (evE cf sub b ls h) := by cases r <;> rfl
def kH3 (cf : Nat → List D → HP → Res D) (sub : Nat → Nat → Bool) (op : COp) (u : D) (c : E) (ls : Lo) (o : Option Bool) (h : HP) : Res D := match o with
  | some true => kC2 op u (evE cf sub c ls h)
  | some false => .ok (.bl false) h
  | none => .bad
theorem kH3_t {cf : Nat → List D → HP → Res D} {sub : Nat → Nat → Bool} {op : COp} {u : D} {c : E} {ls : Lo} {h : HP} : kH3 cf sub op u c ls (some true) h = kC2 op u (evE cf sub c ls h) := rfl
theorem kH3_f {cf : Nat → List D → HP → Res D} {sub : Nat → Nat → Bool} {op : COp} {u : D} {c : E} {ls : Lo} {h : HP} : kH3 cf sub op u c ls (some false) h = .ok (.bl false) h := rfl
theorem kH3_eq {cf : Nat → List D → HP → Res D} {sub : Nat → Nat → Bool} {op : COp} {u : D} {c : E} {ls : Lo} {o : Option Bool} {h : HP} : kH3 cf sub op u c ls o h = (lift o h).bind fun r h => if r = true then kC2 op u (evE cf sub c ls h) else .ok (.bl false) h := by
  cases o with
  | none => rfl
  | some b => cases b <;> rfl
def kH2 (cf : Nat → List D → HP → Res D) (sub : Nat → Nat → Bool) (o1 : COp) (o2 : COp) (u : D) (c : E) (ls : Lo) (r : Res (D)) : Res D := match r with
  | .ok x h => kH3 cf sub o2 x c ls (opC o1 u x h) h
  | .ex x h => .ex x h
  | .bad => .bad
theorem kH2_ok {cf : Nat → List D → HP → Res D} {sub : Nat → Nat → Bool} {o1 : COp} {o2 : COp} {u : D} {c : E} {ls : Lo} {x : D} {h : HP} : kH2 cf sub o1 o2 u c ls (.ok x h) = kH3 cf sub o2 x c ls (opC o1 u x h) h := rfl
theorem kH2_ex {cf : Nat → List D → HP → Res D} {sub : Nat → Nat → Bool} {o1 : COp} {o2 : COp} {u : D} {c : E} {ls : Lo} {x : Xn} {h : HP} : kH2 cf sub o1 o2 u c ls (.ex x h) = .ex x h := rfl
theorem kH2_eq {cf : Nat → List D → HP → Res D} {sub : Nat → Nat → Bool} {o1 : COp} {o2 : COp} {u : D} {c : E} {ls : Lo} {r : Res (D)} : kH2 cf sub o1 o2 u c ls r = r.bind fun x h => kH3 cf sub o2 x c ls (opC o1 u x h) h := by cases r <;> rfl
def kH1 (cf : Nat → List D → HP → Res D) (sub : Nat → Nat → Bool) (o1 : COp) (o2 : COp) (b : E) (c : E) (ls : Lo) (r : Res (D)) : Res D := match r with
  | .ok x h => kH2 cf sub o1 o2 x c ls (evE cf sub b ls h)
  | .ex x h => .ex x h
  | .bad => .bad
theorem kH1_ok {cf : Nat → List D → HP → Res D} {sub : Nat → Nat → Bool} {o1 : COp} {o2 : COp} {b : E} {c : E} {ls : Lo} {x : D} {h : HP} : kH1 cf sub o1 o2 b c ls (.ok x h) = kH2 cf sub o1 o2 x c ls (evE cf sub b ls h) := rfl
theorem kH1_ex {cf : Nat → List D → HP → Res D} {sub : Nat → Nat → Bool} {o1 : COp} {o2 : COp} {b : E} {c : E} {ls : Lo} {x : Xn} {h : HP} : kH1 cf sub o1 o2 b c ls (.ex x h) = .ex x h := rfl
theorem kH1_eq {cf : Nat → List D → HP → Res D} {sub : Nat → Nat → Bool} {o1 : COp} {o2 : COp} {b : E} {c : E} {ls : Lo} {r : Res (D)} : kH1 cf sub o1 o2 b c ls r = r.bind fun x h => kH2 cf sub o1 o2 x c ls (evE cf sub b ls h) := by cases r <;> rfl
def kA2 (cf : Nat → List D → HP → Res D) (sub : Nat → Nat → Bool) (b : E) (ls : Lo) (u : D) (o : Option Bool) (h : HP) : Res D := match o with
  | some true => evE cf sub b ls h
  | some false => .ok u h
  | none => .bad
theorem kA2_t {cf : Nat → List D → HP → Res D} {sub : Nat → Nat → Bool} {b : E} {ls : Lo} {u : D} {h : HP} : kA2 cf sub b ls u (some true) h = evE cf sub b ls h := rfl
theorem kA2_f {cf : Nat → List D → HP → Res D} {sub : Nat → Nat → Bool} {b : E} {ls : Lo} {u : D} {h : HP} : kA2 cf sub b ls u (some false) h = .ok u h := rfl
theorem kA2_eq {cf : Nat → List D → HP → Res D} {sub : Nat → Nat → Bool} {b : E} {ls : Lo} {u : D} {o : Option Bool} {h : HP} : kA2 cf sub b ls u o h = (lift o h).bind fun r h => if r = true then evE cf sub b ls h else .ok u h := by
  cases o with
  | none => rfl
  | some b => cases b <;> rfl
def kA (cf : Nat → List D → HP → Res D) (sub : Nat → Nat → Bool) (b : E) (ls : Lo) (r : Res (D)) : Res D := match r with
  | .ok x h => kA2 cf sub b ls x (truthy h x) h
  | .ex x h => .ex x h
  | .bad => .bad
theorem kA_ok {cf : Nat → List D → HP → Res D} {sub : Nat → Nat → Bool} {b : E} {ls : Lo} {x : D} {h : HP} : kA cf sub b ls (.ok x h) = kA2 cf sub b ls x (truthy h x) h := rfl
theorem kA_ex {cf : Nat → List D → HP → Res D} {sub : Nat → Nat → Bool} {b : E} {ls : Lo} {x : Xn} {h : HP} : kA cf sub b ls (.ex x h) = .ex x h := rfl
theorem kA_eq {cf : Nat → List D → HP → Res D} {sub : Nat → Nat → Bool} {b : E} {ls : Lo} {r : Res (D)} : kA cf sub b ls r = r.bind fun x h => kA2 cf sub b ls x (truthy h x) h := by cases r <;> rfl
def kO2 (cf : Nat → List D → HP → Res D) (sub : Nat → Nat → Bool) (b : E) (ls : Lo) (u : D) (o : Option Bool) (h : HP) : Res D := match o with
  | some true => .ok u h
  | some false => evE cf sub b ls h
  | none => .bad
theorem kO2_t {cf : Nat → List D → HP → Res D} {sub : Nat → Nat → Bool} {b : E} {ls : Lo} {u : D} {h : HP} : kO2 cf sub b ls u (some true) h = .ok u h := rfl
theorem kO2_f {cf : Nat → List D → HP → Res D} {sub : Nat → Nat → Bool} {b : E} {ls : Lo} {u : D} {h : HP} : kO2 cf sub b ls u (some false) h = evE cf sub b ls h := rfl
theorem kO2_eq {cf : Nat → List D → HP → Res D} {sub : Nat → Nat → Bool} {b : E} {ls : Lo} {u : D} {o : Option Bool} {h : HP} : kO2 cf sub b ls u o h = (lift o h).bind fun r h => if r = true then .ok u h else evE cf sub b ls h := by
  cases o with
  | none => rfl
  | some b => cases b <;> rfl
def kO (cf : Nat → List D → HP → Res D) (sub : Nat → Nat → Bool) (b : E) (ls : Lo) (r : Res (D)) : Res D := match r with
  | .ok x h => kO2 cf sub b ls x (truthy h x) h
  | .ex x h => .ex x h
  | .bad => .bad
theorem kO_ok {cf : Nat → List D → HP → Res D} {sub : Nat → Nat → Bool} {b : E} {ls : Lo} {x : D} {h : HP} : kO cf sub b ls (.ok x h) = kO2 cf sub b ls x (truthy h x) h := rfl
theorem kO_ex {cf : Nat → List D → HP → Res D} {sub : Nat → Nat → Bool} {b : E} {ls : Lo} {x : Xn} {h : HP} : kO cf sub b ls (.ex x h) = .ex x h := rfl
theorem kO_eq {cf : Nat → List D → HP → Res D} {sub : Nat → Nat → Bool} {b : E} {ls : Lo} {r : Res (D)} : kO cf sub b ls r = r.bind fun x h => kO2 cf sub b ls x (truthy h x) h := by cases r <;> rfl
def kNt2  (o : Option (Bool)) (h : HP) : Res D := match o with
  | some v => .ok (.bl (!v)) h
  | none => .bad
theorem kNt2_some  {v : Bool} {h : HP} : kNt2  (some v) h = .ok (.bl (!v)) h := rfl
theorem kNt2_eq  {o : Option (Bool)} {h : HP} : kNt2  o h = (lift o h).bind fun v h => .ok (.bl (!v)) h := by cases o <;> rfl
def kNt  (r : Res (D)) : Res D := match r with
  | .ok x h => kNt2 (truthy h x) h
  | .ex x h => .ex x h
  | .bad => .bad
theorem kNt_ok  {x : D} {h : HP} : kNt  (.ok x h) = kNt2 (truthy h x) h := rfl
theorem kNt_ex  {x : Xn} {h : HP} : kNt  (.ex x h) = .ex x h := rfl
theorem kNt_eq  {r : Res (D)} : kNt  r = r.bind fun x h => kNt2 (truthy h x) h := by cases r <;> rfl
def kI2 (cf : Nat → List D → HP → Res D) (sub : Nat → Nat → Bool) (a : E) (b : E) (ls : Lo) (o : Option Bool) (h : HP) : Res D := match o with
  | some true => evE cf sub a ls h
  | some false => evE cf sub b ls h
  | none => .bad
theorem kI2_t {cf : Nat → List D → HP → Res D} {sub : Nat → Nat → Bool} {a : E} {b : E} {ls : Lo} {h : HP} : kI2 cf sub a b ls (some true) h = evE cf sub a ls h := rfl
theorem kI2_f {cf : Nat → List D → HP → Res D} {sub : Nat → Nat → Bool} {a : E} {b : E} {ls : Lo} {h : HP} : kI2 cf sub a b ls (some false) h = evE cf sub b ls h := rfl
theorem kI2_eq {cf : Nat → List D → HP → Res D} {sub : Nat → Nat → Bool} {a : E} {b : E} {ls : Lo} {o : Option Bool} {h : HP} : kI2 cf sub a b ls o h = (lift o h).bind fun r h => if r = true then evE cf sub a ls h else evE cf sub b ls h := by
  cases o with
  | none => rfl
  | some b => cases b <;> rfl
def kI (cf : Nat → List D → HP → Res D) (sub : Nat → Nat → Bool) (a : E) (b : E) (ls : Lo) (r : Res (D)) : Res D := match r with
  | .ok x h => kI2 cf sub a b ls (truthy h x) h
  | .ex x h => .ex x h
  | .bad => .bad
theorem kI_ok {cf : Nat → List D → HP → Res D} {sub : Nat → Nat → Bool} {a : E} {b : E} {ls : Lo} {x : D} {h : HP} : kI cf sub a b ls (.ok x h) = kI2 cf sub a b ls (truthy h x) h := rfl
theorem kI_ex {cf : Nat → List D → HP → Res D} {sub : Nat → Nat → Bool} {a : E} {b : E} {ls : Lo} {x : Xn} {h : HP} : kI cf sub a b ls (.ex x h) = .ex x h := rfl
theorem kI_eq {cf : Nat → List D → HP → Res D} {sub : Nat → Nat → Bool} {a : E} {b : E} {ls : Lo} {r : Res (D)} : kI cf sub a b ls r = r.bind fun x h => kI2 cf sub a b ls (truthy h x) h := by cases r <;> rfl
def kCa (cf : Nat → List D → HP → Res D) (f : Nat) (r : Res (List D)) : Res D := match r with
  | .ok x h => cf f x h
  | .ex x h => .ex x h
  | .bad => .bad
theorem kCa_ok {cf : Nat → List D → HP → Res D} {f : Nat} {x : List D} {h : HP} : kCa cf f (.ok x h) = cf f x h := rfl
theorem kCa_ex {cf : Nat → List D → HP → Res D} {f : Nat} {x : Xn} {h : HP} : kCa cf f (.ex x h) = .ex x h := rfl
theorem kCa_eq {cf : Nat → List D → HP → Res D} {f : Nat} {r : Res (List D)} : kCa cf f r = r.bind fun x h => cf f x h := by cases r <;> rfl
def kK2 (cf : Nat → List D → HP → Res D) (f : Nat) (pm : List Nat) (ds : List D) (r : Res (List D)) : Res D := match r with
  | .ok x h => cf f (ds ++ pm.filterMap (x[·]?)) h
  | .ex x h => .ex x h
  | .bad => .bad
theorem kK2_ok {cf : Nat → List D → HP → Res D} {f : Nat} {pm : List Nat} {ds : List D} {x : List D} {h : HP} : kK2 cf f pm ds (.ok x h) = cf f (ds ++ pm.filterMap (x[·]?)) h := rfl
theorem kK2_ex {cf : Nat → List D → HP → Res D} {f : Nat} {pm : List Nat} {ds : List D} {x : Xn} {h : HP} : kK2 cf f pm ds (.ex x h) = .ex x h := rfl
theorem kK2_eq {cf : Nat → List D → HP → Res D} {f : Nat} {pm : List Nat} {ds : List D} {r : Res (List D)} : kK2 cf f pm ds r = r.bind fun x h => cf f (ds ++ pm.filterMap (x[·]?)) h := by cases r <;> rfl
def kK1 (cf : Nat → List D → HP → Res D) (sub : Nat → Nat → Bool) (f : Nat) (pm : List Nat) (ks : EL) (ls : Lo) (r : Res (List D)) : Res D := match r with
  | .ok x h => kK2 cf f pm x (evL cf sub ks ls h)
  | .ex x h => .ex x h
  | .bad => .bad
theorem kK1_ok {cf : Nat → List D → HP → Res D} {sub : Nat → Nat → Bool} {f : Nat} {pm : List Nat} {ks : EL} {ls : Lo} {x : List D} {h : HP} : kK1 cf sub f pm ks ls (.ok x h) = kK2 cf f pm x (evL cf sub ks ls h) := rfl
theorem kK1_ex {cf : Nat → List D → HP → Res D} {sub : Nat → Nat → Bool} {f : Nat} {pm : List Nat} {ks : EL} {ls : Lo} {x : Xn} {h : HP} : kK1 cf sub f pm ks ls (.ex x h) = .ex x h := rfl
theorem kK1_eq {cf : Nat → List D → HP → Res D} {sub : Nat → Nat → Bool} {f : Nat} {pm : List Nat} {ks : EL} {ls : Lo} {r : Res (List D)} : kK1 cf sub f pm ks ls r = r.bind fun x h => kK2 cf f pm x (evL cf sub ks ls h) := by cases r <;> rfl
def kX (kvs : List (List Nat × D)) (r : Res (D)) : Res D := match r with
  | .ok x h => lift (kget kvs x) h
  | .ex x h => .ex x h
  | .bad => .bad
theorem kX_ok {kvs : List (List Nat × D)} {x : D} {h : HP} : kX kvs (.ok x h) = lift (kget kvs x) h := rfl
theorem kX_ex {kvs : List (List Nat × D)} {x : Xn} {h : HP} : kX kvs (.ex x h) = .ex x h := rfl
theorem kX_eq {kvs : List (List Nat × D)} {r : Res (D)} : kX kvs r = r.bind fun x h => lift (kget kvs x) h := by cases r <;> rfl
def kBl (f : BF) (r : Res (List D)) : Res D := match r with
  | .ok x h => evB f x h
  | .ex x h => .ex x h
  | .bad => .bad
theorem kBl_ok {f : BF} {x : List D} {h : HP} : kBl f (.ok x h) = evB f x h := rfl
theorem kBl_ex {f : BF} {x : Xn} {h : HP} : kBl f (.ex x h) = .ex x h := rfl
theorem kBl_eq {f : BF} {r : Res (List D)} : kBl f r = r.bind fun x h => evB f x h := by cases r <;> rfl
def kM3 (m : MF) (u : D) (r : Res (List D)) : Res D := match r with
  | .ok x h => evM m u x h
  | .ex x h => .ex x h
  | .bad => .bad
theorem kM3_ok {m : MF} {u : D} {x : List D} {h : HP} : kM3 m u (.ok x h) = evM m u x h := rfl
theorem kM3_ex {m : MF} {u : D} {x : Xn} {h : HP} : kM3 m u (.ex x h) = .ex x h := rfl
theorem kM3_eq {m : MF} {u : D} {r : Res (List D)} : kM3 m u r = r.bind fun x h => evM m u x h := by cases r <;> rfl
def kM1 (cf : Nat → List D → HP → Res D) (sub : Nat → Nat → Bool) (m : MF) (es : EL) (ls : Lo) (r : Res (D)) : Res D := match r with
  | .ok x h => if hasM m h x = true then kM3 m x (evL cf sub es ls h) else .bad
  | .ex x h => .ex x h
  | .bad => .bad
theorem kM1_ok {cf : Nat → List D → HP → Res D} {sub : Nat → Nat → Bool} {m : MF} {es : EL} {ls : Lo} {x : D} {h : HP} : kM1 cf sub m es ls (.ok x h) = if hasM m h x = true then kM3 m x (evL cf sub es ls h) else .bad := rfl
theorem kM1_ex {cf : Nat → List D → HP → Res D} {sub : Nat → Nat → Bool} {m : MF} {es : EL} {ls : Lo} {x : Xn} {h : HP} : kM1 cf sub m es ls (.ex x h) = .ex x h := rfl
theorem kM1_eq {cf : Nat → List D → HP → Res D} {sub : Nat → Nat → Bool} {m : MF} {es : EL} {ls : Lo} {r : Res (D)} : kM1 cf sub m es ls r = r.bind fun x h => if hasM m h x = true then kM3 m x (evL cf sub es ls h) else .bad := by cases r <;> rfl
def kT  (r : Res (List D)) : Res D := match r with
  | .ok x h => if x.length ≤ LIM then .ok (.tup x) h else .bad
  | .ex x h => .ex x h
  | .bad => .bad
theorem kT_ok  {x : List D} {h : HP} : kT  (.ok x h) = if x.length ≤ LIM then .ok (.tup x) h else .bad := rfl
theorem kT_ex  {x : Xn} {h : HP} : kT  (.ex x h) = .ex x h := rfl
theorem kT_eq  {r : Res (List D)} : kT  r = r.bind fun x h => if x.length ≤ LIM then .ok (.tup x) h else .bad := by cases r <;> rfl
def kLs  (r : Res (List D)) : Res D := match r with
  | .ok x h => if x.length ≤ LIM then .ok (.ref h.length) (h ++ [.lst x]) else .bad
  | .ex x h => .ex x h
  | .bad => .bad
theorem kLs_ok  {x : List D} {h : HP} : kLs  (.ok x h) = if x.length ≤ LIM then .ok (.ref h.length) (h ++ [.lst x]) else .bad := rfl
theorem kLs_ex  {x : Xn} {h : HP} : kLs  (.ex x h) = .ex x h := rfl
theorem kLs_eq  {r : Res (List D)} : kLs  r = r.bind fun x h => if x.length ≤ LIM then .ok (.ref h.length) (h ++ [.lst x]) else .bad := by cases r <;> rfl
def kIx2 (u : D) (r : Res (D)) : Res D := match r with
  | .ok x h => lift (opIx u x h) h
  | .ex x h => .ex x h
  | .bad => .bad
theorem kIx2_ok {u : D} {x : D} {h : HP} : kIx2 u (.ok x h) = lift (opIx u x h) h := rfl
theorem kIx2_ex {u : D} {x : Xn} {h : HP} : kIx2 u (.ex x h) = .ex x h := rfl
theorem kIx2_eq {u : D} {r : Res (D)} : kIx2 u r = r.bind fun x h => lift (opIx u x h) h := by cases r <;> rfl
def kIx1 (cf : Nat → List D → HP → Res D) (sub : Nat → Nat → Bool) (b : E) (ls : Lo) (r : Res (D)) : Res D := match r with
  | .ok x h => kIx2 x (evE cf sub b ls h)
  | .ex x h => .ex x h
  | .bad => .bad
theorem kIx1_ok {cf : Nat → List D → HP → Res D} {sub : Nat → Nat → Bool} {b : E} {ls : Lo} {x : D} {h : HP} : kIx1 cf sub b ls (.ok x h) = kIx2 x (evE cf sub b ls h) := rfl
theorem kIx1_ex {cf : Nat → List D → HP → Res D} {sub : Nat → Nat → Bool} {b : E} {ls : Lo} {x : Xn} {h : HP} : kIx1 cf sub b ls (.ex x h) = .ex x h := rfl
theorem kIx1_eq {cf : Nat → List D → HP → Res D} {sub : Nat → Nat → Bool} {b : E} {ls : Lo} {r : Res (D)} : kIx1 cf sub b ls r = r.bind fun x h => kIx2 x (evE cf sub b ls h) := by cases r <;> rfl
def kS5 (u : D) (p : Option Int) (o : Option (Option Int)) (h : HP) : Res D := match o with
  | some v => opSl u p v h
  | none => .bad
theorem kS5_some {u : D} {p : Option Int} {v : Option Int} {h : HP} : kS5 u p (some v) h = opSl u p v h := rfl
theorem kS5_eq {u : D} {p : Option Int} {o : Option (Option Int)} {h : HP} : kS5 u p o h = (lift o h).bind fun v h => opSl u p v h := by cases o <;> rfl
def kS4 (bh : Bool) (u : D) (p : Option Int) (r : Res (D)) : Res D := match r with
  | .ok x h => kS5 u p (sPart bh x) h
  | .ex x h => .ex x h
  | .bad => .bad
theorem kS4_ok {bh : Bool} {u : D} {p : Option Int} {x : D} {h : HP} : kS4 bh u p (.ok x h) = kS5 u p (sPart bh x) h := rfl
theorem kS4_ex {bh : Bool} {u : D} {p : Option Int} {x : Xn} {h : HP} : kS4 bh u p (.ex x h) = .ex x h := rfl
theorem kS4_eq {bh : Bool} {u : D} {p : Option Int} {r : Res (D)} : kS4 bh u p r = r.bind fun x h => kS5 u p (sPart bh x) h := by cases r <;> rfl
def kS3 (cf : Nat → List D → HP → Res D) (sub : Nat → Nat → Bool) (bh : Bool) (hi : E) (ls : Lo) (u : D) (o : Option (Option Int)) (h : HP) : Res D := match o with
  | some v => kS4 bh u v (evE cf sub hi ls h)
  | none => .bad
theorem kS3_some {cf : Nat → List D → HP → Res D} {sub : Nat → Nat → Bool} {bh : Bool} {hi : E} {ls : Lo} {u : D} {v : Option Int} {h : HP} : kS3 cf sub bh hi ls u (some v) h = kS4 bh u v (evE cf sub hi ls h) := rfl
theorem kS3_eq {cf : Nat → List D → HP → Res D} {sub : Nat → Nat → Bool} {bh : Bool} {hi : E} {ls : Lo} {u : D} {o : Option (Option Int)} {h : HP} : kS3 cf sub bh hi ls u o h = (lift o h).bind fun v h => kS4 bh u v (evE cf sub hi ls h) := by cases o <;> rfl
def kS2 (cf : Nat → List D → HP → Res D) (sub : Nat → Nat → Bool) (bl : Bool) (bh : Bool) (hi : E) (ls : Lo) (u : D) (r : Res (D)) : Res D := match r with
  | .ok x h => kS3 cf sub bh hi ls u (sPart bl x) h
  | .ex x h => .ex x h
  | .bad => .bad
theorem kS2_ok {cf : Nat → List D → HP → Res D} {sub : Nat → Nat → Bool} {bl : Bool} {bh : Bool} {hi : E} {ls : Lo} {u : D} {x : D} {h : HP} : kS2 cf sub bl bh hi ls u (.ok x h) = kS3 cf sub bh hi ls u (sPart bl x) h := rfl
theorem kS2_ex {cf : Nat → List D → HP → Res D} {sub : Nat → Nat → Bool} {bl : Bool} {bh : Bool} {hi : E} {ls : Lo} {u : D} {x : Xn} {h : HP} : kS2 cf sub bl bh hi ls u (.ex x h) = .ex x h := rfl
theorem kS2_eq {cf : Nat → List D → HP → Res D} {sub : Nat → Nat → Bool} {bl : Bool} {bh : Bool} {hi : E} {ls : Lo} {u : D} {r : Res (D)} : kS2 cf sub bl bh hi ls u r = r.bind fun x h => kS3 cf sub bh hi ls u (sPart bl x) h := by cases r <;> rfl
def kS1 (cf : Nat → List D → HP → Res D) (sub : Nat → Nat → Bool) (bl : Bool) (bh : Bool) (lo : E) (hi : E) (ls : Lo) (r : Res (D)) : Res D := match r with
  | .ok x h => kS2 cf sub bl bh hi ls x (evE cf sub lo ls h)
  | .ex x h => .ex x h
  | .bad => .bad
theorem kS1_ok {cf : Nat → List D → HP → Res D} {sub : Nat → Nat → Bool} {bl : Bool} {bh : Bool} {lo : E} {hi : E} {ls : Lo} {x : D} {h : HP} : kS1 cf sub bl bh lo hi ls (.ok x h) = kS2 cf sub bl bh hi ls x (evE cf sub lo ls h) := rfl
theorem kS1_ex {cf : Nat → List D → HP → Res D} {sub : Nat → Nat → Bool} {bl : Bool} {bh : Bool} {lo : E} {hi : E} {ls : Lo} {x : Xn} {h : HP} : kS1 cf sub bl bh lo hi ls (.ex x h) = .ex x h := rfl
theorem kS1_eq {cf : Nat → List D → HP → Res D} {sub : Nat → Nat → Bool} {bl : Bool} {bh : Bool} {lo : E} {hi : E} {ls : Lo} {r : Res (D)} : kS1 cf sub bl bh lo hi ls r = r.bind fun x h => kS2 cf sub bl bh hi ls x (evE cf sub lo ls h) := by cases r <;> rfl
def kIs (ts : List Ty) (r : Res (D)) : Res D := match r with
  | .ok x h => if (dTy h x).isSome = true then .ok (.bl (ts.any (isTy h x))) h else .bad
  | .ex x h => .ex x h
  | .bad => .bad
theorem kIs_ok {ts : List Ty} {x : D} {h : HP} : kIs ts (.ok x h) = if (dTy h x).isSome = true then .ok (.bl (ts.any (isTy h x))) h else .bad := rfl
theorem kIs_ex {ts : List Ty} {x : Xn} {h : HP} : kIs ts (.ex x h) = .ex x h := rfl
theorem kIs_eq {ts : List Ty} {r : Res (D)} : kIs ts r = r.bind fun x h => if (dTy h x).isSome = true then .ok (.bl (ts.any (isTy h x))) h else .bad := by cases r <;> rfl
def gXi (sub : Nat → Nat → Bool) (c : Nat) (o : Option (Xn)) (h : HP) : Res D := match o with
  | some v => if v.fs.isEmpty = true then .ok (.bl (sub v.c c)) h else .bad
  | none => .bad
theorem gXi_some {sub : Nat → Nat → Bool} {c : Nat} {v : Xn} {h : HP} : gXi sub c (some v) h = if v.fs.isEmpty = true then .ok (.bl (sub v.c c)) h else .bad := rfl
def gXf (k : Nat) (o : Option (Xn)) (h : HP) : Res D := match o with
  | some v => lift v.fs[k]? h
  | none => .bad
theorem gXf_some {k : Nat} {v : Xn} {h : HP} : gXf k (some v) h = lift v.fs[k]? h := rfl
def kE2 (u : D) (r : Res (List D)) : Res (List D) := match r with
  | .ok x h => .ok (u :: x) h
  | .ex x h => .ex x h
  | .bad => .bad
theorem kE2_ok {u : D} {x : List D} {h : HP} : kE2 u (.ok x h) = .ok (u :: x) h := rfl
theorem kE2_ex {u : D} {x : Xn} {h : HP} : kE2 u (.ex x h) = .ex x h := rfl
theorem kE2_eq {u : D} {r : Res (List D)} : kE2 u r = r.bind fun x h => .ok (u :: x) h := by cases r <;> rfl
def kE1 (cf : Nat → List D → HP → Res D) (sub : Nat → Nat → Bool) (es : EL) (ls : Lo) (r : Res (D)) : Res (List D) := match r with
  | .ok x h => kE2 x (evL cf sub es ls h)
  | .ex x h => .ex x h
  | .bad => .bad
theorem kE1_ok {cf : Nat → List D → HP → Res D} {sub : Nat → Nat → Bool} {es : EL} {ls : Lo} {x : D} {h : HP} : kE1 cf sub es ls (.ok x h) = kE2 x (evL cf sub es ls h) := rfl
theorem kE1_ex {cf : Nat → List D → HP → Res D} {sub : Nat → Nat → Bool} {es : EL} {ls : Lo} {x : Xn} {h : HP} : kE1 cf sub es ls (.ex x h) = .ex x h := rfl
theorem kE1_eq {cf : Nat → List D → HP → Res D} {sub : Nat → Nat → Bool} {es : EL} {ls : Lo} {r : Res (D)} : kE1 cf sub es ls r = r.bind fun x h => kE2 x (evL cf sub es ls h) := by cases r <;> rfl
def kTs2 (cf : Nat → List D → HP → Res D) (sub : Nat → Nat → Bool) (es : EL) (ls : Lo) (o : Option Bool) (h : HP) : Res Bool := match o with
  | some true => evTs cf sub es ls h
  | some false => .ok false h
  | none => .bad
theorem kTs2_t {cf : Nat → List D → HP → Res D} {sub : Nat → Nat → Bool} {es : EL} {ls : Lo} {h : HP} : kTs2 cf sub es ls (some true) h = evTs cf sub es ls h := rfl
theorem kTs2_f {cf : Nat → List D → HP → Res D} {sub : Nat → Nat → Bool} {es : EL} {ls : Lo} {h : HP} : kTs2 cf sub es ls (some false) h = .ok false h := rfl
theorem kTs2_eq {cf : Nat → List D → HP → Res D} {sub : Nat → Nat → Bool} {es : EL} {ls : Lo} {o : Option Bool} {h : HP} : kTs2 cf sub es ls o h = (lift o h).bind fun r h => if r = true then evTs cf sub es ls h else .ok false h := by
  cases o with
  | none => rfl
  | some b => cases b <;> rfl
def kTs (cf : Nat → List D → HP → Res D) (sub : Nat → Nat → Bool) (es : EL) (ls : Lo) (r : Res (D)) : Res Bool := match r with
  | .ok x h => kTs2 cf sub es ls (truthy h x) h
  | .ex x h => .ex x h
  | .bad => .bad
theorem kTs_ok {cf : Nat → List D → HP → Res D} {sub : Nat → Nat → Bool} {es : EL} {ls : Lo} {x : D} {h : HP} : kTs cf sub es ls (.ok x h) = kTs2 cf sub es ls (truthy h x) h := rfl
theorem kTs_ex {cf : Nat → List D → HP → Res D} {sub : Nat → Nat → Bool} {es : EL} {ls : Lo} {x : Xn} {h : HP} : kTs cf sub es ls (.ex x h) = .ex x h := rfl
theorem kTs_eq {cf : Nat → List D → HP → Res D} {sub : Nat → Nat → Bool} {es : EL} {ls : Lo} {r : Res (D)} : kTs cf sub es ls r = r.bind fun x h => kTs2 cf sub es ls (truthy h x) h := by cases r <;> rfl
def kW  (r : Res (D)) : Res (List D × List (Nat × O)) := match r with
  | .ok x h => lift (walk h x) h
  | .ex x h => .ex x h
  | .bad => .bad
theorem kW_ok  {x : D} {h : HP} : kW  (.ok x h) = lift (walk h x) h := rfl
theorem kW_ex  {x : Xn} {h : HP} : kW  (.ex x h) = .ex x h := rfl
theorem kW_eq  {r : Res (D)} : kW  r = r.bind fun x h => lift (walk h x) h := by cases r <;> rfl
def kWr (n : Nat) (r : Res (List D)) : Res (List D × List (Nat × O)) := match r with
  | .ok x h => if x.length = n then lift ((rng x).map fun xs => (xs, [])) h else .bad
  | .ex x h => .ex x h
  | .bad => .bad
theorem kWr_ok {n : Nat} {x : List D} {h : HP} : kWr n (.ok x h) = if x.length = n then lift ((rng x).map fun xs => (xs, [])) h else .bad := rfl
theorem kWr_ex {n : Nat} {x : Xn} {h : HP} : kWr n (.ex x h) = .ex x h := rfl
theorem kWr_eq {n : Nat} {r : Res (List D)} : kWr n r = r.bind fun x h => if x.length = n then lift ((rng x).map fun xs => (xs, [])) h else .bad := by cases r <;> rfl
def kWe  (r : Res (D)) : Res (List D × List (Nat × O)) := match r with
  | .ok x h => lift ((walkL h x).map fun p => (nums 0 p.1, p.2)) h
  | .ex x h => .ex x h
  | .bad => .bad
theorem kWe_ok  {x : D} {h : HP} : kWe  (.ok x h) = lift ((walkL h x).map fun p => (nums 0 p.1, p.2)) h := rfl
theorem kWe_ex  {x : Xn} {h : HP} : kWe  (.ex x h) = .ex x h := rfl
theorem kWe_eq  {r : Res (D)} : kWe  r = r.bind fun x h => lift ((walkL h x).map fun p => (nums 0 p.1, p.2)) h := by cases r <;> rfl
def wz (p q : Option (List D × List (Nat × O))) (h : HP) : Res (List D × List (Nat × O)) := match p, q with
  | some p, some q => .ok (zipD p.1 q.1, p.2 ++ q.2) h
  | _, _ => .bad
theorem wz_some {p q : List D × List (Nat × O)} {h : HP} : wz (some p) (some q) h = .ok (zipD p.1 q.1, p.2 ++ q.2) h := rfl
def kWz2 (u : D) (r : Res (D)) : Res (List D × List (Nat × O)) := match r with
  | .ok x h => wz (walkL h u) (walkL h x) h
  | .ex x h => .ex x h
  | .bad => .bad
theorem kWz2_ok {u : D} {x : D} {h : HP} : kWz2 u (.ok x h) = wz (walkL h u) (walkL h x) h := rfl
theorem kWz2_ex {u : D} {x : Xn} {h : HP} : kWz2 u (.ex x h) = .ex x h := rfl
theorem kWz2_eq {u : D} {r : Res (D)} : kWz2 u r = r.bind fun x h => wz (walkL h u) (walkL h x) h := by cases r <;> rfl
def kWz1 (cf : Nat → List D → HP → Res D) (sub : Nat → Nat → Bool) (b : E) (ls : Lo) (r : Res (D)) : Res (List D × List (Nat × O)) := match r with
  | .ok x h => kWz2 x (evE cf sub b ls h)
  | .ex x h => .ex x h
  | .bad => .bad
theorem kWz1_ok {cf : Nat → List D → HP → Res D} {sub : Nat → Nat → Bool} {b : E} {ls : Lo} {x : D} {h : HP} : kWz1 cf sub b ls (.ok x h) = kWz2 x (evE cf sub b ls h) := rfl
theorem kWz1_ex {cf : Nat → List D → HP → Res D} {sub : Nat → Nat → Bool} {b : E} {ls : Lo} {x : Xn} {h : HP} : kWz1 cf sub b ls (.ex x h) = .ex x h := rfl
theorem kWz1_eq {cf : Nat → List D → HP → Res D} {sub : Nat → Nat → Bool} {b : E} {ls : Lo} {r : Res (D)} : kWz1 cf sub b ls r = r.bind fun x h => kWz2 x (evE cf sub b ls h) := by cases r <;> rfl
def kLc2  (r : Res (List D)) : Res D := match r with
  | .ok x h => if x.length ≤ LIM then .ok (.ref h.length) (h ++ [.lst x]) else .bad
  | .ex x h => .ex x h
  | .bad => .bad
theorem kLc2_ok  {x : List D} {h : HP} : kLc2  (.ok x h) = if x.length ≤ LIM then .ok (.ref h.length) (h ++ [.lst x]) else .bad := rfl
theorem kLc2_ex  {x : Xn} {h : HP} : kLc2  (.ex x h) = .ex x h := rfl
theorem kLc2_eq  {r : Res (List D)} : kLc2  r = r.bind fun x h => if x.length ≤ LIM then .ok (.ref h.length) (h ++ [.lst x]) else .bad := by cases r <;> rfl
def kLc (cf : Nat → List D → HP → Res D) (sub : Nat → Nat → Bool) (elt : E) (own : List Nat) (t : Tg) (ifs : EL) (ls : Lo) (r : Res (List D × List (Nat × O))) : Res D := match r with
  | .ok x h => kLc2 (lcGo (fTs cf sub ifs ls.x) (fE cf sub elt ls.x) t x.2 (wipeL ls.v own) x.1 [] h)
  | .ex x h => .ex x h
  | .bad => .bad
theorem kLc_ok {cf : Nat → List D → HP → Res D} {sub : Nat → Nat → Bool} {elt : E} {own : List Nat} {t : Tg} {ifs : EL} {ls : Lo} {x : List D × List (Nat × O)} {h : HP} : kLc cf sub elt own t ifs ls (.ok x h) = kLc2 (lcGo (fTs cf sub ifs ls.x) (fE cf sub elt ls.x) t x.2 (wipeL ls.v own) x.1 [] h) := rfl
theorem kLc_ex {cf : Nat → List D → HP → Res D} {sub : Nat → Nat → Bool} {elt : E} {own : List Nat} {t : Tg} {ifs : EL} {ls : Lo} {x : Xn} {h : HP} : kLc cf sub elt own t ifs ls (.ex x h) = .ex x h := rfl
theorem kLc_eq {cf : Nat → List D → HP → Res D} {sub : Nat → Nat → Bool} {elt : E} {own : List Nat} {t : Tg} {ifs : EL} {ls : Lo} {r : Res (List D × List (Nat × O))} : kLc cf sub elt own t ifs ls r = r.bind fun x h => kLc2 (lcGo (fTs cf sub ifs ls.x) (fE cf sub elt ls.x) t x.2 (wipeL ls.v own) x.1 [] h) := by cases r <;> rfl
def kAs2 (ls : Lo) (o : Option (List (Option D))) (h : HP) : Out := match o with
  | some v => .nx ⟨v, ls.x⟩ h
  | none => .bad
theorem kAs2_some {ls : Lo} {v : List (Option D)} {h : HP} : kAs2 ls (some v) h = .nx ⟨v, ls.x⟩ h := rfl
def kAs (t : Tg) (ls : Lo) (r : Res (D)) : Out := match r with
  | .ok x h => kAs2 ls (bindT h t x ls.v) h
  | .ex x h => .ex x ls h
  | .bad => .bad
theorem kAs_ok {t : Tg} {ls : Lo} {x : D} {h : HP} : kAs t ls (.ok x h) = kAs2 ls (bindT h t x ls.v) h := rfl
theorem kAs_ex {t : Tg} {ls : Lo} {x : Xn} {h : HP} : kAs t ls (.ex x h) = .ex x ls h := rfl
theorem kAs_eq {t : Tg} {ls : Lo} {r : Res (D)} : kAs t ls r = r.out ls fun x h => kAs2 ls (bindT h t x ls.v) h := by cases r <;> rfl
def kAx3 (ls : Lo) (y : D) (u : D) (r : Res (D)) : Out := match r with
  | .ok x h => stO u x y ls h
  | .ex x h => .ex x ls h
  | .bad => .bad
theorem kAx3_ok {ls : Lo} {y : D} {u : D} {x : D} {h : HP} : kAx3 ls y u (.ok x h) = stO u x y ls h := rfl
theorem kAx3_ex {ls : Lo} {y : D} {u : D} {x : Xn} {h : HP} : kAx3 ls y u (.ex x h) = .ex x ls h := rfl
theorem kAx3_eq {ls : Lo} {y : D} {u : D} {r : Res (D)} : kAx3 ls y u r = r.out ls fun x h => stO u x y ls h := by cases r <;> rfl
def kAx2 (cf : Nat → List D → HP → Res D) (sub : Nat → Nat → Bool) (i : E) (ls : Lo) (y : D) (r : Res (D)) : Out := match r with
  | .ok x h => kAx3 ls y x (evE cf sub i ls h)
  | .ex x h => .ex x ls h
  | .bad => .bad
theorem kAx2_ok {cf : Nat → List D → HP → Res D} {sub : Nat → Nat → Bool} {i : E} {ls : Lo} {y : D} {x : D} {h : HP} : kAx2 cf sub i ls y (.ok x h) = kAx3 ls y x (evE cf sub i ls h) := rfl
theorem kAx2_ex {cf : Nat → List D → HP → Res D} {sub : Nat → Nat → Bool} {i : E} {ls : Lo} {y : D} {x : Xn} {h : HP} : kAx2 cf sub i ls y (.ex x h) = .ex x ls h := rfl
theorem kAx2_eq {cf : Nat → List D → HP → Res D} {sub : Nat → Nat → Bool} {i : E} {ls : Lo} {y : D} {r : Res (D)} : kAx2 cf sub i ls y r = r.out ls fun x h => kAx3 ls y x (evE cf sub i ls h) := by cases r <;> rfl
def kAx1 (cf : Nat → List D → HP → Res D) (sub : Nat → Nat → Bool) (a : E) (i : E) (ls : Lo) (r : Res (D)) : Out := match r with
  | .ok x h => kAx2 cf sub i ls x (evE cf sub a ls h)
  | .ex x h => .ex x ls h
  | .bad => .bad
theorem kAx1_ok {cf : Nat → List D → HP → Res D} {sub : Nat → Nat → Bool} {a : E} {i : E} {ls : Lo} {x : D} {h : HP} : kAx1 cf sub a i ls (.ok x h) = kAx2 cf sub i ls x (evE cf sub a ls h) := rfl
theorem kAx1_ex {cf : Nat → List D → HP → Res D} {sub : Nat → Nat → Bool} {a : E} {i : E} {ls : Lo} {x : Xn} {h : HP} : kAx1 cf sub a i ls (.ex x h) = .ex x ls h := rfl
theorem kAx1_eq {cf : Nat → List D → HP → Res D} {sub : Nat → Nat → Bool} {a : E} {i : E} {ls : Lo} {r : Res (D)} : kAx1 cf sub a i ls r = r.out ls fun x h => kAx2 cf sub i ls x (evE cf sub a ls h) := by cases r <;> rfl
def kEx (ls : Lo) (r : Res (D)) : Out := match r with
  | .ok x h => .nx ls h
  | .ex x h => .ex x ls h
  | .bad => .bad
theorem kEx_ok {ls : Lo} {x : D} {h : HP} : kEx ls (.ok x h) = .nx ls h := rfl
theorem kEx_ex {ls : Lo} {x : Xn} {h : HP} : kEx ls (.ex x h) = .ex x ls h := rfl
theorem kEx_eq {ls : Lo} {r : Res (D)} : kEx ls r = r.out ls fun x h => .nx ls h := by cases r <;> rfl
def kRt (ls : Lo) (r : Res (D)) : Out := match r with
  | .ok x h => .rt x h
  | .ex x h => .ex x ls h
  | .bad => .bad
theorem kRt_ok {ls : Lo} {x : D} {h : HP} : kRt ls (.ok x h) = .rt x h := rfl
theorem kRt_ex {ls : Lo} {x : Xn} {h : HP} : kRt ls (.ex x h) = .ex x ls h := rfl
theorem kRt_eq {ls : Lo} {r : Res (D)} : kRt ls r = r.out ls fun x h => .rt x h := by cases r <;> rfl
def kIt2 (cf : Nat → List D → HP → Res D) (sub : Nat → Nat → Bool) (wf : Nat) (a : SL) (b : SL) (ls : Lo) (o : Option Bool) (h : HP) : Out := match o with
  | some true => exL cf sub wf a ls h
  | some false => exL cf sub wf b ls h
  | none => .bad
theorem kIt2_t {cf : Nat → List D → HP → Res D} {sub : Nat → Nat → Bool} {wf : Nat} {a : SL} {b : SL} {ls : Lo} {h : HP} : kIt2 cf sub wf a b ls (some true) h = exL cf sub wf a ls h := rfl
theorem kIt2_f {cf : Nat → List D → HP → Res D} {sub : Nat → Nat → Bool} {wf : Nat} {a : SL} {b : SL} {ls : Lo} {h : HP} : kIt2 cf sub wf a b ls (some false) h = exL cf sub wf b ls h := rfl
theorem kIt2_eq {cf : Nat → List D → HP → Res D} {sub : Nat → Nat → Bool} {wf : Nat} {a : SL} {b : SL} {ls : Lo} {o : Option Bool} {h : HP} : kIt2 cf sub wf a b ls o h = (lift o h).out ls fun r h => if r = true then exL cf sub wf a ls h else exL cf sub wf b ls h := by
  cases o with
  | none => rfl
  | some b => cases b <;> rfl
def kIt (cf : Nat → List D → HP → Res D) (sub : Nat → Nat → Bool) (wf : Nat) (a : SL) (b : SL) (ls : Lo) (r : Res (D)) : Out := match r with
  | .ok x h => kIt2 cf sub wf a b ls (truthy h x) h
  | .ex x h => .ex x ls h
  | .bad => .bad
theorem kIt_ok {cf : Nat → List D → HP → Res D} {sub : Nat → Nat → Bool} {wf : Nat} {a : SL} {b : SL} {ls : Lo} {x : D} {h : HP} : kIt cf sub wf a b ls (.ok x h) = kIt2 cf sub wf a b ls (truthy h x) h := rfl
theorem kIt_ex {cf : Nat → List D → HP → Res D} {sub : Nat → Nat → Bool} {wf : Nat} {a : SL} {b : SL} {ls : Lo} {x : Xn} {h : HP} : kIt cf sub wf a b ls (.ex x h) = .ex x ls h := rfl
theorem kIt_eq {cf : Nat → List D → HP → Res D} {sub : Nat → Nat → Bool} {wf : Nat} {a : SL} {b : SL} {ls : Lo} {r : Res (D)} : kIt cf sub wf a b ls r = r.out ls fun x h => kIt2 cf sub wf a b ls (truthy h x) h := by cases r <;> rfl
def kFo (cf : Nat → List D → HP → Res D) (sub : Nat → Nat → Bool) (wf : Nat) (t : Tg) (b : SL) (ls : Lo) (r : Res (List D × List (Nat × O))) : Out := match r with
  | .ok x h => forGo (fB cf sub wf b) t x.2 x.1 ls h
  | .ex x h => .ex x ls h
  | .bad => .bad
theorem kFo_ok {cf : Nat → List D → HP → Res D} {sub : Nat → Nat → Bool} {wf : Nat} {t : Tg} {b : SL} {ls : Lo} {x : List D × List (Nat × O)} {h : HP} : kFo cf sub wf t b ls (.ok x h) = forGo (fB cf sub wf b) t x.2 x.1 ls h := rfl
theorem kFo_ex {cf : Nat → List D → HP → Res D} {sub : Nat → Nat → Bool} {wf : Nat} {t : Tg} {b : SL} {ls : Lo} {x : Xn} {h : HP} : kFo cf sub wf t b ls (.ex x h) = .ex x ls h := rfl
theorem kFo_eq {cf : Nat → List D → HP → Res D} {sub : Nat → Nat → Bool} {wf : Nat} {t : Tg} {b : SL} {ls : Lo} {r : Res (List D × List (Nat × O))} : kFo cf sub wf t b ls r = r.out ls fun x h => forGo (fB cf sub wf b) t x.2 x.1 ls h := by cases r <;> rfl
def kRs (c : Nat) (k : Bool) (ls : Lo) (r : Res (List D)) : Out := match r with
  | .ok x h => .ex ⟨c, if k = true then x else []⟩ ls h
  | .ex x h => .ex x ls h
  | .bad => .bad
theorem kRs_ok {c : Nat} {k : Bool} {ls : Lo} {x : List D} {h : HP} : kRs c k ls (.ok x h) = .ex ⟨c, if k = true then x else []⟩ ls h := rfl
theorem kRs_ex {c : Nat} {k : Bool} {ls : Lo} {x : Xn} {h : HP} : kRs c k ls (.ex x h) = .ex x ls h := rfl
theorem kRs_eq {c : Nat} {k : Bool} {ls : Lo} {r : Res (List D)} : kRs c k ls r = r.out ls fun x h => .ex ⟨c, if k = true then x else []⟩ ls h := by cases r <;> rfl
def kSq (cf : Nat → List D → HP → Res D) (sub : Nat → Nat → Bool) (wf : Nat) (t : SL) (o : Out) : Out := match o with
  | .nx ls h => exL cf sub wf t ls h
  | o => o
def kTr (cf : Nat → List D → HP → Res D) (sub : Nat → Nat → Bool) (wf : Nat) (hs : HL) (o : Out) : Out := match o with
  | .ex x ls h => exH cf sub wf hs x ls h
  | o => o
def kF2 (body : Lo → HP → Out) (t : Tg) (ws : List (Nat × O)) (xs : List D) (o : Out) : Out := match o with
  | .nx ls h => forGo body t ws xs ls h
  | .ct ls h => forGo body t ws xs ls h
  | .bk ls h => .nx ls h
  | o => o
def kF1 (body : Lo → HP → Out) (t : Tg) (ws : List (Nat × O)) (xs : List D) (x : Option Xn) (o : Option (List (Option D))) (h : HP) : Out := match o with
  | some v => kF2 body t ws xs (body ⟨v, x⟩ h)
  | none => .bad
theorem kF1_some {body : Lo → HP → Out} {t : Tg} {ws : List (Nat × O)} {xs : List D} {x : Option Xn} {v : List (Option D)} {h : HP} : kF1 body t ws xs x (some v) h = kF2 body t ws xs (body ⟨v, x⟩ h) := rfl
def kWh2 (test : Lo → HP → Res Bool) (body : Lo → HP → Out) (n : Nat) (o : Out) : Out := match o with
  | .nx ls h => whGo test body n ls h
  | .ct ls h => whGo test body n ls h
  | .bk ls h => .nx ls h
  | o => o
def kWh1 (test : Lo → HP → Res Bool) (body : Lo → HP → Out) (n : Nat) (ls : Lo) (r : Res Bool) : Out := match r with
  | .ok true h => kWh2 test body n (body ls h)
  | .ok false h => .nx ls h
  | .ex x h => .ex x ls h
  | .bad => .bad
theorem kWh1_t {test : Lo → HP → Res Bool} {body : Lo → HP → Out} {n : Nat} {ls : Lo} {h : HP} : kWh1 test body n ls (.ok true h) = kWh2 test body n (body ls h) := rfl
theorem kWh1_f {test : Lo → HP → Res Bool} {body : Lo → HP → Out} {n : Nat} {ls : Lo} {h : HP} : kWh1 test body n ls (.ok false h) = .nx ls h := rfl
theorem kWh1_ex {test : Lo → HP → Res Bool} {body : Lo → HP → Out} {n : Nat} {ls : Lo} {x : Xn} {h : HP} : kWh1 test body n ls (.ex x h) = .ex x ls h := rfl
theorem kSq_nx {cf : Nat → List D → HP → Res D} {sub : Nat → Nat → Bool} {wf : Nat} {t : SL} {ls : Lo} {h : HP} : kSq cf sub wf t (.nx ls h) = exL cf sub wf t ls h := rfl
theorem kSq_ct {cf : Nat → List D → HP → Res D} {sub : Nat → Nat → Bool} {wf : Nat} {t : SL} {ls : Lo} {h : HP} : kSq cf sub wf t (.ct ls h) = .ct ls h := rfl
theorem kSq_bk {cf : Nat → List D → HP → Res D} {sub : Nat → Nat → Bool} {wf : Nat} {t : SL} {ls : Lo} {h : HP} : kSq cf sub wf t (.bk ls h) = .bk ls h := rfl
theorem kSq_rt {cf : Nat → List D → HP → Res D} {sub : Nat → Nat → Bool} {wf : Nat} {t : SL} {d : D} {h : HP} : kSq cf sub wf t (.rt d h) = .rt d h := rfl
theorem kSq_ex {cf : Nat → List D → HP → Res D} {sub : Nat → Nat → Bool} {wf : Nat} {t : SL} {x : Xn} {ls : Lo} {h : HP} : kSq cf sub wf t (.ex x ls h) = .ex x ls h := rfl
theorem kTr_nx {cf : Nat → List D → HP → Res D} {sub : Nat → Nat → Bool} {wf : Nat} {hs : HL} {ls : Lo} {h : HP} : kTr cf sub wf hs (.nx ls h) = .nx ls h := rfl
theorem kTr_ct {cf : Nat → List D → HP → Res D} {sub : Nat → Nat → Bool} {wf : Nat} {hs : HL} {ls : Lo} {h : HP} : kTr cf sub wf hs (.ct ls h) = .ct ls h := rfl
theorem kTr_bk {cf : Nat → List D → HP → Res D} {sub : Nat → Nat → Bool} {wf : Nat} {hs : HL} {ls : Lo} {h : HP} : kTr cf sub wf hs (.bk ls h) = .bk ls h := rfl
theorem kTr_rt {cf : Nat → List D → HP → Res D} {sub : Nat → Nat → Bool} {wf : Nat} {hs : HL} {d : D} {h : HP} : kTr cf sub wf hs (.rt d h) = .rt d h := rfl
theorem kTr_ex {cf : Nat → List D → HP → Res D} {sub : Nat → Nat → Bool} {wf : Nat} {hs : HL} {x : Xn} {ls : Lo} {h : HP} : kTr cf sub wf hs (.ex x ls h) = exH cf sub wf hs x ls h := rfl
theorem kF2_nx {body : Lo → HP → Out} {t : Tg} {ws : List (Nat × O)} {xs : List D} {ls : Lo} {h : HP} : kF2 body t ws xs (.nx ls h) = forGo body t ws xs ls h := rfl
theorem kF2_ct {body : Lo → HP → Out} {t : Tg} {ws : List (Nat × O)} {xs : List D} {ls : Lo} {h : HP} : kF2 body t ws xs (.ct ls h) = forGo body t ws xs ls h := rfl
theorem kF2_bk {body : Lo → HP → Out} {t : Tg} {ws : List (Nat × O)} {xs : List D} {ls : Lo} {h : HP} : kF2 body t ws xs (.bk ls h) = .nx ls h := rfl
theorem kF2_rt {body : Lo → HP → Out} {t : Tg} {ws : List (Nat × O)} {xs : List D} {d : D} {h : HP} : kF2 body t ws xs (.rt d h) = .rt d h := rfl
theorem kF2_ex {body : Lo → HP → Out} {t : Tg} {ws : List (Nat × O)} {xs : List D} {x : Xn} {ls : Lo} {h : HP} : kF2 body t ws xs (.ex x ls h) = .ex x ls h := rfl
theorem kWh2_nx {test : Lo → HP → Res Bool} {body : Lo → HP → Out} {n : Nat} {ls : Lo} {h : HP} : kWh2 test body n (.nx ls h) = whGo test body n ls h := rfl
theorem kWh2_ct {test : Lo → HP → Res Bool} {body : Lo → HP → Out} {n : Nat} {ls : Lo} {h : HP} : kWh2 test body n (.ct ls h) = whGo test body n ls h := rfl
theorem kWh2_bk {test : Lo → HP → Res Bool} {body : Lo → HP → Out} {n : Nat} {ls : Lo} {h : HP} : kWh2 test body n (.bk ls h) = .nx ls h := rfl
theorem kWh2_rt {test : Lo → HP → Res Bool} {body : Lo → HP → Out} {n : Nat} {d : D} {h : HP} : kWh2 test body n (.rt d h) = .rt d h := rfl
theorem kWh2_ex {test : Lo → HP → Res Bool} {body : Lo → HP → Out} {n : Nat} {x : Xn} {ls : Lo} {h : HP} : kWh2 test body n (.ex x ls h) = .ex x ls h := rfl
section
variable {cf : Nat → List D → HP → Res D} {sub : Nat → Nat → Bool} {wf : Nat} {ls : Lo} {h : HP}
theorem e_con {d : D} : evE cf sub (.con d) ls h = .ok d h := by
  rw [evE]
  first | done | rfl | (simp only [kB2_eq, kB1_eq, kC3_eq, kC2_eq, kC1_eq, kH3_eq, kH2_eq, kH1_eq, kA2_eq, kA_eq, kO2_eq, kO_eq, kNt2_eq, kNt_eq, kI2_eq, kI_eq, kCa_eq, kK2_eq, kK1_eq, kX_eq, kBl_eq, kM3_eq, kM1_eq, kT_eq, kLs_eq, kIx2_eq, kIx1_eq, kS5_eq, kS4_eq, kS3_eq, kS2_eq, kS1_eq, kIs_eq, kE2_eq, kE1_eq, kTs2_eq, kTs_eq, kW_eq, kWr_eq, kWe_eq, kWz2_eq, kWz1_eq, kLc2_eq, kLc_eq, kAs_eq, kAx3_eq, kAx2_eq, kAx1_eq, kEx_eq, kRt_eq, kIt2_eq, kIt_eq, kFo_eq, kRs_eq]; done) | (simp only [kB2_eq, kB1_eq, kC3_eq, kC2_eq, kC1_eq, kH3_eq, kH2_eq, kH1_eq, kA2_eq, kA_eq, kO2_eq, kO_eq, kNt2_eq, kNt_eq, kI2_eq, kI_eq, kCa_eq, kK2_eq, kK1_eq, kX_eq, kBl_eq, kM3_eq, kM1_eq, kT_eq, kLs_eq, kIx2_eq, kIx1_eq, kS5_eq, kS4_eq, kS3_eq, kS2_eq, kS1_eq, kIs_eq, kE2_eq, kE1_eq, kTs2_eq, kTs_eq, kW_eq, kWr_eq, kWe_eq, kWz2_eq, kWz1_eq, kLc2_eq, kLc_eq, kAs_eq, kAx3_eq, kAx2_eq, kAx1_eq, kEx_eq, kRt_eq, kIt2_eq, kIt_eq, kFo_eq, kRs_eq]; rfl)
theorem e_loc {i : Nat} : evE cf sub (.loc i) ls h = gL ls.v[i]? h := by
  rw [evE]
  rfl
theorem e_bin {op : BOp} {a b : E} : evE cf sub (.bin op a b) ls h = kB1 cf sub op b ls (evE cf sub a ls h) := by
  rw [evE]
  first | done | rfl | (simp only [kB2_eq, kB1_eq, kC3_eq, kC2_eq, kC1_eq, kH3_eq, kH2_eq, kH1_eq, kA2_eq, kA_eq, kO2_eq, kO_eq, kNt2_eq, kNt_eq, kI2_eq, kI_eq, kCa_eq, kK2_eq, kK1_eq, kX_eq, kBl_eq, kM3_eq, kM1_eq, kT_eq, kLs_eq, kIx2_eq, kIx1_eq, kS5_eq, kS4_eq, kS3_eq, kS2_eq, kS1_eq, kIs_eq, kE2_eq, kE1_eq, kTs2_eq, kTs_eq, kW_eq, kWr_eq, kWe_eq, kWz2_eq, kWz1_eq, kLc2_eq, kLc_eq, kAs_eq, kAx3_eq, kAx2_eq, kAx1_eq, kEx_eq, kRt_eq, kIt2_eq, kIt_eq, kFo_eq, kRs_eq]; done) | (simp only [kB2_eq, kB1_eq, kC3_eq, kC2_eq, kC1_eq, kH3_eq, kH2_eq, kH1_eq, kA2_eq, kA_eq, kO2_eq, kO_eq, kNt2_eq, kNt_eq, kI2_eq, kI_eq, kCa_eq, kK2_eq, kK1_eq, kX_eq, kBl_eq, kM3_eq, kM1_eq, kT_eq, kLs_eq, kIx2_eq, kIx1_eq, kS5_eq, kS4_eq, kS3_eq, kS2_eq, kS1_eq, kIs_eq, kE2_eq, kE1_eq, kTs2_eq, kTs_eq, kW_eq, kWr_eq, kWe_eq, kWz2_eq, kWz1_eq, kLc2_eq, kLc_eq, kAs_eq, kAx3_eq, kAx2_eq, kAx1_eq, kEx_eq, kRt_eq, kIt2_eq, kIt_eq, kFo_eq, kRs_eq]; rfl)
theorem e_neg {a : E} : evE cf sub (.neg a) ls h = kN (evE cf sub a ls h) := by
  rw [evE]
  cases evE cf sub a ls h with
  | ok d g => cases d <;> rfl
  | ex _ _ => rfl
  | bad => rfl
theorem e_cmp {op : COp} {a b : E} : evE cf sub (.cmp op a b) ls h = kC1 cf sub op b ls (evE cf sub a ls h) := by
  rw [evE]
  first | done | rfl | (simp only [kB2_eq, kB1_eq, kC3_eq, kC2_eq, kC1_eq, kH3_eq, kH2_eq, kH1_eq, kA2_eq, kA_eq, kO2_eq, kO_eq, kNt2_eq, kNt_eq, kI2_eq, kI_eq, kCa_eq, kK2_eq, kK1_eq, kX_eq, kBl_eq, kM3_eq, kM1_eq, kT_eq, kLs_eq, kIx2_eq, kIx1_eq, kS5_eq, kS4_eq, kS3_eq, kS2_eq, kS1_eq, kIs_eq, kE2_eq, kE1_eq, kTs2_eq, kTs_eq, kW_eq, kWr_eq, kWe_eq, kWz2_eq, kWz1_eq, kLc2_eq, kLc_eq, kAs_eq, kAx3_eq, kAx2_eq, kAx1_eq, kEx_eq, kRt_eq, kIt2_eq, kIt_eq, kFo_eq, kRs_eq]; done) | (simp only [kB2_eq, kB1_eq, kC3_eq, kC2_eq, kC1_eq, kH3_eq, kH2_eq, kH1_eq, kA2_eq, kA_eq, kO2_eq, kO_eq, kNt2_eq, kNt_eq, kI2_eq, kI_eq, kCa_eq, kK2_eq, kK1_eq, kX_eq, kBl_eq, kM3_eq, kM1_eq, kT_eq, kLs_eq, kIx2_eq, kIx1_eq, kS5_eq, kS4_eq, kS3_eq, kS2_eq, kS1_eq, kIs_eq, kE2_eq, kE1_eq, kTs2_eq, kTs_eq, kW_eq, kWr_eq, kWe_eq, kWz2_eq, kWz1_eq, kLc2_eq, kLc_eq, kAs_eq, kAx3_eq, kAx2_eq, kAx1_eq, kEx_eq, kRt_eq, kIt2_eq, kIt_eq, kFo_eq, kRs_eq]; rfl)
theorem e_chain {o1 o2 : COp} {a b c : E} : evE cf sub (.chain o1 o2 a b c) ls h = kH1 cf sub o1 o2 b c ls (evE cf sub a ls h) := by
  rw [evE]
  first | done | rfl | (simp only [kB2_eq, kB1_eq, kC3_eq, kC2_eq, kC1_eq, kH3_eq, kH2_eq, kH1_eq, kA2_eq, kA_eq, kO2_eq, kO_eq, kNt2_eq, kNt_eq, kI2_eq, kI_eq, kCa_eq, kK2_eq, kK1_eq, kX_eq, kBl_eq, kM3_eq, kM1_eq, kT_eq, kLs_eq, kIx2_eq, kIx1_eq, kS5_eq, kS4_eq, kS3_eq, kS2_eq, kS1_eq, kIs_eq, kE2_eq, kE1_eq, kTs2_eq, kTs_eq, kW_eq, kWr_eq, kWe_eq, kWz2_eq, kWz1_eq, kLc2_eq, kLc_eq, kAs_eq, kAx3_eq, kAx2_eq, kAx1_eq, kEx_eq, kRt_eq, kIt2_eq, kIt_eq, kFo_eq, kRs_eq]; done) | (simp only [kB2_eq, kB1_eq, kC3_eq, kC2_eq, kC1_eq, kH3_eq, kH2_eq, kH1_eq, kA2_eq, kA_eq, kO2_eq, kO_eq, kNt2_eq, kNt_eq, kI2_eq, kI_eq, kCa_eq, kK2_eq, kK1_eq, kX_eq, kBl_eq, kM3_eq, kM1_eq, kT_eq, kLs_eq, kIx2_eq, kIx1_eq, kS5_eq, kS4_eq, kS3_eq, kS2_eq, kS1_eq, kIs_eq, kE2_eq, kE1_eq, kTs2_eq, kTs_eq, kW_eq, kWr_eq, kWe_eq, kWz2_eq, kWz1_eq, kLc2_eq, kLc_eq, kAs_eq, kAx3_eq, kAx2_eq, kAx1_eq, kEx_eq, kRt_eq, kIt2_eq, kIt_eq, kFo_eq, kRs_eq]; rfl)
theorem e_and {a b : E} : evE cf sub (.and a b) ls h = kA cf sub b ls (evE cf sub a ls h) := by
  rw [evE]
  first | done | rfl | (simp only [kB2_eq, kB1_eq, kC3_eq, kC2_eq, kC1_eq, kH3_eq, kH2_eq, kH1_eq, kA2_eq, kA_eq, kO2_eq, kO_eq, kNt2_eq, kNt_eq, kI2_eq, kI_eq, kCa_eq, kK2_eq, kK1_eq, kX_eq, kBl_eq, kM3_eq, kM1_eq, kT_eq, kLs_eq, kIx2_eq, kIx1_eq, kS5_eq, kS4_eq, kS3_eq, kS2_eq, kS1_eq, kIs_eq, kE2_eq, kE1_eq, kTs2_eq, kTs_eq, kW_eq, kWr_eq, kWe_eq, kWz2_eq, kWz1_eq, kLc2_eq, kLc_eq, kAs_eq, kAx3_eq, kAx2_eq, kAx1_eq, kEx_eq, kRt_eq, kIt2_eq, kIt_eq, kFo_eq, kRs_eq]; done) | (simp only [kB2_eq, kB1_eq, kC3_eq, kC2_eq, kC1_eq, kH3_eq, kH2_eq, kH1_eq, kA2_eq, kA_eq, kO2_eq, kO_eq, kNt2_eq, kNt_eq, kI2_eq, kI_eq, kCa_eq, kK2_eq, kK1_eq, kX_eq, kBl_eq, kM3_eq, kM1_eq, kT_eq, kLs_eq, kIx2_eq, kIx1_eq, kS5_eq, kS4_eq, kS3_eq, kS2_eq, kS1_eq, kIs_eq, kE2_eq, kE1_eq, kTs2_eq, kTs_eq, kW_eq, kWr_eq, kWe_eq, kWz2_eq, kWz1_eq, kLc2_eq, kLc_eq, kAs_eq, kAx3_eq, kAx2_eq, kAx1_eq, kEx_eq, kRt_eq, kIt2_eq, kIt_eq, kFo_eq, kRs_eq]; rfl)
theorem e_or {a b : E} : evE cf sub (.or a b) ls h = kO cf sub b ls (evE cf sub a ls h) := by
  rw [evE]
  first | done | rfl | (simp only [kB2_eq, kB1_eq, kC3_eq, kC2_eq, kC1_eq, kH3_eq, kH2_eq, kH1_eq, kA2_eq, kA_eq, kO2_eq, kO_eq, kNt2_eq, kNt_eq, kI2_eq, kI_eq, kCa_eq, kK2_eq, kK1_eq, kX_eq, kBl_eq, kM3_eq, kM1_eq, kT_eq, kLs_eq, kIx2_eq, kIx1_eq, kS5_eq, kS4_eq, kS3_eq, kS2_eq, kS1_eq, kIs_eq, kE2_eq, kE1_eq, kTs2_eq, kTs_eq, kW_eq, kWr_eq, kWe_eq, kWz2_eq, kWz1_eq, kLc2_eq, kLc_eq, kAs_eq, kAx3_eq, kAx2_eq, kAx1_eq, kEx_eq, kRt_eq, kIt2_eq, kIt_eq, kFo_eq, kRs_eq]; done) | (simp only [kB2_eq, kB1_eq, kC3_eq, kC2_eq, kC1_eq, kH3_eq, kH2_eq, kH1_eq, kA2_eq, kA_eq, kO2_eq, kO_eq, kNt2_eq, kNt_eq, kI2_eq, kI_eq, kCa_eq, kK2_eq, kK1_eq, kX_eq, kBl_eq, kM3_eq, kM1_eq, kT_eq, kLs_eq, kIx2_eq, kIx1_eq, kS5_eq, kS4_eq, kS3_eq, kS2_eq, kS1_eq, kIs_eq, kE2_eq, kE1_eq, kTs2_eq, kTs_eq, kW_eq, kWr_eq, kWe_eq, kWz2_eq, kWz1_eq, kLc2_eq, kLc_eq, kAs_eq, kAx3_eq, kAx2_eq, kAx1_eq, kEx_eq, kRt_eq, kIt2_eq, kIt_eq, kFo_eq, kRs_eq]; rfl)
theorem e_not {a : E} : evE cf sub (.not a) ls h = kNt (evE cf sub a ls h) := by
  rw [evE]
  first | done | rfl | (simp only [kB2_eq, kB1_eq, kC3_eq, kC2_eq, kC1_eq, kH3_eq, kH2_eq, kH1_eq, kA2_eq, kA_eq, kO2_eq, kO_eq, kNt2_eq, kNt_eq, kI2_eq, kI_eq, kCa_eq, kK2_eq, kK1_eq, kX_eq, kBl_eq, kM3_eq, kM1_eq, kT_eq, kLs_eq, kIx2_eq, kIx1_eq, kS5_eq, kS4_eq, kS3_eq, kS2_eq, kS1_eq, kIs_eq, kE2_eq, kE1_eq, kTs2_eq, kTs_eq, kW_eq, kWr_eq, kWe_eq, kWz2_eq, kWz1_eq, kLc2_eq, kLc_eq, kAs_eq, kAx3_eq, kAx2_eq, kAx1_eq, kEx_eq, kRt_eq, kIt2_eq, kIt_eq, kFo_eq, kRs_eq]; done) | (simp only [kB2_eq, kB1_eq, kC3_eq, kC2_eq, kC1_eq, kH3_eq, kH2_eq, kH1_eq, kA2_eq, kA_eq, kO2_eq, kO_eq, kNt2_eq, kNt_eq, kI2_eq, kI_eq, kCa_eq, kK2_eq, kK1_eq, kX_eq, kBl_eq, kM3_eq, kM1_eq, kT_eq, kLs_eq, kIx2_eq, kIx1_eq, kS5_eq, kS4_eq, kS3_eq, kS2_eq, kS1_eq, kIs_eq, kE2_eq, kE1_eq, kTs2_eq, kTs_eq, kW_eq, kWr_eq, kWe_eq, kWz2_eq, kWz1_eq, kLc2_eq, kLc_eq, kAs_eq, kAx3_eq, kAx2_eq, kAx1_eq, kEx_eq, kRt_eq, kIt2_eq, kIt_eq, kFo_eq, kRs_eq]; rfl)
theorem e_ite {c a b : E} : evE cf sub (.ite c a b) ls h = kI cf sub a b ls (evE cf sub c ls h) := by
  rw [evE]
  first | done | rfl | (simp only [kB2_eq, kB1_eq, kC3_eq, kC2_eq, kC1_eq, kH3_eq, kH2_eq, kH1_eq, kA2_eq, kA_eq, kO2_eq, kO_eq, kNt2_eq, kNt_eq, kI2_eq, kI_eq, kCa_eq, kK2_eq, kK1_eq, kX_eq, kBl_eq, kM3_eq, kM1_eq, kT_eq, kLs_eq, kIx2_eq, kIx1_eq, kS5_eq, kS4_eq, kS3_eq, kS2_eq, kS1_eq, kIs_eq, kE2_eq, kE1_eq, kTs2_eq, kTs_eq, kW_eq, kWr_eq, kWe_eq, kWz2_eq, kWz1_eq, kLc2_eq, kLc_eq, kAs_eq, kAx3_eq, kAx2_eq, kAx1_eq, kEx_eq, kRt_eq, kIt2_eq, kIt_eq, kFo_eq, kRs_eq]; done) | (simp only [kB2_eq, kB1_eq, kC3_eq, kC2_eq, kC1_eq, kH3_eq, kH2_eq, kH1_eq, kA2_eq, kA_eq, kO2_eq, kO_eq, kNt2_eq, kNt_eq, kI2_eq, kI_eq, kCa_eq, kK2_eq, kK1_eq, kX_eq, kBl_eq, kM3_eq, kM1_eq, kT_eq, kLs_eq, kIx2_eq, kIx1_eq, kS5_eq, kS4_eq, kS3_eq, kS2_eq, kS1_eq, kIs_eq, kE2_eq, kE1_eq, kTs2_eq, kTs_eq, kW_eq, kWr_eq, kWe_eq, kWz2_eq, kWz1_eq, kLc2_eq, kLc_eq, kAs_eq, kAx3_eq, kAx2_eq, kAx1_eq, kEx_eq, kRt_eq, kIt2_eq, kIt_eq, kFo_eq, kRs_eq]; rfl)
theorem e_call {f : Nat} {es : EL} : evE cf sub (.call f es) ls h = kCa cf f (evL cf sub es ls h) := by
  rw [evE]
  first | done | rfl | (simp only [kB2_eq, kB1_eq, kC3_eq, kC2_eq, kC1_eq, kH3_eq, kH2_eq, kH1_eq, kA2_eq, kA_eq, kO2_eq, kO_eq, kNt2_eq, kNt_eq, kI2_eq, kI_eq, kCa_eq, kK2_eq, kK1_eq, kX_eq, kBl_eq, kM3_eq, kM1_eq, kT_eq, kLs_eq, kIx2_eq, kIx1_eq, kS5_eq, kS4_eq, kS3_eq, kS2_eq, kS1_eq, kIs_eq, kE2_eq, kE1_eq, kTs2_eq, kTs_eq, kW_eq, kWr_eq, kWe_eq, kWz2_eq, kWz1_eq, kLc2_eq, kLc_eq, kAs_eq, kAx3_eq, kAx2_eq, kAx1_eq, kEx_eq, kRt_eq, kIt2_eq, kIt_eq, kFo_eq, kRs_eq]; done) | (simp only [kB2_eq, kB1_eq, kC3_eq, kC2_eq, kC1_eq, kH3_eq, kH2_eq, kH1_eq, kA2_eq, kA_eq, kO2_eq, kO_eq, kNt2_eq, kNt_eq, kI2_eq, kI_eq, kCa_eq, kK2_eq, kK1_eq, kX_eq, kBl_eq, kM3_eq, kM1_eq, kT_eq, kLs_eq, kIx2_eq, kIx1_eq, kS5_eq, kS4_eq, kS3_eq, kS2_eq, kS1_eq, kIs_eq, kE2_eq, kE1_eq, kTs2_eq, kTs_eq, kW_eq, kWr_eq, kWe_eq, kWz2_eq, kWz1_eq, kLc2_eq, kLc_eq, kAs_eq, kAx3_eq, kAx2_eq, kAx1_eq, kEx_eq, kRt_eq, kIt2_eq, kIt_eq, kFo_eq, kRs_eq]; rfl)
theorem e_kcall {f : Nat} {pm : List Nat} {es ks : EL} : evE cf sub (.kcall f pm es ks) ls h = kK1 cf sub f pm ks ls (evL cf sub es ls h) := by
  rw [evE]
  first | done | rfl | (simp only [kB2_eq, kB1_eq, kC3_eq, kC2_eq, kC1_eq, kH3_eq, kH2_eq, kH1_eq, kA2_eq, kA_eq, kO2_eq, kO_eq, kNt2_eq, kNt_eq, kI2_eq, kI_eq, kCa_eq, kK2_eq, kK1_eq, kX_eq, kBl_eq, kM3_eq, kM1_eq, kT_eq, kLs_eq, kIx2_eq, kIx1_eq, kS5_eq, kS4_eq, kS3_eq, kS2_eq, kS1_eq, kIs_eq, kE2_eq, kE1_eq, kTs2_eq, kTs_eq, kW_eq, kWr_eq, kWe_eq, kWz2_eq, kWz1_eq, kLc2_eq, kLc_eq, kAs_eq, kAx3_eq, kAx2_eq, kAx1_eq, kEx_eq, kRt_eq, kIt2_eq, kIt_eq, kFo_eq, kRs_eq]; done) | (simp only [kB2_eq, kB1_eq, kC3_eq, kC2_eq, kC1_eq, kH3_eq, kH2_eq, kH1_eq, kA2_eq, kA_eq, kO2_eq, kO_eq, kNt2_eq, kNt_eq, kI2_eq, kI_eq, kCa_eq, kK2_eq, kK1_eq, kX_eq, kBl_eq, kM3_eq, kM1_eq, kT_eq, kLs_eq, kIx2_eq, kIx1_eq, kS5_eq, kS4_eq, kS3_eq, kS2_eq, kS1_eq, kIs_eq, kE2_eq, kE1_eq, kTs2_eq, kTs_eq, kW_eq, kWr_eq, kWe_eq, kWz2_eq, kWz1_eq, kLc2_eq, kLc_eq, kAs_eq, kAx3_eq, kAx2_eq, kAx1_eq, kEx_eq, kRt_eq, kIt2_eq, kIt_eq, kFo_eq, kRs_eq]; rfl)
theorem e_kix {kvs : List (List Nat × D)} {e : E} : evE cf sub (.kix kvs e) ls h = kX kvs (evE cf sub e ls h) := by
  rw [evE]
  first | done | rfl | (simp only [kB2_eq, kB1_eq, kC3_eq, kC2_eq, kC1_eq, kH3_eq, kH2_eq, kH1_eq, kA2_eq, kA_eq, kO2_eq, kO_eq, kNt2_eq, kNt_eq, kI2_eq, kI_eq, kCa_eq, kK2_eq, kK1_eq, kX_eq, kBl_eq, kM3_eq, kM1_eq, kT_eq, kLs_eq, kIx2_eq, kIx1_eq, kS5_eq, kS4_eq, kS3_eq, kS2_eq, kS1_eq, kIs_eq, kE2_eq, kE1_eq, kTs2_eq, kTs_eq, kW_eq, kWr_eq, kWe_eq, kWz2_eq, kWz1_eq, kLc2_eq, kLc_eq, kAs_eq, kAx3_eq, kAx2_eq, kAx1_eq, kEx_eq, kRt_eq, kIt2_eq, kIt_eq, kFo_eq, kRs_eq]; done) | (simp only [kB2_eq, kB1_eq, kC3_eq, kC2_eq, kC1_eq, kH3_eq, kH2_eq, kH1_eq, kA2_eq, kA_eq, kO2_eq, kO_eq, kNt2_eq, kNt_eq, kI2_eq, kI_eq, kCa_eq, kK2_eq, kK1_eq, kX_eq, kBl_eq, kM3_eq, kM1_eq, kT_eq, kLs_eq, kIx2_eq, kIx1_eq, kS5_eq, kS4_eq, kS3_eq, kS2_eq, kS1_eq, kIs_eq, kE2_eq, kE1_eq, kTs2_eq, kTs_eq, kW_eq, kWr_eq, kWe_eq, kWz2_eq, kWz1_eq, kLc2_eq, kLc_eq, kAs_eq, kAx3_eq, kAx2_eq, kAx1_eq, kEx_eq, kRt_eq, kIt2_eq, kIt_eq, kFo_eq, kRs_eq]; rfl)
theorem e_blt {f : BF} {es : EL} : evE cf sub (.blt f es) ls h = kBl f (evL cf sub es ls h) := by
  rw [evE]
  first | done | rfl | (simp only [kB2_eq, kB1_eq, kC3_eq, kC2_eq, kC1_eq, kH3_eq, kH2_eq, kH1_eq, kA2_eq, kA_eq, kO2_eq, kO_eq, kNt2_eq, kNt_eq, kI2_eq, kI_eq, kCa_eq, kK2_eq, kK1_eq, kX_eq, kBl_eq, kM3_eq, kM1_eq, kT_eq, kLs_eq, kIx2_eq, kIx1_eq, kS5_eq, kS4_eq, kS3_eq, kS2_eq, kS1_eq, kIs_eq, kE2_eq, kE1_eq, kTs2_eq, kTs_eq, kW_eq, kWr_eq, kWe_eq, kWz2_eq, kWz1_eq, kLc2_eq, kLc_eq, kAs_eq, kAx3_eq, kAx2_eq, kAx1_eq, kEx_eq, kRt_eq, kIt2_eq, kIt_eq, kFo_eq, kRs_eq]; done) | (simp only [kB2_eq, kB1_eq, kC3_eq, kC2_eq, kC1_eq, kH3_eq, kH2_eq, kH1_eq, kA2_eq, kA_eq, kO2_eq, kO_eq, kNt2_eq, kNt_eq, kI2_eq, kI_eq, kCa_eq, kK2_eq, kK1_eq, kX_eq, kBl_eq, kM3_eq, kM1_eq, kT_eq, kLs_eq, kIx2_eq, kIx1_eq, kS5_eq, kS4_eq, kS3_eq, kS2_eq, kS1_eq, kIs_eq, kE2_eq, kE1_eq, kTs2_eq, kTs_eq, kW_eq, kWr_eq, kWe_eq, kWz2_eq, kWz1_eq, kLc2_eq, kLc_eq, kAs_eq, kAx3_eq, kAx2_eq, kAx1_eq, kEx_eq, kRt_eq, kIt2_eq, kIt_eq, kFo_eq, kRs_eq]; rfl)
theorem e_mth {m : MF} {o : E} {es : EL} : evE cf sub (.mth m o es) ls h = kM1 cf sub m es ls (evE cf sub o ls h) := by
  rw [evE]
  first | done | rfl | (simp only [kB2_eq, kB1_eq, kC3_eq, kC2_eq, kC1_eq, kH3_eq, kH2_eq, kH1_eq, kA2_eq, kA_eq, kO2_eq, kO_eq, kNt2_eq, kNt_eq, kI2_eq, kI_eq, kCa_eq, kK2_eq, kK1_eq, kX_eq, kBl_eq, kM3_eq, kM1_eq, kT_eq, kLs_eq, kIx2_eq, kIx1_eq, kS5_eq, kS4_eq, kS3_eq, kS2_eq, kS1_eq, kIs_eq, kE2_eq, kE1_eq, kTs2_eq, kTs_eq, kW_eq, kWr_eq, kWe_eq, kWz2_eq, kWz1_eq, kLc2_eq, kLc_eq, kAs_eq, kAx3_eq, kAx2_eq, kAx1_eq, kEx_eq, kRt_eq, kIt2_eq, kIt_eq, kFo_eq, kRs_eq]; done) | (simp only [kB2_eq, kB1_eq, kC3_eq, kC2_eq, kC1_eq, kH3_eq, kH2_eq, kH1_eq, kA2_eq, kA_eq, kO2_eq, kO_eq, kNt2_eq, kNt_eq, kI2_eq, kI_eq, kCa_eq, kK2_eq, kK1_eq, kX_eq, kBl_eq, kM3_eq, kM1_eq, kT_eq, kLs_eq, kIx2_eq, kIx1_eq, kS5_eq, kS4_eq, kS3_eq, kS2_eq, kS1_eq, kIs_eq, kE2_eq, kE1_eq, kTs2_eq, kTs_eq, kW_eq, kWr_eq, kWe_eq, kWz2_eq, kWz1_eq, kLc2_eq, kLc_eq, kAs_eq, kAx3_eq, kAx2_eq, kAx1_eq, kEx_eq, kRt_eq, kIt2_eq, kIt_eq, kFo_eq, kRs_eq]; rfl)
theorem e_tup {es : EL} : evE cf sub (.tup es) ls h = kT (evL cf sub es ls h) := by
  rw [evE]
  first | done | rfl | (simp only [kB2_eq, kB1_eq, kC3_eq, kC2_eq, kC1_eq, kH3_eq, kH2_eq, kH1_eq, kA2_eq, kA_eq, kO2_eq, kO_eq, kNt2_eq, kNt_eq, kI2_eq, kI_eq, kCa_eq, kK2_eq, kK1_eq, kX_eq, kBl_eq, kM3_eq, kM1_eq, kT_eq, kLs_eq, kIx2_eq, kIx1_eq, kS5_eq, kS4_eq, kS3_eq, kS2_eq, kS1_eq, kIs_eq, kE2_eq, kE1_eq, kTs2_eq, kTs_eq, kW_eq, kWr_eq, kWe_eq, kWz2_eq, kWz1_eq, kLc2_eq, kLc_eq, kAs_eq, kAx3_eq, kAx2_eq, kAx1_eq, kEx_eq, kRt_eq, kIt2_eq, kIt_eq, kFo_eq, kRs_eq]; done) | (simp only [kB2_eq, kB1_eq, kC3_eq, kC2_eq, kC1_eq, kH3_eq, kH2_eq, kH1_eq, kA2_eq, kA_eq, kO2_eq, kO_eq, kNt2_eq, kNt_eq, kI2_eq, kI_eq, kCa_eq, kK2_eq, kK1_eq, kX_eq, kBl_eq, kM3_eq, kM1_eq, kT_eq, kLs_eq, kIx2_eq, kIx1_eq, kS5_eq, kS4_eq, kS3_eq, kS2_eq, kS1_eq, kIs_eq, kE2_eq, kE1_eq, kTs2_eq, kTs_eq, kW_eq, kWr_eq, kWe_eq, kWz2_eq, kWz1_eq, kLc2_eq, kLc_eq, kAs_eq, kAx3_eq, kAx2_eq, kAx1_eq, kEx_eq, kRt_eq, kIt2_eq, kIt_eq, kFo_eq, kRs_eq]; rfl)
theorem e_lst {es : EL} : evE cf sub (.lst es) ls h = kLs (evL cf sub es ls h) := by
  rw [evE]
  first | done | rfl | (simp only [kB2_eq, kB1_eq, kC3_eq, kC2_eq, kC1_eq, kH3_eq, kH2_eq, kH1_eq, kA2_eq, kA_eq, kO2_eq, kO_eq, kNt2_eq, kNt_eq, kI2_eq, kI_eq, kCa_eq, kK2_eq, kK1_eq, kX_eq, kBl_eq, kM3_eq, kM1_eq, kT_eq, kLs_eq, kIx2_eq, kIx1_eq, kS5_eq, kS4_eq, kS3_eq, kS2_eq, kS1_eq, kIs_eq, kE2_eq, kE1_eq, kTs2_eq, kTs_eq, kW_eq, kWr_eq, kWe_eq, kWz2_eq, kWz1_eq, kLc2_eq, kLc_eq, kAs_eq, kAx3_eq, kAx2_eq, kAx1_eq, kEx_eq, kRt_eq, kIt2_eq, kIt_eq, kFo_eq, kRs_eq]; done) | (simp only [kB2_eq, kB1_eq, kC3_eq, kC2_eq, kC1_eq, kH3_eq, kH2_eq, kH1_eq, kA2_eq, kA_eq, kO2_eq, kO_eq, kNt2_eq, kNt_eq, kI2_eq, kI_eq, kCa_eq, kK2_eq, kK1_eq, kX_eq, kBl_eq, kM3_eq, kM1_eq, kT_eq, kLs_eq, kIx2_eq, kIx1_eq, kS5_eq, kS4_eq, kS3_eq, kS2_eq, kS1_eq, kIs_eq, kE2_eq, kE1_eq, kTs2_eq, kTs_eq, kW_eq, kWr_eq, kWe_eq, kWz2_eq, kWz1_eq, kLc2_eq, kLc_eq, kAs_eq, kAx3_eq, kAx2_eq, kAx1_eq, kEx_eq, kRt_eq, kIt2_eq, kIt_eq, kFo_eq, kRs_eq]; rfl)
theorem e_emp  : evE cf sub .emp ls h = .ok (.ref h.length) (h ++ [.dct []]) := by
  rw [evE]
  first | done | rfl | (simp only [kB2_eq, kB1_eq, kC3_eq, kC2_eq, kC1_eq, kH3_eq, kH2_eq, kH1_eq, kA2_eq, kA_eq, kO2_eq, kO_eq, kNt2_eq, kNt_eq, kI2_eq, kI_eq, kCa_eq, kK2_eq, kK1_eq, kX_eq, kBl_eq, kM3_eq, kM1_eq, kT_eq, kLs_eq, kIx2_eq, kIx1_eq, kS5_eq, kS4_eq, kS3_eq, kS2_eq, kS1_eq, kIs_eq, kE2_eq, kE1_eq, kTs2_eq, kTs_eq, kW_eq, kWr_eq, kWe_eq, kWz2_eq, kWz1_eq, kLc2_eq, kLc_eq, kAs_eq, kAx3_eq, kAx2_eq, kAx1_eq, kEx_eq, kRt_eq, kIt2_eq, kIt_eq, kFo_eq, kRs_eq]; done) | (simp only [kB2_eq, kB1_eq, kC3_eq, kC2_eq, kC1_eq, kH3_eq, kH2_eq, kH1_eq, kA2_eq, kA_eq, kO2_eq, kO_eq, kNt2_eq, kNt_eq, kI2_eq, kI_eq, kCa_eq, kK2_eq, kK1_eq, kX_eq, kBl_eq, kM3_eq, kM1_eq, kT_eq, kLs_eq, kIx2_eq, kIx1_eq, kS5_eq, kS4_eq, kS3_eq, kS2_eq, kS1_eq, kIs_eq, kE2_eq, kE1_eq, kTs2_eq, kTs_eq, kW_eq, kWr_eq, kWe_eq, kWz2_eq, kWz1_eq, kLc2_eq, kLc_eq, kAs_eq, kAx3_eq, kAx2_eq, kAx1_eq, kEx_eq, kRt_eq, kIt2_eq, kIt_eq, kFo_eq, kRs_eq]; rfl)
theorem e_ix {a b : E} : evE cf sub (.ix a b) ls h = kIx1 cf sub b ls (evE cf sub a ls h) := by
  rw [evE]
  first | done | rfl | (simp only [kB2_eq, kB1_eq, kC3_eq, kC2_eq, kC1_eq, kH3_eq, kH2_eq, kH1_eq, kA2_eq, kA_eq, kO2_eq, kO_eq, kNt2_eq, kNt_eq, kI2_eq, kI_eq, kCa_eq, kK2_eq, kK1_eq, kX_eq, kBl_eq, kM3_eq, kM1_eq, kT_eq, kLs_eq, kIx2_eq, kIx1_eq, kS5_eq, kS4_eq, kS3_eq, kS2_eq, kS1_eq, kIs_eq, kE2_eq, kE1_eq, kTs2_eq, kTs_eq, kW_eq, kWr_eq, kWe_eq, kWz2_eq, kWz1_eq, kLc2_eq, kLc_eq, kAs_eq, kAx3_eq, kAx2_eq, kAx1_eq, kEx_eq, kRt_eq, kIt2_eq, kIt_eq, kFo_eq, kRs_eq]; done) | (simp only [kB2_eq, kB1_eq, kC3_eq, kC2_eq, kC1_eq, kH3_eq, kH2_eq, kH1_eq, kA2_eq, kA_eq, kO2_eq, kO_eq, kNt2_eq, kNt_eq, kI2_eq, kI_eq, kCa_eq, kK2_eq, kK1_eq, kX_eq, kBl_eq, kM3_eq, kM1_eq, kT_eq, kLs_eq, kIx2_eq, kIx1_eq, kS5_eq, kS4_eq, kS3_eq, kS2_eq, kS1_eq, kIs_eq, kE2_eq, kE1_eq, kTs2_eq, kTs_eq, kW_eq, kWr_eq, kWe_eq, kWz2_eq, kWz1_eq, kLc2_eq, kLc_eq, kAs_eq, kAx3_eq, kAx2_eq, kAx1_eq, kEx_eq, kRt_eq, kIt2_eq, kIt_eq, kFo_eq, kRs_eq]; rfl)
theorem e_slc {a l u : E} {bl bh : Bool} : evE cf sub (.slc a bl bh l u) ls h = kS1 cf sub bl bh l u ls (evE cf sub a ls h) := by
  rw [evE]
  first | done | rfl | (simp only [kB2_eq, kB1_eq, kC3_eq, kC2_eq, kC1_eq, kH3_eq, kH2_eq, kH1_eq, kA2_eq, kA_eq, kO2_eq, kO_eq, kNt2_eq, kNt_eq, kI2_eq, kI_eq, kCa_eq, kK2_eq, kK1_eq, kX_eq, kBl_eq, kM3_eq, kM1_eq, kT_eq, kLs_eq, kIx2_eq, kIx1_eq, kS5_eq, kS4_eq, kS3_eq, kS2_eq, kS1_eq, kIs_eq, kE2_eq, kE1_eq, kTs2_eq, kTs_eq, kW_eq, kWr_eq, kWe_eq, kWz2_eq, kWz1_eq, kLc2_eq, kLc_eq, kAs_eq, kAx3_eq, kAx2_eq, kAx1_eq, kEx_eq, kRt_eq, kIt2_eq, kIt_eq, kFo_eq, kRs_eq]; done) | (simp only [kB2_eq, kB1_eq, kC3_eq, kC2_eq, kC1_eq, kH3_eq, kH2_eq, kH1_eq, kA2_eq, kA_eq, kO2_eq, kO_eq, kNt2_eq, kNt_eq, kI2_eq, kI_eq, kCa_eq, kK2_eq, kK1_eq, kX_eq, kBl_eq, kM3_eq, kM1_eq, kT_eq, kLs_eq, kIx2_eq, kIx1_eq, kS5_eq, kS4_eq, kS3_eq, kS2_eq, kS1_eq, kIs_eq, kE2_eq, kE1_eq, kTs2_eq, kTs_eq, kW_eq, kWr_eq, kWe_eq, kWz2_eq, kWz1_eq, kLc2_eq, kLc_eq, kAs_eq, kAx3_eq, kAx2_eq, kAx1_eq, kEx_eq, kRt_eq, kIt2_eq, kIt_eq, kFo_eq, kRs_eq]; rfl)
theorem e_isi {a : E} {ts : List Ty} : evE cf sub (.isi a ts) ls h = kIs ts (evE cf sub a ls h) := by
  rw [evE]
  first | done | rfl | (simp only [kB2_eq, kB1_eq, kC3_eq, kC2_eq, kC1_eq, kH3_eq, kH2_eq, kH1_eq, kA2_eq, kA_eq, kO2_eq, kO_eq, kNt2_eq, kNt_eq, kI2_eq, kI_eq, kCa_eq, kK2_eq, kK1_eq, kX_eq, kBl_eq, kM3_eq, kM1_eq, kT_eq, kLs_eq, kIx2_eq, kIx1_eq, kS5_eq, kS4_eq, kS3_eq, kS2_eq, kS1_eq, kIs_eq, kE2_eq, kE1_eq, kTs2_eq, kTs_eq, kW_eq, kWr_eq, kWe_eq, kWz2_eq, kWz1_eq, kLc2_eq, kLc_eq, kAs_eq, kAx3_eq, kAx2_eq, kAx1_eq, kEx_eq, kRt_eq, kIt2_eq, kIt_eq, kFo_eq, kRs_eq]; done) | (simp only [kB2_eq, kB1_eq, kC3_eq, kC2_eq, kC1_eq, kH3_eq, kH2_eq, kH1_eq, kA2_eq, kA_eq, kO2_eq, kO_eq, kNt2_eq, kNt_eq, kI2_eq, kI_eq, kCa_eq, kK2_eq, kK1_eq, kX_eq, kBl_eq, kM3_eq, kM1_eq, kT_eq, kLs_eq, kIx2_eq, kIx1_eq, kS5_eq, kS4_eq, kS3_eq, kS2_eq, kS1_eq, kIs_eq, kE2_eq, kE1_eq, kTs2_eq, kTs_eq, kW_eq, kWr_eq, kWe_eq, kWz2_eq, kWz1_eq, kLc2_eq, kLc_eq, kAs_eq, kAx3_eq, kAx2_eq, kAx1_eq, kEx_eq, kRt_eq, kIt2_eq, kIt_eq, kFo_eq, kRs_eq]; rfl)
theorem e_xis {c : Nat} : evE cf sub (.xis c) ls h = gXi sub c ls.x h := by
  rw [evE]
  cases ls.x <;> rfl
theorem e_xf {k : Nat} : evE cf sub (.xf k) ls h = gXf k ls.x h := by
  rw [evE]
  cases ls.x <;> rfl
theorem e_lc {elt : E} {own : List Nat} {t : Tg} {w : W} {ifs : EL} : evE cf sub (.lc elt own t w ifs) ls h = kLc cf sub elt own t ifs ls (evW cf sub w ls h) := by
  rw [evE]
  simp only [kLc_eq, kLc2_eq]
  rfl
theorem l_nil  : evL cf sub .nil ls h = .ok [] h := by
  rw [evL]
  first | done | rfl | (simp only [kB2_eq, kB1_eq, kC3_eq, kC2_eq, kC1_eq, kH3_eq, kH2_eq, kH1_eq, kA2_eq, kA_eq, kO2_eq, kO_eq, kNt2_eq, kNt_eq, kI2_eq, kI_eq, kCa_eq, kK2_eq, kK1_eq, kX_eq, kBl_eq, kM3_eq, kM1_eq, kT_eq, kLs_eq, kIx2_eq, kIx1_eq, kS5_eq, kS4_eq, kS3_eq, kS2_eq, kS1_eq, kIs_eq, kE2_eq, kE1_eq, kTs2_eq, kTs_eq, kW_eq, kWr_eq, kWe_eq, kWz2_eq, kWz1_eq, kLc2_eq, kLc_eq, kAs_eq, kAx3_eq, kAx2_eq, kAx1_eq, kEx_eq, kRt_eq, kIt2_eq, kIt_eq, kFo_eq, kRs_eq]; done) | (simp only [kB2_eq, kB1_eq, kC3_eq, kC2_eq, kC1_eq, kH3_eq, kH2_eq, kH1_eq, kA2_eq, kA_eq, kO2_eq, kO_eq, kNt2_eq, kNt_eq, kI2_eq, kI_eq, kCa_eq, kK2_eq, kK1_eq, kX_eq, kBl_eq, kM3_eq, kM1_eq, kT_eq, kLs_eq, kIx2_eq, kIx1_eq, kS5_eq, kS4_eq, kS3_eq, kS2_eq, kS1_eq, kIs_eq, kE2_eq, kE1_eq, kTs2_eq, kTs_eq, kW_eq, kWr_eq, kWe_eq, kWz2_eq, kWz1_eq, kLc2_eq, kLc_eq, kAs_eq, kAx3_eq, kAx2_eq, kAx1_eq, kEx_eq, kRt_eq, kIt2_eq, kIt_eq, kFo_eq, kRs_eq]; rfl)
theorem l_cons {e : E} {es : EL} : evL cf sub (.cons e es) ls h = kE1 cf sub es ls (evE cf sub e ls h) := by
  rw [evL]
  first | done | rfl | (simp only [kB2_eq, kB1_eq, kC3_eq, kC2_eq, kC1_eq, kH3_eq, kH2_eq, kH1_eq, kA2_eq, kA_eq, kO2_eq, kO_eq, kNt2_eq, kNt_eq, kI2_eq, kI_eq, kCa_eq, kK2_eq, kK1_eq, kX_eq, kBl_eq, kM3_eq, kM1_eq, kT_eq, kLs_eq, kIx2_eq, kIx1_eq, kS5_eq, kS4_eq, kS3_eq, kS2_eq, kS1_eq, kIs_eq, kE2_eq, kE1_eq, kTs2_eq, kTs_eq, kW_eq, kWr_eq, kWe_eq, kWz2_eq, kWz1_eq, kLc2_eq, kLc_eq, kAs_eq, kAx3_eq, kAx2_eq, kAx1_eq, kEx_eq, kRt_eq, kIt2_eq, kIt_eq, kFo_eq, kRs_eq]; done) | (simp only [kB2_eq, kB1_eq, kC3_eq, kC2_eq, kC1_eq, kH3_eq, kH2_eq, kH1_eq, kA2_eq, kA_eq, kO2_eq, kO_eq, kNt2_eq, kNt_eq, kI2_eq, kI_eq, kCa_eq, kK2_eq, kK1_eq, kX_eq, kBl_eq, kM3_eq, kM1_eq, kT_eq, kLs_eq, kIx2_eq, kIx1_eq, kS5_eq, kS4_eq, kS3_eq, kS2_eq, kS1_eq, kIs_eq, kE2_eq, kE1_eq, kTs2_eq, kTs_eq, kW_eq, kWr_eq, kWe_eq, kWz2_eq, kWz1_eq, kLc2_eq, kLc_eq, kAs_eq, kAx3_eq, kAx2_eq, kAx1_eq, kEx_eq, kRt_eq, kIt2_eq, kIt_eq, kFo_eq, kRs_eq]; rfl)
theorem t_nil  : evTs cf sub .nil ls h = .ok true h := by
  rw [evTs]
  first | done | rfl | (simp only [kB2_eq, kB1_eq, kC3_eq, kC2_eq, kC1_eq, kH3_eq, kH2_eq, kH1_eq, kA2_eq, kA_eq, kO2_eq, kO_eq, kNt2_eq, kNt_eq, kI2_eq, kI_eq, kCa_eq, kK2_eq, kK1_eq, kX_eq, kBl_eq, kM3_eq, kM1_eq, kT_eq, kLs_eq, kIx2_eq, kIx1_eq, kS5_eq, kS4_eq, kS3_eq, kS2_eq, kS1_eq, kIs_eq, kE2_eq, kE1_eq, kTs2_eq, kTs_eq, kW_eq, kWr_eq, kWe_eq, kWz2_eq, kWz1_eq, kLc2_eq, kLc_eq, kAs_eq, kAx3_eq, kAx2_eq, kAx1_eq, kEx_eq, kRt_eq, kIt2_eq, kIt_eq, kFo_eq, kRs_eq]; done) | (simp only [kB2_eq, kB1_eq, kC3_eq, kC2_eq, kC1_eq, kH3_eq, kH2_eq, kH1_eq, kA2_eq, kA_eq, kO2_eq, kO_eq, kNt2_eq, kNt_eq, kI2_eq, kI_eq, kCa_eq, kK2_eq, kK1_eq, kX_eq, kBl_eq, kM3_eq, kM1_eq, kT_eq, kLs_eq, kIx2_eq, kIx1_eq, kS5_eq, kS4_eq, kS3_eq, kS2_eq, kS1_eq, kIs_eq, kE2_eq, kE1_eq, kTs2_eq, kTs_eq, kW_eq, kWr_eq, kWe_eq, kWz2_eq, kWz1_eq, kLc2_eq, kLc_eq, kAs_eq, kAx3_eq, kAx2_eq, kAx1_eq, kEx_eq, kRt_eq, kIt2_eq, kIt_eq, kFo_eq, kRs_eq]; rfl)
theorem t_cons {e : E} {es : EL} : evTs cf sub (.cons e es) ls h = kTs cf sub es ls (evE cf sub e ls h) := by
  rw [evTs]
  first | done | rfl | (simp only [kB2_eq, kB1_eq, kC3_eq, kC2_eq, kC1_eq, kH3_eq, kH2_eq, kH1_eq, kA2_eq, kA_eq, kO2_eq, kO_eq, kNt2_eq, kNt_eq, kI2_eq, kI_eq, kCa_eq, kK2_eq, kK1_eq, kX_eq, kBl_eq, kM3_eq, kM1_eq, kT_eq, kLs_eq, kIx2_eq, kIx1_eq, kS5_eq, kS4_eq, kS3_eq, kS2_eq, kS1_eq, kIs_eq, kE2_eq, kE1_eq, kTs2_eq, kTs_eq, kW_eq, kWr_eq, kWe_eq, kWz2_eq, kWz1_eq, kLc2_eq, kLc_eq, kAs_eq, kAx3_eq, kAx2_eq, kAx1_eq, kEx_eq, kRt_eq, kIt2_eq, kIt_eq, kFo_eq, kRs_eq]; done) | (simp only [kB2_eq, kB1_eq, kC3_eq, kC2_eq, kC1_eq, kH3_eq, kH2_eq, kH1_eq, kA2_eq, kA_eq, kO2_eq, kO_eq, kNt2_eq, kNt_eq, kI2_eq, kI_eq, kCa_eq, kK2_eq, kK1_eq, kX_eq, kBl_eq, kM3_eq, kM1_eq, kT_eq, kLs_eq, kIx2_eq, kIx1_eq, kS5_eq, kS4_eq, kS3_eq, kS2_eq, kS1_eq, kIs_eq, kE2_eq, kE1_eq, kTs2_eq, kTs_eq, kW_eq, kWr_eq, kWe_eq, kWz2_eq, kWz1_eq, kLc2_eq, kLc_eq, kAs_eq, kAx3_eq, kAx2_eq, kAx1_eq, kEx_eq, kRt_eq, kIt2_eq, kIt_eq, kFo_eq, kRs_eq]; rfl)
theorem w_val {e : E} : evW cf sub (.val e) ls h = kW (evE cf sub e ls h) := by
  rw [evW]
  first | done | rfl | (simp only [kB2_eq, kB1_eq, kC3_eq, kC2_eq, kC1_eq, kH3_eq, kH2_eq, kH1_eq, kA2_eq, kA_eq, kO2_eq, kO_eq, kNt2_eq, kNt_eq, kI2_eq, kI_eq, kCa_eq, kK2_eq, kK1_eq, kX_eq, kBl_eq, kM3_eq, kM1_eq, kT_eq, kLs_eq, kIx2_eq, kIx1_eq, kS5_eq, kS4_eq, kS3_eq, kS2_eq, kS1_eq, kIs_eq, kE2_eq, kE1_eq, kTs2_eq, kTs_eq, kW_eq, kWr_eq, kWe_eq, kWz2_eq, kWz1_eq, kLc2_eq, kLc_eq, kAs_eq, kAx3_eq, kAx2_eq, kAx1_eq, kEx_eq, kRt_eq, kIt2_eq, kIt_eq, kFo_eq, kRs_eq]; done) | (simp only [kB2_eq, kB1_eq, kC3_eq, kC2_eq, kC1_eq, kH3_eq, kH2_eq, kH1_eq, kA2_eq, kA_eq, kO2_eq, kO_eq, kNt2_eq, kNt_eq, kI2_eq, kI_eq, kCa_eq, kK2_eq, kK1_eq, kX_eq, kBl_eq, kM3_eq, kM1_eq, kT_eq, kLs_eq, kIx2_eq, kIx1_eq, kS5_eq, kS4_eq, kS3_eq, kS2_eq, kS1_eq, kIs_eq, kE2_eq, kE1_eq, kTs2_eq, kTs_eq, kW_eq, kWr_eq, kWe_eq, kWz2_eq, kWz1_eq, kLc2_eq, kLc_eq, kAs_eq, kAx3_eq, kAx2_eq, kAx1_eq, kEx_eq, kRt_eq, kIt2_eq, kIt_eq, kFo_eq, kRs_eq]; rfl)
theorem w_rng {n : Nat} {es : EL} : evW cf sub (.rng n es) ls h = kWr n (evL cf sub es ls h) := by
  rw [evW]
  first | done | rfl | (simp only [kB2_eq, kB1_eq, kC3_eq, kC2_eq, kC1_eq, kH3_eq, kH2_eq, kH1_eq, kA2_eq, kA_eq, kO2_eq, kO_eq, kNt2_eq, kNt_eq, kI2_eq, kI_eq, kCa_eq, kK2_eq, kK1_eq, kX_eq, kBl_eq, kM3_eq, kM1_eq, kT_eq, kLs_eq, kIx2_eq, kIx1_eq, kS5_eq, kS4_eq, kS3_eq, kS2_eq, kS1_eq, kIs_eq, kE2_eq, kE1_eq, kTs2_eq, kTs_eq, kW_eq, kWr_eq, kWe_eq, kWz2_eq, kWz1_eq, kLc2_eq, kLc_eq, kAs_eq, kAx3_eq, kAx2_eq, kAx1_eq, kEx_eq, kRt_eq, kIt2_eq, kIt_eq, kFo_eq, kRs_eq]; done) | (simp only [kB2_eq, kB1_eq, kC3_eq, kC2_eq, kC1_eq, kH3_eq, kH2_eq, kH1_eq, kA2_eq, kA_eq, kO2_eq, kO_eq, kNt2_eq, kNt_eq, kI2_eq, kI_eq, kCa_eq, kK2_eq, kK1_eq, kX_eq, kBl_eq, kM3_eq, kM1_eq, kT_eq, kLs_eq, kIx2_eq, kIx1_eq, kS5_eq, kS4_eq, kS3_eq, kS2_eq, kS1_eq, kIs_eq, kE2_eq, kE1_eq, kTs2_eq, kTs_eq, kW_eq, kWr_eq, kWe_eq, kWz2_eq, kWz1_eq, kLc2_eq, kLc_eq, kAs_eq, kAx3_eq, kAx2_eq, kAx1_eq, kEx_eq, kRt_eq, kIt2_eq, kIt_eq, kFo_eq, kRs_eq]; rfl)
theorem w_enum {e : E} : evW cf sub (.enum e) ls h = kWe (evE cf sub e ls h) := by
  rw [evW]
  first | done | rfl | (simp only [kB2_eq, kB1_eq, kC3_eq, kC2_eq, kC1_eq, kH3_eq, kH2_eq, kH1_eq, kA2_eq, kA_eq, kO2_eq, kO_eq, kNt2_eq, kNt_eq, kI2_eq, kI_eq, kCa_eq, kK2_eq, kK1_eq, kX_eq, kBl_eq, kM3_eq, kM1_eq, kT_eq, kLs_eq, kIx2_eq, kIx1_eq, kS5_eq, kS4_eq, kS3_eq, kS2_eq, kS1_eq, kIs_eq, kE2_eq, kE1_eq, kTs2_eq, kTs_eq, kW_eq, kWr_eq, kWe_eq, kWz2_eq, kWz1_eq, kLc2_eq, kLc_eq, kAs_eq, kAx3_eq, kAx2_eq, kAx1_eq, kEx_eq, kRt_eq, kIt2_eq, kIt_eq, kFo_eq, kRs_eq]; done) | (simp only [kB2_eq, kB1_eq, kC3_eq, kC2_eq, kC1_eq, kH3_eq, kH2_eq, kH1_eq, kA2_eq, kA_eq, kO2_eq, kO_eq, kNt2_eq, kNt_eq, kI2_eq, kI_eq, kCa_eq, kK2_eq, kK1_eq, kX_eq, kBl_eq, kM3_eq, kM1_eq, kT_eq, kLs_eq, kIx2_eq, kIx1_eq, kS5_eq, kS4_eq, kS3_eq, kS2_eq, kS1_eq, kIs_eq, kE2_eq, kE1_eq, kTs2_eq, kTs_eq, kW_eq, kWr_eq, kWe_eq, kWz2_eq, kWz1_eq, kLc2_eq, kLc_eq, kAs_eq, kAx3_eq, kAx2_eq, kAx1_eq, kEx_eq, kRt_eq, kIt2_eq, kIt_eq, kFo_eq, kRs_eq]; rfl)
theorem w_zip {a b : E} : evW cf sub (.zip a b) ls h = kWz1 cf sub b ls (evE cf sub a ls h) := by
  rw [evW]
  simp only [kWz1_eq, kWz2_eq]
  rfl
theorem x_asg {t : Tg} {e : E} : exS cf sub wf (.asg t e) ls h = kAs t ls (evE cf sub e ls h) := by
  rw [exS]
  cases evE cf sub e ls h with
  | ok x g =>
    show _ = kAs2 ls (bindT g t x ls.v) g
    simp only [Res.out_ok]
    cases bindT g t x ls.v <;> rfl
  | ex _ _ => rfl
  | bad => rfl
theorem x_asx {a i e : E} : exS cf sub wf (.asx a i e) ls h = kAx1 cf sub a i ls (evE cf sub e ls h) := by
  rw [exS]
  simp only [kAx1_eq, kAx2_eq, kAx3_eq]
  rfl
theorem x_exp {e : E} : exS cf sub wf (.exp e) ls h = kEx ls (evE cf sub e ls h) := by
  rw [exS]
  simp only [kEx_eq]
theorem x_ret {e : E} : exS cf sub wf (.ret e) ls h = kRt ls (evE cf sub e ls h) := by
  rw [exS]
  simp only [kRt_eq]
theorem x_ite {c : E} {a b : SL} : exS cf sub wf (.ite c a b) ls h = kIt cf sub wf a b ls (evE cf sub c ls h) := by
  rw [exS]
  simp only [kIt_eq, kIt2_eq]
theorem x_for {t : Tg} {w : W} {b : SL} : exS cf sub wf (.for_ t w b) ls h = kFo cf sub wf t b ls (evW cf sub w ls h) := by
  rw [exS]
  simp only [kFo_eq]
  rfl
theorem x_whl {c : E} {b : SL} : exS cf sub wf (.whl c b) ls h = whGo (fT cf sub c) (fB cf sub wf b) wf ls h := by
  rw [exS]
  first | done | rfl
theorem x_rse {c : Nat} {k : Bool} {es : EL} : exS cf sub wf (.rse c k es) ls h = kRs c k ls (evL cf sub es ls h) := by
  rw [exS]
  simp only [kRs_eq]
theorem x_try {b : SL} {hs : HL} : exS cf sub wf (.try_ b hs) ls h = kTr cf sub wf hs (exL cf sub wf b ls h) := by
  rw [exS]
  cases exL cf sub wf b ls h <;> rfl
theorem x_pass : exS cf sub wf .pass ls h = .nx ls h := by rw [exS]
theorem x_brk : exS cf sub wf .brk ls h = .bk ls h := by rw [exS]
theorem x_cont : exS cf sub wf .cont ls h = .ct ls h := by rw [exS]
theorem x_nil : exL cf sub wf .nil ls h = .nx ls h := by rw [exL]
theorem x_cons {s : S} {t : SL} : exL cf sub wf (.cons s t) ls h = kSq cf sub wf t (exS cf sub wf s ls h) := by
  rw [exL]
  cases exS cf sub wf s ls h <;> rfl
theorem fB_ap {b : SL} : fB cf sub wf b ls h = exL cf sub wf b ls h := rfl
theorem fT_ap {c : E} : fT cf sub c ls h = (evE cf sub c ls h).bind fun x h => lift (truthy h x) h := rfl
theorem fTs_ap {es : EL} {x : Option Xn} {l : List (Option D)} : fTs cf sub es x l h = evTs cf sub es ⟨l, x⟩ h := rfl
theorem fE_ap {e : E} {x : Option Xn} {l : List (Option D)} : fE cf sub e x l h = evE cf sub e ⟨l, x⟩ h := rfl
theorem forGo_nil {body : Lo → HP → Out} {t : Tg} {ws : List (Nat × O)} : forGo body t ws [] ls h = if watchOk ws h = true then .nx ls h else .bad := by rw [forGo]
theorem forGo_cons {body : Lo → HP → Out} {t : Tg} {ws : List (Nat × O)} {x : D} {xs : List D} : forGo body t ws (x :: xs) ls h = if watchOk ws h = true then kF1 body t ws xs ls.x (bindT h t x ls.v) h else .bad := by
  rw [forGo]
  congr 1
theorem whGo_succ {test : Lo → HP → Res Bool} {body : Lo → HP → Out} {n : Nat} : whGo test body (n + 1) ls h = kWh1 test body n ls (test ls h) := by
  rw [whGo]
  cases test ls h with
  | ok b g => cases b with
    | true =>
      show _ = kWh2 test body n (body ls g)
      simp only [Res.out_ok, if_true]
      cases body ls g <;> rfl
    | false => rfl
  | ex _ _ => rfl
  | bad => rfl
theorem exH_none {c : Nat} {b : SL} {t : HL} {x : Xn} : exH cf sub wf (.cons c none b t) x ls h = if sub x.c c = true then (exL cf sub wf b ⟨ls.v, some x⟩ h).suE (fun l => ⟨l.v, ls.x⟩) else exH cf sub wf t x ls h := by
  rw [exH.eq_def]
  dsimp only
  split
  · cases exL cf sub wf b ⟨ls.v, some x⟩ h <;> rfl
  · rfl
theorem exH_some {c i : Nat} {b : SL} {t : HL} {x : Xn} : exH cf sub wf (.cons c (some i) b t) x ls h = if sub x.c c = true then (if i < ls.v.length then (exL cf sub wf b ⟨ls.v.set i none, some x⟩ h).suE (fun l => ⟨l.v.set i none, ls.x⟩) else .bad) else exH cf sub wf t x ls h := by
  rw [exH.eq_def]
  dsimp only
  split
  · split
    · cases exL cf sub wf b ⟨ls.v.set i none, some x⟩ h <;> rfl
    · rfl
  · rfl
theorem exH_nil {x : Xn} : exH cf sub wf .nil x ls h = .ex x ls h := by rw [exH]
end
/-! gc -/
theorem gcOk_refl {h : HP} : gcOk h h = true := gcOk_iff.mpr ⟨Nat.le_refl _, fun m a b e1 e2 => .inl (by rw [e1] at e2; exact Option.some.inj e2)⟩
theorem gcOk_app {h l : HP} : gcOk h (h ++ l) = true := gcOk_iff.mpr ⟨by simp, fun m a b e1 e2 => .inl (by
  rw [List.getElem?_append_left (List.getElem?_eq_some_iff.mp e2).1, e2] at e1
  exact (Option.some.inj e1).symm)⟩
theorem gcOk_set {h : HP} {m : Nat} {o : O} {l : HP} (c : o.cl h.length = true) : gcOk h (h.set m o ++ l) = true := gcOk_iff.mpr ⟨by simp, fun k a b e1 e2 => by
  have hk := (List.getElem?_eq_some_iff.mp e2).1
  rw [List.getElem?_append_left (by simpa using hk)] at e1
  by_cases q : m = k
  · subst q
    rw [List.getElem?_set_self hk] at e1
    cases e1
    exact .inr c
  · rw [List.getElem?_set_ne q, e2] at e1
    exact .inl (Option.some.inj e1).symm⟩
theorem gc_same {h : HP} {d : D} : gc h d h = .ok d h := by
  unfold gc
  rw [if_pos gcOk_refl]
  split
  · rw [List.take_length]
  · split
    · split
      · rename_i m _ _ o e
        have := (List.getElem?_eq_some_iff.mp e).1
        rw [if_neg (by omega)]
      · rfl
    · rfl
theorem gcX_same {h : HP} {x : Xn} : gcX h x h = .ex x h := by
  unfold gcX
  split
  · rw [List.take_length]
  · rfl
/-- only new objects, the value none of them -/
theorem gc_app {h l : HP} {d : D} (c : d.cl h.length = true) : gc h d (h ++ l) = .ok d h := by
  unfold gc
  rw [if_pos gcOk_app, if_pos c, List.take_left]
/-- a new flat object -/
theorem gc_new {h l : HP} {m : Nat} {o : O} (e : (h ++ l)[m]? = some o) (hm : h.length ≤ m) (c : o.cl h.length = true) : gc h (.ref m) (h ++ l) = .ok (.ref h.length) (h ++ [o]) := by
  unfold gc
  have hc : ¬ (D.ref m).cl h.length = true := by
    rw [D.cl]
    simp only [decide_eq_true_eq]
    omega
  rw [if_pos gcOk_app, if_neg hc]
  dsimp only
  rw [e]
  dsimp only
  rw [if_pos ⟨hm, c⟩, List.take_left]
/-! values -/
theorem strOf_eq {s t : List Nat} (e : strOf s = strOf t) : s = t := by
  unfold strOf at e
  injection e with e
  simpa using congrArg Array.toList e
section
variable {h : HP}
theorem eqD_int {i j : Int} : eqD h (.int i) (.int j) = some (decide (i = j)) := rfl
theorem eqD_bl {i j : Bool} : eqD h (.bl i) (.bl j) = some (i == j) := rfl
theorem eqD_bl_int {i : Bool} {j : Int} : eqD h (.bl i) (.int j) = some ((if i then 1 else 0) == j) := rfl
theorem eqD_str {s t : List Nat} : eqD h (.str s) (.str t) = some (decide (s = t)) := by
  show some (strOf s == strOf t) = _
  congr 1
  rw [Bool.eq_iff_iff, beq_iff_eq, decide_eq_true_eq]
  exact ⟨strOf_eq, fun e => by rw [e]⟩
theorem eqD_str_int {s : List Nat} {i : Int} : eqD h (.str s) (.int i) = some false := rfl
theorem eqD_int_str {s : List Nat} {i : Int} : eqD h (.int i) (.str s) = some false := rfl
theorem eqD_non {d : D} (e : py h d = some .none) : eqD h d .non = some true := by
  unfold eqD
  have : py h .non = some PyData.none := rfl
  rw [e, this]
  rfl
end
section
variable {h : HP} {i j : Int}
theorem b_add : opB .add (.int i) (.int j) h = .ok (.int (i + j)) h := rfl
theorem b_sub : opB .sub (.int i) (.int j) h = .ok (.int (i - j)) h := rfl
theorem b_mulr (c : -P64 < j ∧ j < P64) : opB .mul (.int i) (.int j) h = .ok (.int (i * j)) h := if_pos (.inr c)
theorem b_mull (c : -P64 < i ∧ i < P64) : opB .mul (.int i) (.int j) h = .ok (.int (i * j)) h := if_pos (.inl c)
theorem b_fdiv (c : 0 < j ∧ j < 1073741824) : opB .fdiv (.int i) (.int j) h = .ok (.int (i / j)) h := if_pos c
theorem b_mod (c : 0 < j) : opB .mod (.int i) (.int j) h = .ok (.int (i % j)) h := if_pos c
theorem b_pow (c : 0 ≤ j ∧ j ≤ 1000000 ∧ i.natAbs < 18446744073709551616) : opB .pow (.int i) (.int j) h = .ok (.int (i ^ j.toNat)) h := if_pos c
theorem b_adds {s t : List Nat} (c : s.length + t.length ≤ LIM) : opB .add (.str s) (.str t) h = .ok (.str (s ++ t)) h := if_pos c
theorem b_addt {s t : List D} (c : s.length + t.length ≤ LIM) : opB .add (.tup s) (.tup t) h = .ok (.tup (s ++ t)) h := if_pos c
theorem c_eq {a b : D} : opC .eq a b h = eqD h a b := rfl
theorem c_ne {a b : D} : opC .ne a b h = (eqD h a b).map (!·) := rfl
theorem c_lt : opC .lt (.int i) (.int j) h = some (decide (i < j)) := rfl
theorem c_le : opC .le (.int i) (.int j) h = some (decide (i ≤ j)) := rfl
theorem c_gt : opC .gt (.int i) (.int j) h = some (decide (j < i)) := rfl
theorem c_ge : opC .ge (.int i) (.int j) h = some (decide (j ≤ i)) := rfl
theorem c_int {a : D} {ys : List D} : opC .in_ a (.tup ys) h = memD h a ys := rfl
theorem c_nint {a : D} {ys : List D} : opC .notIn a (.tup ys) h = (memD h a ys).map (!·) := rfl
theorem f_int1 : evB .int1 [.int i] h = .ok (.int i) h := rfl
theorem f_abs : evB .abs [.int i] h = .ok (.int (if i < 0 then -i else i)) h := rfl
theorem f_min2 : evB .min2 [.int i, .int j] h = .ok (.int (if j < i then j else i)) h := rfl
theorem f_max2 : evB .max2 [.int i, .int j] h = .ok (.int (if j > i then j else i)) h := rfl
theorem f_lens {s : List Nat} : evB .len [.str s] h = .ok (.int s.length) h := rfl
theorem f_lent {s : List D} : evB .len [.tup s] h = .ok (.int s.length) h := rfl
theorem f_lenr {m : Nat} : evB .len [.ref m] h = lift ((rdL h m).map fun xs => .int xs.length) h := by
  simp only [evB, rdL]
  cases h[m]? with
  | none => rfl
  | some o => cases o <;> rfl
theorem ix_t {xs : List D} : opIx (.tup xs) (.int i) h = (L2.ixN xs.length i).bind fun k => xs[k]? := rfl
theorem ix_r {m : Nat} : opIx (.ref m) (.int i) h = (rdL h m).bind fun xs => (L2.ixN xs.length i).bind fun k => xs[k]? := rfl
theorem f_list1 {xs : List D} : evB .list1 [.tup xs] h = .ok (.ref h.length) (h ++ [.lst xs]) := rfl
theorem rdL_lst {m : Nat} {xs : List D} (e : h[m]? = some (.lst xs)) : rdL h m = some xs := by
  unfold rdL
  rw [e]
theorem rdL_frz {m : Nat} {xs : List D} (e : h[m]? = some (.frz xs)) : rdL h m = some xs := by
  unfold rdL
  rw [e]
theorem m_app {m : Nat} {xs : List D} {d : D} (e : h[m]? = some (.lst xs)) (c : xs.length < LIM) : evM .append (.ref m) [d] h = .ok .non (h.set m (.lst (xs ++ [d]))) := by
  simp only [evM, e]
  exact if_pos c
theorem hasM_app {m : Nat} {xs : List D} (e : h[m]? = some (.lst xs)) : hasM .append h (.ref m) = true := by
  unfold hasM tyM
  simp only [e]
  rfl
end
theorem gc_set {h l : HP} {m : Nat} {o : O} {d : D} (c : o.cl h.length = true) (e : d.cl h.length = true) : gc h d (h.set m o ++ l) = .ok d (h.set m o) := by
  unfold gc
  rw [if_pos (gcOk_set c), if_pos e]
  congr 1
  rw [List.take_left' (by rw [List.length_set])]
theorem gc_set_new {h l : HP} {m k : Nat} {o u : O} (c : o.cl h.length = true) (e : (h.set m o ++ l)[k]? = some u) (hk : h.length ≤ k) (cu : u.cl h.length = true) : gc h (.ref k) (h.set m o ++ l) = .ok (.ref h.length) (h.set m o ++ [u]) := by
  unfold gc
  have hc : ¬ (D.ref k).cl h.length = true := by
    rw [D.cl]
    simp only [decide_eq_true_eq]
    omega
  rw [if_pos (gcOk_set c), if_neg hc]
  dsimp only
  rw [e]
  dsimp only
  rw [if_pos ⟨hk, cu⟩, List.take_left' (by rw [List.length_set])]
theorem set_app {h l : HP} {m : Nat} {o : O} (hm : m < h.length) : (h ++ l).set m o = h.set m o ++ l := List.set_append_left _ _ hm
theorem app_at {h l : HP} : (h ++ l)[h.length]? = l[0]? := by rw [List.getElem?_append_right (Nat.le_refl _), Nat.sub_self]
theorem sapp_at {h l : HP} {m : Nat} {o : O} : (h.set m o ++ l)[h.length]? = l[0]? := by
  rw [List.getElem?_append_right (by rw [List.length_set]; exact Nat.le_refl _), List.length_set, Nat.sub_self]
theorem sapp_at1 {h l : HP} {m : Nat} {o : O} : (h.set m o ++ l)[h.length + 1]? = l[1]? := by
  rw [List.getElem?_append_right (by rw [List.length_set]; omega), List.length_set, Nat.add_sub_cancel_left]
theorem set_set {h : HP} {m : Nat} {o u : O} : (h.set m o).set m u = h.set m u := List.set_set _
theorem len_set {h : HP} {m : Nat} {o : O} : List.length (h.set m o) = List.length h := List.length_set
/-- a call that asks one object, changes it, makes none -/
theorem call_set {P : Pg} (hn : P.nr = true) {wf k f : Nat} {ds : List D} {o u : O} {d : D} {h : HP} {p : Nat} (hp : h[p]? = some o) (ho : ∀ r, rO r o = o) (hu : ∀ r, rO r u = u) (hd : d.nr = true) (e : run P wf k f (.ref 0 :: ds) [o] = .ok d [u]) (hds : D.nrL ds = true) : run P wf k f (.ref p :: ds) h = .ok d (h.set p u) := by
  have hlt := (List.getElem?_eq_some_iff.mp hp).1
  have r0 : rAt [p] h.length 0 = p := rfl
  obtain ⟨h', e1, e2, _, e3, e4⟩ := call_at (h := h) hn [p] rfl (fun k hk => by rw [List.mem_singleton] at hk; omega) (by simp) (fun i o' e => by
    cases i with
    | zero =>
      simp at e
      subst e
      rw [r0, ho]
      exact hp
    | succ i => simp at e) e
  rw [List.map_cons, rD_ref, r0, nrL_id hds, nr_id hd] at e1
  have e5 := e3 0 _ rfl
  rw [r0, hu] at e5
  have : h' = h.set p u := by
    refine List.ext_getElem? fun m => ?_
    simp only [List.length_singleton, Nat.sub_self, Nat.add_zero] at e2
    by_cases hm : m = p
    · subst hm
      rw [e5, List.getElem?_set_self hlt]
    · rw [List.getElem?_set_ne (Ne.symm hm)]
      by_cases hml : m < h.length
      · exact e4 m hml (by simpa using hm)
      · rw [List.getElem?_eq_none (by omega), List.getElem?_eq_none (by omega)]
  rw [e1, this]
/-! lists of texts -/
theorem pyL_strs {f : Nat → Option PyData} : ∀ {ws : List (List Nat)}, pyL f (ws.map .str) = some (ws.map fun s => .str (strOf s))
  | [] => rfl
  | s :: ws => by
    rw [List.map_cons, pyL, pyL_strs]
    rfl
theorem depth_strs : ∀ {ws : List (List Nat)}, PyData.depthAll (ws.map fun s => PyData.str (strOf s)) = 0
  | [] => rfl
  | s :: ws => by
    rw [List.map_cons, PyData.depthAll, depth_strs]
    rfl
theorem eqv_strs : ∀ {ws : List (List Nat)}, PyData.eqvAll (ws.map fun s => PyData.str (strOf s)) (ws.map fun s => PyData.str (strOf s)) = true
  | [] => rfl
  | s :: ws => by
    rw [List.map_cons, PyData.eqvAll, eqv_strs]
    simp [PyData.eqv]
theorem py_ref {h : HP} {m : Nat} {xs : List D} (e : rdL h m = some xs) : py h (.ref m) = (pyL (pyN h 5) xs).map .list := by
  show pyN h 6 m = _
  unfold rdL at e
  rw [pyN]
  split at e <;> cases e <;> rfl
theorem eqD_lists {h : HP} {m n : Nat} {ws : List (List Nat)} (e1 : rdL h m = some (ws.map .str)) (e2 : rdL h n = some (ws.map .str)) : eqD h (.ref m) (.ref n) = some true := by
  unfold eqD
  rw [py_ref e1, py_ref e2, pyL_strs]
  simp only [Option.map_some]
  rw [if_pos (by simp [PyData.depth, depth_strs])]
  simp [PyData.eqv, eqv_strs]
theorem memD_strs {h : HP} {s : List Nat} : ∀ {ws : List (List Nat)}, memD h (.str s) (ws.map .str) = some (ws.contains s)
  | [] => rfl
  | w :: ws => by
    rw [List.map_cons, memD, eqD_str, memD_strs]
    simp only [List.contains_cons]
    congr 2
    rw [Bool.eq_iff_iff, decide_eq_true_eq, beq_iff_eq]
    exact eq_comm
theorem rdL_app {h l : HP} {m : Nat} (hm : m < h.length) : rdL (h ++ l) m = rdL h m := by
  unfold rdL
  rw [List.getElem?_append_left hm]
theorem rdL_at {h l : HP} : rdL (h ++ l) h.length = rdL l 0 := by
  unfold rdL
  rw [app_at]
theorem rdL_at1 {h l : HP} {n : Nat} : rdL (h ++ l) (h.length + n) = rdL l n := by
  unfold rdL
  rw [List.getElem?_append_right (by omega), Nat.add_sub_cancel_left]
end MP

end
section
set_option Elab.async false
set_option linter.all false
set_option maxRecDepth 100000
/-! MP: how values, heaps and slots of the evaluator stand in the layer's abstract heap. -/
namespace MP
open PySem L2

/-- what is fixed through a law: the written part, the module's dicts, the exception classes and their fields -/
structure Zx where
  P : Program
  w : World
  K : PySem.W.Frag
  kd : Nat → Addr
  xc : Nat → Addr
  xf : Nat → Option Str
  sub : Nat → Nat → Bool
  nc : Nat

def okS (s : List Nat) : Prop := s.length ≤ LIM ∧ ∀ c ∈ s, c < 1114112
section
variable (Z : Zx) (H : Hp) (ρ : Nat → Addr) (n : Nat)
mutual
def Den : D → V → Prop
  | .non, v => v = .non
  | .bl b, v => v = .bl b
  | .int i, v => v = .int i
  | .str s, v => v = .str (strOf s) ∧ okS s
  | .tup ds, v => ∃ a vs, v = .ref a ∧ SqT Z.K H a vs ∧ DenL ds vs
  | .ref m, v => m < n ∧ v = .ref (ρ m)
  | .kd m, v => v = .ref (Z.kd m)
def DenL : List D → List V → Prop
  | [], vs => vs = []
  | d :: ds, vs => ∃ x xs, vs = x :: xs ∧ Den d x ∧ DenL ds xs
end
def ODen : O → Addr → Prop
  | .lst ds, a => ∃ vs, H a = some (.lst vs) ∧ DenL Z H ρ n ds vs
  | .frz ds, a => ∃ o vs, H a = some (.frz o (.lst vs)) ∧ DenL Z H ρ n ds vs
  | .dct kvs, a => kvs = [] ∧ H a = some (.dK [])
  | .set _, _ => False
end
structure RH (Z : Zx) (H : Hp) (ρ : Nat → Addr) (hp : HP) : Prop where
  inj : ∀ i j, i < hp.length → j < hp.length → ρ i = ρ j → i = j
  obj : ∀ (i : Nat) o, hp[i]? = some o → ODen Z H ρ hp.length o (ρ i)
structure RL (Z : Zx) (H : Hp) (ρ : Nat → Addr) (n : Nat) (ls : List (Option D)) (σ : St) : Prop where
  len : ls.length = σ.length
  val : ∀ (i : Nat) d, ls[i]? = some (some d) → ∃ v, σ[i]? = some (some v) ∧ Den Z H ρ n d v

/-- what never changes -/
def Stb : HO → Prop
  | .tup _ => True
  | .frz _ _ => True
  | .xd _ => True
  | _ => False
def Ext (H H' : Hp) : Prop := ∀ a u, Stb u → H a = some u → H' a = some u
theorem Ext.refl (H : Hp) : Ext H H := fun _ _ _ h => h
theorem Ext.trans {H H1 H2 : Hp} (a : Ext H H1) (b : Ext H1 H2) : Ext H H2 := fun c u s h => b c u s (a c u s h)
theorem Ext.new {H : Hp} {p : Addr} {o : HO} (h : H p = none) : Ext H (upd H p o) := fun a u _ e => by
  rw [upd_ne (ne_of_none e h)]
  exact e
theorem Ext.set {H : Hp} {p : Addr} {o o' : HO} (h : H p = some o') (ns : ¬ Stb o') : Ext H (upd H p o) := fun a u su e => by
  have : a ≠ p := fun q => by
    subst q
    rw [h] at e
    cases e
    exact ns su
  rw [upd_ne this]
  exact e
theorem Ext.sqT {K : PySem.W.Frag} {H H' : Hp} {a : Addr} {xs : List V} (e : Ext H H') (h : SqT K H a xs) : SqT K H' a xs := by
  rcases h with (h | ⟨o, h⟩) | h
  · exact .inl (.inl (e _ _ trivial h))
  · exact .inl (.inr ⟨o, e _ _ trivial h⟩)
  · exact .inr h
def Agr (n : Nat) (ρ ρ' : Nat → Addr) : Prop := ∀ i, i < n → ρ' i = ρ i
theorem Agr.refl (n : Nat) (ρ : Nat → Addr) : Agr n ρ ρ := fun _ _ => rfl
theorem Agr.trans {n n' : Nat} {ρ ρ1 ρ2 : Nat → Addr} (a : Agr n ρ ρ1) (b : Agr n' ρ1 ρ2) (h : n ≤ n') : Agr n ρ ρ2 := fun i hi => (b i (Nat.lt_of_lt_of_le hi h)).trans (a i hi)

section
variable {Z : Zx} {H H' : Hp} {ρ ρ' : Nat → Addr} {n n' : Nat}
mutual
theorem Den.mono (e : Ext H H') (a : Agr n ρ ρ') (l : n ≤ n') : ∀ {d : D} {v : V}, Den Z H ρ n d v → Den Z H' ρ' n' d v
  | .non, _, h => h
  | .bl _, _, h => h
  | .int _, _, h => h
  | .str _, _, h => h
  | .tup ds, v, h => by
    rw [Den] at h ⊢
    obtain ⟨b, vs, e1, e2, e3⟩ := h
    exact ⟨b, vs, e1, e.sqT e2, DenL.mono e a l e3⟩
  | .ref m, v, h => by
    rw [Den] at h ⊢
    exact ⟨Nat.lt_of_lt_of_le h.1 l, by rw [a m h.1]; exact h.2⟩
  | .kd _, _, h => h
theorem DenL.mono (e : Ext H H') (a : Agr n ρ ρ') (l : n ≤ n') : ∀ {ds : List D} {vs : List V}, DenL Z H ρ n ds vs → DenL Z H' ρ' n' ds vs
  | [], _, h => h
  | d :: ds, vs, h => by
    rw [DenL] at h ⊢
    obtain ⟨x, xs, e1, e2, e3⟩ := h
    exact ⟨x, xs, e1, Den.mono e a l e2, DenL.mono e a l e3⟩
end
mutual
theorem Den.cl : ∀ {d : D} {v : V}, Den Z H ρ n d v → d.cl n = true
  | .non, _, _ => rfl
  | .bl _, _, _ => rfl
  | .int _, _, _ => rfl
  | .str _, _, _ => rfl
  | .tup ds, v, h => by
    rw [Den] at h
    obtain ⟨b, vs, e1, e2, e3⟩ := h
    rw [D.cl]
    exact DenL.cl e3
  | .ref m, v, h => by
    rw [Den] at h
    rw [D.cl]
    exact decide_eq_true h.1
  | .kd _, _, _ => rfl
theorem DenL.cl : ∀ {ds : List D} {vs : List V}, DenL Z H ρ n ds vs → D.clL n ds = true
  | [], _, _ => rfl
  | d :: ds, vs, h => by
    rw [DenL] at h
    obtain ⟨x, xs, e1, e2, e3⟩ := h
    rw [D.clL, Den.cl e2, DenL.cl e3]
    rfl
end
/- fewer objects, if these are enough; the numbers below m alike -/
mutual
theorem Den.cut {m : Nat} (a : Agr m ρ ρ') : ∀ {d : D} {v : V}, Den Z H ρ n d v → d.cl m = true → Den Z H ρ' m d v
  | .non, _, h, _ => h
  | .bl _, _, h, _ => h
  | .int _, _, h, _ => h
  | .str _, _, h, _ => h
  | .tup ds, v, h, c => by
    rw [Den] at h ⊢
    obtain ⟨b, vs, e1, e2, e3⟩ := h
    rw [D.cl] at c
    exact ⟨b, vs, e1, e2, DenL.cut a e3 c⟩
  | .ref k, v, h, c => by
    rw [Den] at h ⊢
    rw [D.cl] at c
    have hk := of_decide_eq_true c
    exact ⟨hk, by rw [a k hk]; exact h.2⟩
  | .kd _, _, h, _ => h
theorem DenL.cut {m : Nat} (a : Agr m ρ ρ') : ∀ {ds : List D} {vs : List V}, DenL Z H ρ n ds vs → D.clL m ds = true → DenL Z H ρ' m ds vs
  | [], _, h, _ => h
  | d :: ds, vs, h, c => by
    rw [DenL] at h ⊢
    obtain ⟨x, xs, e1, e2, e3⟩ := h
    rw [D.clL, Bool.and_eq_true] at c
    exact ⟨x, xs, e1, Den.cut a e2 c.1, DenL.cut a e3 c.2⟩
end
theorem DenL.length : ∀ {ds : List D} {vs : List V}, DenL Z H ρ n ds vs → ds.length = vs.length
  | [], _, h => by rw [DenL] at h; subst h; rfl
  | d :: ds, vs, h => by
    rw [DenL] at h
    obtain ⟨x, xs, e1, e2, e3⟩ := h
    rw [e1, List.length_cons, List.length_cons, DenL.length e3]
theorem DenL.nil : DenL Z H ρ n [] [] := by rw [DenL]
theorem DenL.cons {d : D} {ds : List D} {v : V} {vs : List V} (h : Den Z H ρ n d v) (t : DenL Z H ρ n ds vs) : DenL Z H ρ n (d :: ds) (v :: vs) := by
  rw [DenL]
  exact ⟨v, vs, rfl, h, t⟩
theorem DenL.append : ∀ {ds es : List D} {vs us : List V}, DenL Z H ρ n ds vs → DenL Z H ρ n es us → DenL Z H ρ n (ds ++ es) (vs ++ us)
  | [], es, vs, us, h, t => by rw [DenL] at h; rw [h]; exact t
  | d :: ds, es, vs, us, h, t => by
    rw [DenL] at h
    obtain ⟨x, xs, e1, e2, e3⟩ := h
    rw [e1]
    exact DenL.cons e2 (DenL.append e3 t)
theorem DenL.get : ∀ {ds : List D} {vs : List V} {i : Nat} {d : D}, DenL Z H ρ n ds vs → ds[i]? = some d → ∃ v, vs[i]? = some v ∧ Den Z H ρ n d v
  | [], _, _, _, _, e => by simp at e
  | d :: ds, vs, 0, d', h, e => by
    rw [DenL] at h
    obtain ⟨x, xs, e1, e2, e3⟩ := h
    simp at e
    subst e e1
    exact ⟨x, rfl, e2⟩
  | d :: ds, vs, i + 1, d', h, e => by
    rw [DenL] at h
    obtain ⟨x, xs, e1, e2, e3⟩ := h
    subst e1
    exact DenL.get (i := i) e3 (by simpa using e)
theorem DenL.get' : ∀ {ds : List D} {vs : List V} {i : Nat} {v : V}, DenL Z H ρ n ds vs → vs[i]? = some v → ∃ d, ds[i]? = some d ∧ Den Z H ρ n d v := fun {ds vs i v} h e => by
  have hl := h.length
  have hi : i < vs.length := (List.getElem?_eq_some_iff.mp e).1
  have hd : ds[i]? = some (ds[i]'(by omega)) := List.getElem?_eq_getElem (by omega)
  obtain ⟨v', e1, e2⟩ := h.get hd
  rw [e] at e1
  cases e1
  exact ⟨_, hd, e2⟩
theorem DenL.take : ∀ {ds : List D} {vs : List V} (k : Nat), DenL Z H ρ n ds vs → DenL Z H ρ n (ds.take k) (vs.take k)
  | _, _, 0, _ => by simp; exact .nil
  | [], vs, k + 1, h => by rw [DenL] at h; rw [h]; simp; exact .nil
  | d :: ds, vs, k + 1, h => by
    rw [DenL] at h
    obtain ⟨x, xs, e1, e2, e3⟩ := h
    subst e1
    exact .cons e2 (DenL.take k e3)
theorem DenL.drop : ∀ {ds : List D} {vs : List V} (k : Nat), DenL Z H ρ n ds vs → DenL Z H ρ n (ds.drop k) (vs.drop k)
  | _, _, 0, h => by simpa using h
  | [], vs, k + 1, h => by rw [DenL] at h; rw [h]; simp; exact .nil
  | d :: ds, vs, k + 1, h => by
    rw [DenL] at h
    obtain ⟨x, xs, e1, e2, e3⟩ := h
    subst e1
    exact DenL.drop k e3
theorem DenL.set : ∀ {ds : List D} {vs : List V} {d : D} {v : V} (k : Nat), DenL Z H ρ n ds vs → Den Z H ρ n d v → DenL Z H ρ n (ds.set k d) (vs.set k v)
  | [], vs, _, _, k, h, _ => by rw [DenL] at h; rw [h]; simp; exact .nil
  | d :: ds, vs, d', v', 0, h, q => by
    rw [DenL] at h
    obtain ⟨x, xs, e1, e2, e3⟩ := h
    subst e1
    exact .cons q e3
  | d :: ds, vs, d', v', k + 1, h, q => by
    rw [DenL] at h
    obtain ⟨x, xs, e1, e2, e3⟩ := h
    subst e1
    exact .cons e2 (DenL.set k e3 q)
theorem ODen.mono (e : Ext H H') (a : Agr n ρ ρ') (l : n ≤ n') {o : O} {x : Addr} (hx : H' x = H x) (h : ODen Z H ρ n o x) : ODen Z H' ρ' n' o x := by
  cases o with
  | lst ds =>
    obtain ⟨vs, h1, h2⟩ := h
    exact ⟨vs, hx.trans h1, h2.mono e a l⟩
  | frz ds =>
    obtain ⟨o, vs, h1, h2⟩ := h
    exact ⟨o, vs, hx.trans h1, h2.mono e a l⟩
  | dct kvs =>
    obtain ⟨h1, h2⟩ := h
    exact ⟨h1, hx.trans h2⟩
  | set _ => exact h
theorem ODen.cl {o : O} {x : Addr} (h : ODen Z H ρ n o x) : o.cl n = true := by
  cases o with
  | lst ds =>
    obtain ⟨vs, h1, h2⟩ := h
    exact h2.cl
  | frz ds =>
    obtain ⟨o, vs, h1, h2⟩ := h
    exact h2.cl
  | dct kvs =>
    obtain ⟨h1, h2⟩ := h
    subst h1
    rfl
  | set _ => exact h.elim
theorem ODen.cut {m : Nat} (a : Agr m ρ ρ') {o : O} {x : Addr} (h : ODen Z H ρ n o x) (c : o.cl m = true) : ODen Z H ρ' m o x := by
  cases o with
  | lst ds =>
    obtain ⟨vs, h1, h2⟩ := h
    exact ⟨vs, h1, h2.cut a c⟩
  | frz ds =>
    obtain ⟨o, vs, h1, h2⟩ := h
    exact ⟨o, vs, h1, h2.cut a c⟩
  | dct kvs => exact h
  | set _ => exact h
theorem ODen.some {o : O} {x : Addr} (h : ODen Z H ρ n o x) : ∃ u, H x = Option.some u := by
  cases o with
  | lst ds =>
    obtain ⟨vs, h1, h2⟩ := h
    exact ⟨_, h1⟩
  | frz ds =>
    obtain ⟨o, vs, h1, h2⟩ := h
    exact ⟨_, h1⟩
  | dct kvs =>
    obtain ⟨h1, h2⟩ := h
    exact ⟨_, h2⟩
  | set _ => exact h.elim
end

section
variable {Z : Zx} {H H' : Hp} {ρ ρ' : Nat → Addr} {hp hp' : HP}
/-- an untracked address is no object's -/
theorem RH.fresh (r : RH Z H ρ hp) {p : Addr} (h : H p = none) {i : Nat} (hi : i < hp.length) : ρ i ≠ p := fun e => by
  obtain ⟨u, hu⟩ := (r.obj i _ (List.getElem?_eq_getElem hi)).some
  rw [e, h] at hu
  cases hu
/-- something laid beside -/
theorem RH.beside (r : RH Z H ρ hp) {p : Addr} {o : HO} (h : H p = none) : RH Z (upd H p o) ρ hp :=
  ⟨r.inj, fun i o' e => (r.obj i o' e).mono (Ext.new h) (Agr.refl _ _) (Nat.le_refl _) (upd_ne (r.fresh h (List.getElem?_eq_some_iff.mp e).1))⟩
/-- the number of a new object -/
def put (ρ : Nat → Addr) (n : Nat) (p : Addr) : Nat → Addr := fun i => if i = n then p else ρ i
theorem put_agr {n : Nat} {p : Addr} : Agr n ρ (put ρ n p) := fun i hi => by unfold put; rw [if_neg (Nat.ne_of_lt hi)]
theorem put_at {n : Nat} {p : Addr} : put ρ n p n = p := by unfold put; rw [if_pos rfl]
/-- a new object -/
theorem RH.new (r : RH Z H ρ hp) {p : Addr} {u : HO} (h : H p = none) {o : O} (ho : ODen Z (upd H p u) (put ρ hp.length p) (hp.length + 1) o p) : RH Z (upd H p u) (put ρ hp.length p) (hp ++ [o]) where
  inj := fun i j hi hj e => by
    rw [List.length_append, List.length_singleton] at hi hj
    unfold put at e
    by_cases h1 : i = hp.length
    · by_cases h2 : j = hp.length
      · exact h1.trans h2.symm
      · rw [if_pos h1, if_neg h2] at e
        exact absurd e.symm (r.fresh h (by omega))
    · by_cases h2 : j = hp.length
      · rw [if_neg h1, if_pos h2] at e
        exact absurd e (r.fresh h (by omega))
      · rw [if_neg h1, if_neg h2] at e
        exact r.inj i j (by omega) (by omega) e
  obj := fun i o' e => by
    rw [List.length_append, List.length_singleton]
    by_cases h1 : i < hp.length
    · rw [List.getElem?_append_left h1] at e
      rw [put_agr i h1]
      exact (r.obj i o' e).mono (Ext.new h) put_agr (Nat.le_succ _) (upd_ne (r.fresh h h1))
    · have h2 : i = hp.length := by
        have := (List.getElem?_eq_some_iff.mp e).1
        rw [List.length_append, List.length_singleton] at this
        omega
      subst h2
      rw [List.getElem?_append_right (Nat.le_refl _), Nat.sub_self] at e
      simp at e
      subst e
      rw [put_at]
      exact ho
/-- an object changed -/
theorem RH.set (r : RH Z H ρ hp) {m : Nat} {o' : O} {u u' : HO} (hu : H (ρ m) = some u') (ns : ¬ Stb u') (hm : m < hp.length) (ho : ODen Z (upd H (ρ m) u) ρ hp.length o' (ρ m)) : RH Z (upd H (ρ m) u) ρ (hp.set m o') where
  inj := fun i j hi hj e => r.inj i j (by simpa using hi) (by simpa using hj) e
  obj := fun i o e => by
    rw [List.length_set]
    by_cases h : i = m
    · subst h
      rw [List.getElem?_set_self hm] at e
      cases e
      exact ho
    · rw [List.getElem?_set_ne (Ne.symm h)] at e
      have hi := (List.getElem?_eq_some_iff.mp e).1
      exact (r.obj i o e).mono (Ext.set hu ns) (Agr.refl _ _) (Nat.le_refl _) (upd_ne fun q => h (r.inj i m hi hm q))
end

/-- an exception: its class, its own dict -/
def XDen (Z : Zx) (H : Hp) (ρ : Nat → Addr) (n : Nat) (x : Xn) (cls : Value) (dd : Option Addr) : Prop :=
  (cls = .ref (Z.xc x.c) ∧ x.c < Z.nc) ∧ match Z.xf x.c with
    | none => x.fs = [] ∧ dd = none
    | some f => ∃ d da v, x.fs = [d] ∧ dd = some da ∧ H da = some (.xd [(f, v)]) ∧ Den Z H ρ n d v
theorem XDen.mono {Z : Zx} {H H' : Hp} {ρ ρ' : Nat → Addr} {n n' : Nat} (e : Ext H H') (a : Agr n ρ ρ') (l : n ≤ n') {x : Xn} {cls : Value} {dd : Option Addr} (h : XDen Z H ρ n x cls dd) : XDen Z H' ρ' n' x cls dd := by
  refine ⟨h.1, ?_⟩
  have h2 := h.2
  cases q : Z.xf x.c with
  | none =>
    rw [q] at h2
    exact h2
  | some f =>
    rw [q] at h2
    obtain ⟨d, da, v, h3, h4, h5, h6⟩ := h2
    exact ⟨d, da, v, h3, h4, e _ _ trivial h5, h6.mono e a l⟩

/-- a step of the heaps -/
structure Step (Z : Zx) (n : Nat) (ρ : Nat → Addr) (H : Hp) (ρ' : Nat → Addr) (hp' : HP) (H' : Hp) : Prop where
  agr : Agr n ρ ρ'
  ext : Ext H H'
  le : n ≤ hp'.length
  rh : RH Z H' ρ' hp'
theorem Step.refl {Z : Zx} {ρ : Nat → Addr} {H : Hp} {hp : HP} (r : RH Z H ρ hp) : Step Z hp.length ρ H ρ hp H := ⟨Agr.refl _ _, Ext.refl _, Nat.le_refl _, r⟩
theorem Step.trans {Z : Zx} {n : Nat} {ρ ρ1 ρ2 : Nat → Addr} {H H1 H2 : Hp} {hp1 hp2 : HP} (a : Step Z n ρ H ρ1 hp1 H1) (b : Step Z hp1.length ρ1 H1 ρ2 hp2 H2) : Step Z n ρ H ρ2 hp2 H2 :=
  ⟨a.agr.trans b.agr a.le, a.ext.trans b.ext, Nat.le_trans a.le b.le, b.rh⟩
theorem Step.den {Z : Zx} {n : Nat} {ρ ρ' : Nat → Addr} {H H' : Hp} {hp' : HP} (s : Step Z n ρ H ρ' hp' H') {d : D} {v : V} (h : Den Z H ρ n d v) : Den Z H' ρ' hp'.length d v := h.mono s.ext s.agr s.le
theorem Step.denL {Z : Zx} {n : Nat} {ρ ρ' : Nat → Addr} {H H' : Hp} {hp' : HP} (s : Step Z n ρ H ρ' hp' H') {d : List D} {v : List V} (h : DenL Z H ρ n d v) : DenL Z H' ρ' hp'.length d v := h.mono s.ext s.agr s.le
theorem Step.rl {Z : Zx} {n : Nat} {ρ ρ' : Nat → Addr} {H H' : Hp} {hp' : HP} (s : Step Z n ρ H ρ' hp' H') {ls : List (Option D)} {σ : St} (h : RL Z H ρ n ls σ) : RL Z H' ρ' hp'.length ls σ :=
  ⟨h.len, fun i d e => let ⟨v, e1, e2⟩ := h.val i d e; ⟨v, e1, s.den e2⟩⟩

/-- behind a computation: the value's wish, or the exception's -/
def Post {α : Type} (Z : Zx) (W : WX) (σ : St) (n : Nat) (ρ : Nat → Addr) (H : Hp) (r : Res α) (Q : α → (Nat → Addr) → HP → Hp → Prop) : Prop :=
  match r with
  | .ok d hp' => ∀ ρ' H', Step Z n ρ H ρ' hp' H' → Q d ρ' hp' H'
  | .ex x hp' => ∀ ρ' H' cls dd, Step Z n ρ H ρ' hp' H' → XDen Z H' ρ' hp'.length x cls dd → W cls dd σ H'
  | .bad => False
section
variable {Z : Zx} {W : WX} {σ : St} {n : Nat} {ρ : Nat → Addr} {H : Hp} {α β : Type}
theorem Post.bind {r : Res α} {f : α → HP → Res β} {Q : β → (Nat → Addr) → HP → Hp → Prop} (h : Post Z W σ n ρ H (r.bind f) Q) :
    Post Z W σ n ρ H r fun d ρ1 hp1 H1 => Post Z W σ hp1.length ρ1 H1 (f d hp1) Q := by
  cases r with
  | bad => exact h
  | ex x hp' => exact h
  | ok d hp1 =>
    intro ρ1 H1 s1
    have h' : Post Z W σ n ρ H (f d hp1) Q := h
    cases e : f d hp1 with
    | bad =>
      rw [e] at h'
      exact h'
    | ex x hp2 =>
      rw [e] at h'
      exact fun ρ2 H2 cls dd s2 xd => h' ρ2 H2 cls dd (s1.trans s2) xd
    | ok d2 hp2 =>
      rw [e] at h'
      exact fun ρ2 H2 s2 => h' ρ2 H2 (s1.trans s2)
theorem Post.imp {r : Res α} {Q Q' : α → (Nat → Addr) → HP → Hp → Prop} (h : Post Z W σ n ρ H r Q) (i : ∀ d ρ' hp' H', Step Z n ρ H ρ' hp' H' → Q d ρ' hp' H' → Q' d ρ' hp' H') : Post Z W σ n ρ H r Q' := by
  cases r with
  | bad => exact h
  | ex x hp' => exact h
  | ok d hp' => exact fun ρ' H' s => i _ _ _ _ s (h ρ' H' s)
theorem Post.at {d : α} {hp : HP} {Q : α → (Nat → Addr) → HP → Hp → Prop} (h : Post Z W σ hp.length ρ H (.ok d hp) Q) (r : RH Z H ρ hp) : Q d ρ hp H := h ρ H (Step.refl r)
theorem Post.lift_inv {o : Option α} {hp : HP} {f : α → HP → Res β} {Q : β → (Nat → Addr) → HP → Hp → Prop} (h : Post Z W σ n ρ H ((lift o hp).bind f) Q) : ∃ a, o = some a ∧ Post Z W σ n ρ H (f a hp) Q := by
  cases o with
  | none => exact h.elim
  | some a => exact ⟨a, rfl, h⟩
end
end MP

end
section
set_option Elab.async false
set_option linter.all false
set_option maxRecDepth 100000
set_option maxHeartbeats 1000000
/-! MP: the operations of the evaluator keep to the model. -/
namespace MP
open PySem L2
theorem LIM_eq : sizeLine = LIM := sizeLine_eq
theorem PE.weak {X : Cx} {e : Expr} {t t' : TE} (h : PE X e t) (i : ∀ σ H Q, t' σ H Q → t σ H Q) : PE X e t' := ⟨fun pins s σ H Q I q => h.run pins s σ H Q I (i _ _ _ q)⟩
theorem PT.weak {X : Cx} {e : Expr} {t t' : TT} (h : PT X e t) (i : ∀ σ H Q, t' σ H Q → t σ H Q) : PT X e t' := ⟨fun pins s σ H Q I q => h.run pins s σ H Q I (i _ _ _ q)⟩
theorem PW.weak {X : Cx} {e : Expr} {t t' : TT} (h : PW X e t) (i : ∀ σ H Q, t' σ H Q → t σ H Q) : PW X e t' := ⟨fun w pins s σ H Q I q => h.run w pins s σ H Q I (i _ _ _ q)⟩
theorem PA.weak {X : Cx} {e : List Expr} {t t' : TA} (h : PA X e t) (i : ∀ σ H Q, t' σ H Q → t σ H Q) : PA X e t' := ⟨fun p pins s σ H Q I q => h.run p pins s σ H Q I (i _ _ _ q)⟩
theorem PS.weak {X : Cx} {e : Stmt} {t t' : TS} (h : PS X e t) (i : ∀ D σ H, t' D σ H → t D σ H) : PS X e t' := ⟨fun pins s σ H D I q => h.run pins s σ H D I (i _ _ _ q)⟩
theorem PSs.weak {X : Cx} {e : List Stmt} {t t' : TS} (h : PSs X e t) (i : ∀ D σ H, t' D σ H → t D σ H) : PSs X e t' := ⟨fun pins s σ H D I q => h.run pins s σ H D I (i _ _ _ q)⟩
theorem PE.or {X : Cx} {e : Expr} {t t' : TE} (h : PE X e t) (h' : PE X e t') : PE X e (fun σ H Q => t σ H Q ∨ t' σ H Q) := ⟨fun pins s σ H Q I q => q.elim (h.run pins s σ H Q I) (h'.run pins s σ H Q I)⟩
theorem OpR.weak {X : Cx} {f : Value → Value → Sem Value} {r r' : R2} (h : OpR X f r) (i : ∀ x y H Q, r' x y H Q → r x y H Q) : OpR X f r' := fun pins s σ H x y v u Q I rx ry q => h pins s σ H x y v u Q I rx ry (i _ _ _ _ q)

/-- an operation of two values -/
def r2 (Z : Zx) (f : D → D → HP → Res D) : R2 := fun x y H Q => ∃ W σ ρ hp dx dy, RH Z H ρ hp ∧ Den Z H ρ hp.length dx x ∧ Den Z H ρ hp.length dy y ∧
  Post Z W σ hp.length ρ H (f dx dy hp) fun d ρ' hp' H' => ∀ v, Den Z H' ρ' hp'.length d v → Q v H'
def rN (Z : Zx) (f : List D → HP → Res D) : List V → Hp → VK → Prop := fun vs H Q => ∃ W σ ρ hp ds, RH Z H ρ hp ∧ DenL Z H ρ hp.length ds vs ∧
  Post Z W σ hp.length ρ H (f ds hp) fun d ρ' hp' H' => ∀ v, Den Z H' ρ' hp'.length d v → Q v H'
def rM (Z : Zx) (f : D → List D → HP → Res D) : V → List V → Hp → VK → Prop := fun x vs H Q => ∃ W σ ρ hp o ds, RH Z H ρ hp ∧ Den Z H ρ hp.length o x ∧ DenL Z H ρ hp.length ds vs ∧
  Post Z W σ hp.length ρ H (f o ds hp) fun d ρ' hp' H' => ∀ v, Den Z H' ρ' hp'.length d v → Q v H'
def rTru (Z : Zx) : V → Hp → (Bool → Hp → Prop) → Prop := fun x H Q => ∃ ρ hp d b, RH Z H ρ hp ∧ Den Z H ρ hp.length d x ∧ truthy hp d = some b ∧ Q b H

section
variable {Z : Zx} {H : Hp} {ρ : Nat → Addr} {n : Nat} {hp : HP}
theorem den_non {v : V} : Den Z H ρ n .non v ↔ v = .non := by rw [Den]
theorem den_bl {b : Bool} {v : V} : Den Z H ρ n (.bl b) v ↔ v = .bl b := by rw [Den]
theorem den_int {i : Int} {v : V} : Den Z H ρ n (.int i) v ↔ v = .int i := by rw [Den]
theorem den_str {s : List Nat} {v : V} : Den Z H ρ n (.str s) v ↔ v = .str (strOf s) ∧ okS s := by rw [Den]
theorem den_tup {ds : List D} {v : V} : Den Z H ρ n (.tup ds) v ↔ ∃ a vs, v = .ref a ∧ SqT Z.K H a vs ∧ DenL Z H ρ n ds vs := by rw [Den]
theorem den_ref {m : Nat} {v : V} : Den Z H ρ n (.ref m) v ↔ m < n ∧ v = .ref (ρ m) := by rw [Den]
theorem den_kd {m : Nat} {v : V} : Den Z H ρ n (.kd m) v ↔ v = .ref (Z.kd m) := by rw [Den]
theorem den_l0 {vs : List V} : DenL Z H ρ n [] vs ↔ vs = [] := by rw [DenL]
theorem den_l1 {d : D} {ds : List D} {vs : List V} : DenL Z H ρ n (d :: ds) vs ↔ ∃ x xs, vs = x :: xs ∧ Den Z H ρ n d x ∧ DenL Z H ρ n ds xs := by rw [DenL]
theorem LIM.pos : (0 : Nat) < LIM := by decide
theorem okS_app {a b : List Nat} (h1 : okS a) (h2 : okS b) (hl : a.length + b.length ≤ LIM) : okS (a ++ b) := ⟨by rw [List.length_append]; exact hl, fun c hc => (List.mem_append.mp hc).elim (h1.2 c) (h2.2 c)⟩
theorem okS_sub {a b : List Nat} (h1 : okS a) (hl : b.length ≤ a.length) (hm : ∀ c ∈ b, c ∈ a) : okS b := ⟨Nat.le_trans hl h1.1, fun c hc => h1.2 c (hm c hc)⟩
theorem strOf_app (a b : List Nat) : strOf a ++ strOf b = strOf (a ++ b) := by
  show Str.append (strOf a) (strOf b) = _
  unfold Str.append strOf
  simp
theorem strOf_length (a : List Nat) : (strOf a).length = a.length := by
  show (strOf a).cps.size = _
  unfold strOf
  simp
theorem strOf_inj {a b : List Nat} : strOf a = strOf b ↔ a = b := by
  unfold strOf
  simp
/-- a list at a number -/
theorem rdL_inv {m : Nat} {xs : List D} (h : rdL hp m = some xs) : hp[m]? = some (.lst xs) ∨ hp[m]? = some (.frz xs) := by
  unfold rdL at h
  split at h
  · cases h
    exact .inl ‹_›
  · cases h
    exact .inr ‹_›
  · cases h
theorem RH.rd (r : RH Z H ρ hp) {m : Nat} {xs : List D} (h : rdL hp m = some xs) : ∃ vs, SqL Z.K H (ρ m) vs ∧ DenL Z H ρ hp.length xs vs := by
  rcases rdL_inv h with h | h
  · obtain ⟨vs, h1, h2⟩ := r.obj m _ h
    exact ⟨vs, SqL.of h1, h2⟩
  · obtain ⟨o, vs, h1, h2⟩ := r.obj m _ h
    exact ⟨vs, .inl (.inr ⟨o, h1⟩), h2⟩
theorem RH.lst (r : RH Z H ρ hp) {m : Nat} {xs : List D} (h : hp[m]? = some (.lst xs)) : ∃ vs, H (ρ m) = some (.lst vs) ∧ DenL Z H ρ hp.length xs vs := r.obj m _ h
theorem nst_lst {vs : List V} : ¬ Stb (.lst vs) := fun h => h
/-- a new tracked object, as a step -/
theorem Step.new (r : RH Z H ρ hp) {p : Addr} {u : HO} (h : H p = none) {o : O} (ho : ODen Z (upd H p u) (put ρ hp.length p) (hp.length + 1) o p) :
    Step Z hp.length ρ H (put ρ hp.length p) (hp ++ [o]) (upd H p u) := ⟨put_agr, Ext.new h, by rw [List.length_append]; exact Nat.le_add_right _ _, r.new h ho⟩
theorem Step.beside (r : RH Z H ρ hp) {p : Addr} {u : HO} (h : H p = none) : Step Z hp.length ρ H ρ hp (upd H p u) := ⟨Agr.refl _ _, Ext.new h, Nat.le_refl _, r.beside h⟩
theorem Step.set (r : RH Z H ρ hp) {m : Nat} {o' : O} {u u' : HO} (hu : H (ρ m) = some u') (ns : ¬ Stb u') (hm : m < hp.length) (ho : ODen Z (upd H (ρ m) u) ρ hp.length o' (ρ m)) : Step Z hp.length ρ H ρ (hp.set m o') (upd H (ρ m) u) :=
  ⟨Agr.refl _ _, Ext.set hu ns, by rw [List.length_set]; exact Nat.le_refl _, r.set hu ns hm ho⟩
/-- a new list -/
theorem Step.lst (r : RH Z H ρ hp) {p : Addr} (h : H p = none) {ds : List D} {vs : List V} (hd : DenL Z H ρ hp.length ds vs) : Step Z hp.length ρ H (put ρ hp.length p) (hp ++ [.lst ds]) (upd H p (.lst vs)) :=
  Step.new r h ⟨vs, upd_same, hd.mono (Ext.new h) put_agr (Nat.le_succ _)⟩
theorem den_new {p : Addr} {o : O} {H' : Hp} : Den Z H' (put ρ hp.length p) (hp ++ [o]).length (.ref hp.length) (.ref p) := by
  rw [den_ref, List.length_append, List.length_singleton, put_at]
  exact ⟨Nat.lt_succ_self _, rfl⟩
/-- a new tuple -/
theorem den_newtup {p : Addr} (h : H p = none) {ds : List D} {vs : List V} (hd : DenL Z H ρ n ds vs) : Den Z (upd H p (.tup vs)) ρ n (.tup ds) (.ref p) := by
  rw [den_tup]
  exact ⟨p, vs, rfl, SqT.of upd_same, hd.mono (Ext.new h) (Agr.refl _ _) (Nat.le_refl _)⟩

/-! ### data -/
theorem strOk_of {s : List Nat} (h : okS s) : PyData.strOk (strOf s) = true := by
  unfold PyData.strOk strOf
  simp only [List.all_toArray]
  exact List.all_eq_true.mpr fun c hc => decide_eq_true (h.2 c hc)
mutual
theorem dp_of {r : Nat → Option PyData} (hr : ∀ m p, r m = some p → ∀ v, Den Z H ρ n (.ref m) v → Dp Z.K H v p ∧ p.canLay0 = true) : ∀ (d : D) (v : V) (p : PyData), Den Z H ρ n d v → pyR r d = some p → Dp Z.K H v p ∧ p.canLay0 = true
  | .non, v, p, h, e => by
    rw [pyR] at e
    cases e
    rw [den_non] at h
    subst h
    exact ⟨.non, by simp [PyData.canLay0]⟩
  | .bl b, v, p, h, e => by
    rw [pyR] at e
    cases e
    rw [den_bl] at h
    subst h
    exact ⟨.bl b, by simp [PyData.canLay0]⟩
  | .int b, v, p, h, e => by
    rw [pyR] at e
    cases e
    rw [den_int] at h
    subst h
    exact ⟨.int b, by simp [PyData.canLay0]⟩
  | .str b, v, p, h, e => by
    rw [pyR] at e
    cases e
    rw [den_str] at h
    obtain ⟨h, hs⟩ := h
    subst h
    exact ⟨.str _, by simp only [PyData.canLay0]; exact strOk_of hs⟩
  | .tup ds, v, p, h, e => by
    rw [pyR] at e
    obtain ⟨ps, e1, e2⟩ := Option.map_eq_some_iff.mp e
    subst e2
    rw [den_tup] at h
    obtain ⟨a, vs, h1, h2, h3⟩ := h
    subst h1
    obtain ⟨q1, q2⟩ := dpl_of hr ds vs ps h3 e1
    exact ⟨.tup h2 q1, by simp only [PyData.canLay0]; exact q2⟩
  | .ref m, v, p, h, e => by
    rw [pyR] at e
    exact hr m p e v h
  | .kd m, v, p, h, e => by
    rw [pyR] at e
    cases e
theorem dpl_of {r : Nat → Option PyData} (hr : ∀ m p, r m = some p → ∀ v, Den Z H ρ n (.ref m) v → Dp Z.K H v p ∧ p.canLay0 = true) : ∀ (ds : List D) (vs : List V) (ps : List PyData), DenL Z H ρ n ds vs → pyL r ds = some ps → DpAll Z.K H vs ps ∧ PyData.canLayAll0 ps = true
  | [], vs, ps, h, e => by
    rw [pyL] at e
    cases e
    rw [den_l0] at h
    subst h
    exact ⟨.nil, by simp [PyData.canLayAll0]⟩
  | d :: ds, vs, ps, h, e => by
    rw [pyL] at e
    rw [den_l1] at h
    obtain ⟨x, xs, h1, h2, h3⟩ := h
    subst h1
    cases e1 : pyR r d with
    | none =>
      rw [e1] at e
      cases e
    | some p =>
      cases e2 : pyL r ds with
      | none =>
        rw [e1, e2] at e
        cases e
      | some ps' =>
        rw [e1, e2] at e
        cases e
        obtain ⟨q1, q2⟩ := dp_of hr d x p h2 e1
        obtain ⟨q3, q4⟩ := dpl_of hr ds xs ps' h3 e2
        exact ⟨.cons q1 q3, by simp only [PyData.canLayAll0, q2, q4]; rfl⟩
end
theorem dpN_of (r : RH Z H ρ hp) : ∀ (k m : Nat) (p : PyData), pyN hp k m = some p → ∀ v, Den Z H ρ hp.length (.ref m) v → Dp Z.K H v p ∧ p.canLay0 = true
  | 0, m, p, e, v, h => by
    rw [pyN] at e
    cases e
  | k + 1, m, p, e, v, h => by
    rw [pyN] at e
    rw [den_ref] at h
    obtain ⟨hm, h⟩ := h
    subst h
    have key : ∀ xs, rdL hp m = some xs → (pyL (pyN hp k) xs).map PyData.list = some p → Dp Z.K H (.ref (ρ m)) p ∧ p.canLay0 = true := fun xs hx e => by
      obtain ⟨ps, e1, e2⟩ := Option.map_eq_some_iff.mp e
      subst e2
      obtain ⟨vs, s1, s2⟩ := r.rd hx
      obtain ⟨q1, q2⟩ := dpl_of (dpN_of r k) xs vs ps s2 e1
      exact ⟨.lst s1 q1, by simp only [PyData.canLay0]; exact q2⟩
    cases q : hp[m]? with
    | none =>
      rw [q] at e
      cases e
    | some o =>
      rw [q] at e
      cases o with
      | lst xs => exact key xs (by unfold rdL; rw [q]) e
      | frz xs => exact key xs (by unfold rdL; rw [q]) e
      | dct _ => cases e
      | set _ => cases e
theorem eqD_inv (r : RH Z H ρ hp) {a b : D} {x y : V} {k : Bool} (ha : Den Z H ρ hp.length a x) (hb : Den Z H ρ hp.length b y) (h : eqD hp a b = some k) :
    ∃ d e, Dp Z.K H x d ∧ Dp Z.K H y e ∧ SeqAt.shaped d = true ∧ SeqAt.shaped e = true ∧ k = PyData.eqv d e := by
  unfold eqD at h
  cases e1 : py hp a with
  | none =>
    rw [e1] at h
    cases h
  | some p =>
    cases e2 : py hp b with
    | none =>
      rw [e1, e2] at h
      cases h
    | some q =>
      rw [e1, e2] at h
      have h : (if p.depth ≤ 64 ∧ q.depth ≤ 64 then some (PyData.eqv p q) else none) = some k := h
      split at h
      · rename_i hd
        cases h
        obtain ⟨q1, q2⟩ := dp_of (dpN_of r 6) a x p ha e1
        obtain ⟨q3, q4⟩ := dp_of (dpN_of r 6) b y q hb e2
        exact ⟨p, q, q1, q3, by unfold SeqAt.shaped; rw [q2, decide_eq_true hd.1]; rfl, by unfold SeqAt.shaped; rw [q4, decide_eq_true hd.2]; rfl, rfl⟩
      · cases h
end
end MP

end
section
set_option Elab.async false
set_option linter.all false
set_option maxRecDepth 100000
set_option maxHeartbeats 1000000
namespace MP
open PySem L2
def toOp : BOp → Operator
  | .add => .Add
  | .sub => .Sub
  | .mul => .Mult
  | .fdiv => .FloorDiv
  | .mod => .Mod
  | .pow => .Pow
  | .shl => .LShift
  | .shr => .RShift
  | .band => .BitAnd
  | .bor => .BitOr
  | .bxor => .BitXor
section
variable {Z : Zx} {X : Cx}
theorem op_catT0 : OpR X (binaryOp .Add) (fun x y H Q => ∃ a b ys, x = .ref a ∧ y = .ref b ∧ SqT X.K H a [] ∧ SqT X.K H b ys ∧ Q (.ref b) H) := by
  intro pins s σ H x y v u Q I rx ry h
  obtain ⟨a, b, ys, rfl, rfl, ha, hb, q⟩ := h
  cases rx
  cases ry
  obtain ⟨its, r1, p1, _⟩ := I.tuple ha
  obtain ⟨its2, r2, p2, _⟩ := I.tuple hb
  cases r1
  exact L2.cat_tup0 p1 p2 ⟨.ref b, H, I, rfl, q⟩
theorem sl_tup0 : SlR X (fun x lo hi H Q => ∃ a xs, x = .ref a ∧ SqT X.K H a xs ∧ (HT.sIx xs.length 0 lo = 0 ∧ HT.sIx xs.length xs.length hi = xs.length) ∧ Q (.ref a) H) := by
  intro pins s σ H x v vl vu lo hi sl Q I rx hs pl pu h
  obtain ⟨a, xs, rfl, hx, hw, q⟩ := h
  cases rx
  obtain ⟨its, r, ht, hz⟩ := I.tuple hx
  have hlen : its.toArray.size = xs.length := by rw [List.size_toArray]; exact r.length.symm
  refine ⟨"tuple", _, PyProof.Rows.slot_tuple_getitem.lookup, ht.typeIs, ?_⟩
  exact L2.getItem_tuple_whole ht hs pl pu (by rw [hlen]; exact hw) ⟨.ref a, H, I, rfl, q⟩
theorem opB_ok (hK : X.K = Z.K) (op : BOp) : OpR X (binaryOp (toOp op)) (r2 Z (opB op)) := by
  intro pins s σ H x y v u Q I rx ry q
  obtain ⟨W, σ', ρ, hp, dx, dy, r, h1, h2, q⟩ := q
  unfold opB at q
  split at q
  · rw [den_int] at h1 h2
    subst h1 h2
    exact op_add pins s σ H _ _ v u Q I rx ry ⟨_, _, rfl, rfl, q.at r _ (den_int.mpr rfl)⟩
  · rw [den_int] at h1 h2
    subst h1 h2
    exact op_sub pins s σ H _ _ v u Q I rx ry ⟨_, _, rfl, rfl, q.at r _ (den_int.mpr rfl)⟩
  · rw [den_int] at h1 h2
    subst h1 h2
    split at q
    · rename_i hc
      exact op_mul pins s σ H _ _ v u Q I rx ry ⟨_, _, rfl, rfl, hc, q.at r _ (den_int.mpr rfl)⟩
    · exact q.elim
  · rw [den_int] at h1 h2
    subst h1 h2
    split at q
    · rename_i hc
      exact op_fdiv pins s σ H _ _ v u Q I rx ry ⟨_, _, rfl, rfl, hc, q.at r _ (den_int.mpr rfl)⟩
    · exact q.elim
  · rw [den_int] at h1 h2
    subst h1 h2
    split at q
    · rename_i hc
      exact op_mod pins s σ H _ _ v u Q I rx ry ⟨_, _, rfl, rfl, hc, q.at r _ (den_int.mpr rfl)⟩
    · exact q.elim
  · rw [den_int] at h1 h2
    subst h1 h2
    split at q
    · rename_i hc
      exact op_pow pins s σ H _ _ v u Q I rx ry ⟨_, _, rfl, rfl, ⟨hc.1, hc.2.1, hc.2.2⟩, q.at r _ (den_int.mpr rfl)⟩
    · exact q.elim
  · rw [den_str] at h1 h2
    obtain ⟨h1, o1⟩ := h1
    obtain ⟨h2, o2⟩ := h2
    subst h1 h2
    split at q
    · rename_i hc
      exact op_add_str pins s σ H _ _ v u Q I rx ry ⟨_, _, rfl, rfl, by rw [strOf_length, strOf_length, LIM_eq]; exact hc, by
        rw [strOf_app]
        exact q.at r _ (den_str.mpr ⟨rfl, okS_app o1 o2 hc⟩)⟩
    · exact q.elim
  · rw [den_tup] at h1 h2
    obtain ⟨a, vs, h1, s1, l1⟩ := h1
    obtain ⟨b, us, h2, s2, l2⟩ := h2
    subst h1 h2
    split at q
    · rename_i hc
      by_cases e0 : vs = []
      · subst e0
        have := l1.length
        have e1 := List.length_eq_zero_iff.mp this
        subst e1
        rw [List.nil_append] at q
        exact op_catT0 pins s σ H _ _ v u Q I rx ry ⟨a, b, us, rfl, rfl, by rw [hK]; exact s1, by rw [hK]; exact s2, q.at r _ (den_tup.mpr ⟨b, us, rfl, s2, l2⟩)⟩
      refine op_catT pins s σ H _ _ v u Q I rx ry ⟨a, b, vs, us, rfl, rfl, by rw [hK]; exact s1, by rw [hK]; exact s2, e0, by rw [← l1.length, ← l2.length, LIM_eq]; exact hc, fun e => ?_, fun _ p hp' => ?_⟩
      · have := l2.length
        rw [e] at this
        have e0 := List.length_eq_zero_iff.mp this
        subst e0
        rw [List.append_nil] at q
        exact q.at r _ (den_tup.mpr ⟨a, vs, rfl, s1, l1⟩)
      · exact q _ _ (Step.beside r hp') _ (den_newtup hp' (l1.append l2))
    · exact q.elim
  · rw [den_ref] at h1 h2
    obtain ⟨h1, e1⟩ := h1
    obtain ⟨h2, e2⟩ := h2
    subst e1 e2
    split at q
    · rename_i x y e3 e4
      split at q
      · rename_i hc
        obtain ⟨vs, s1, l1⟩ := r.lst e3
        obtain ⟨us, s2, l2⟩ := r.lst e4
        refine op_cat pins s σ H _ _ v u Q I rx ry ⟨_, _, vs, us, rfl, rfl, s1, s2, by rw [← l1.length, ← l2.length, LIM_eq]; exact hc, fun p hp' => ?_⟩
        exact q _ _ (Step.lst r hp' (l1.append l2)) _ den_new
      · exact q.elim
    · exact q.elim
  · exact q.elim

def toCmp : COp → CmpOp
  | .eq => .Eq
  | .ne => .NotEq
  | .lt => .Lt
  | .le => .LtE
  | .gt => .Gt
  | .ge => .GtE
  | .isNone => .Is
  | .notNone => .IsNot
  | .in_ => .In
  | .notIn => .NotIn
/-- a comparison -/
def rC (Z : Zx) (op : COp) : R2 := fun x y H Q => ∃ ρ hp dx dy k, RH Z H ρ hp ∧ Den Z H ρ hp.length dx x ∧ Den Z H ρ hp.length dy y ∧ opC op dx dy hp = some k ∧ Q (.bl k) H
/-- the items' == -/
theorem dpEq {A : Around} {pins : List (Addr × Obj)} {s : Shared} {σ : St} {H : Hp} (I : Inv X pins σ H s) (hu : A.units + 64 < cLine) {x y : V} {d e : PyData} {v u : Value} (hx : Dp X.K H x d) (hy : Dp X.K H y e) (sx : SeqAt.shaped d = true) (sy : SeqAt.shaped e = true)
    (rx : RelV x v) (ry : RelV y u) : SeqAt.EqAt A s v u (PyData.eqv d e) := fun prog w E Q q => by
  obtain ⟨as, h1⟩ := Dp.reads I d x v hx rx
  obtain ⟨bs, h2⟩ := Dp.reads I e y u hy ry
  exact SeqAt.eqAt_reads d e A s v u as bs h1 h2 (SeqAt.canLay_of_shaped sx) (SeqAt.canLay_of_shaped sy) (SeqAt.room_of_shaped sx hu) prog w E Q q

theorem mem_inv {A : Around} {pins : List (Addr × Obj)} {s : Shared} {σ : St} {H : Hp} {ρ : Nat → Addr} {hp : HP} (hK : X.K = Z.K) (I : Inv X pins σ H s) (r : RH Z H ρ hp) (hu : A.units + 64 < cLine) {d : D} {x : V} {u : Value} (hd : Den Z H ρ hp.length d x) (rx : RelV x u) :
    ∀ {ys : List D} {vs : List V} {us : List Value} {k : Bool}, DenL Z H ρ hp.length ys vs → Vals vs us → memD hp d ys = some k → ∃ bs : List Bool, bs.length = us.length ∧ bs.any id = k ∧ ∀ j (h : j < us.length) (h' : j < bs.length), SeqAt.EqAt A s us[j] u bs[j]
  | [], vs, us, k, h, rv, e => by
    rw [den_l0] at h
    subst h
    cases rv
    rw [memD] at e
    cases e
    exact ⟨[], rfl, rfl, fun j h => absurd h (Nat.not_lt_zero _)⟩
  | y :: ys, vs, us, k, h, rv, e => by
    rw [den_l1] at h
    obtain ⟨x1, xs, h1, h2, h3⟩ := h
    subst h1
    cases rv with
    | cons r1 r2 =>
      rw [memD] at e
      cases e1 : eqD hp y d with
      | none =>
        rw [e1] at e
        cases e
      | some a =>
        cases e2 : memD hp d ys with
        | none =>
          rw [e1, e2] at e
          cases e
        | some b =>
          rw [e1, e2] at e
          cases e
          obtain ⟨bs, q1, q2, q3⟩ := mem_inv hK I r hu hd rx h3 r2 e2
          obtain ⟨p, p', d1, d2, d3, d4, d5⟩ := eqD_inv r h2 hd e1
          refine ⟨a :: bs, by simp [q1], by simp [q2], fun j h h' => ?_⟩
          cases j with
          | zero =>
            subst d5
            exact dpEq I hu (by rw [hK]; exact d1) (by rw [hK]; exact d2) d3 d4 r1 rx
          | succ j => exact q3 j (by simpa using h) (by simpa using h')
/-- places' answers as a function of the item -/
theorem any_of {A : Around} {s : Shared} {u : Value} {us : List Value} {bs : List Bool} (hl : bs.length = us.length) (h : ∀ j (h : j < us.length) (h' : j < bs.length), SeqAt.EqAt A s us[j] u bs[j]) : ∃ f : Value → Bool, (∀ y, y ∈ us → SeqAt.EqAt A s y u (f y)) ∧ us.any f = bs.any id := by
  classical
  have key : ∀ y ∈ us, ∃ b, SeqAt.EqAt A s y u b ∧ True := fun y hy => by
    obtain ⟨j, hj, e⟩ := List.getElem_of_mem hy
    subst e
    exact ⟨_, h j hj (by omega), trivial⟩
  -- an answer that is true where some place's is true
  let f : Value → Bool := fun y => decide (∃ j, ∃ (h1 : j < us.length), ∃ (h2 : j < bs.length), us[j] = y ∧ bs[j] = true)
  refine ⟨f, fun y hy => ?_, ?_⟩
  · by_cases hy2 : ∃ j, ∃ (h1 : j < us.length), ∃ (h2 : j < bs.length), us[j] = y ∧ bs[j] = true
    · obtain ⟨j, h1, h2, e1, e2⟩ := hy2
      have : f y = true := decide_eq_true ⟨j, h1, h2, e1, e2⟩
      rw [this, ← e1, ← e2]
      exact h j h1 h2
    · have : f y = false := decide_eq_false hy2
      rw [this]
      obtain ⟨j, hj, e⟩ := List.getElem_of_mem hy
      have hb : bs[j]'(by omega) = false := by
        cases q : bs[j]'(by omega) with
        | false => rfl
        | true => exact absurd ⟨j, hj, by omega, e, q⟩ hy2
      rw [← e, ← hb]
      exact h j hj (by omega)
  · cases q : bs.any id with
    | true =>
      obtain ⟨b, hb, e⟩ := List.any_eq_true.mp q
      obtain ⟨j, hj, e'⟩ := List.getElem_of_mem hb
      refine List.any_eq_true.mpr ⟨us[j]'(by omega), List.getElem_mem _, decide_eq_true ⟨j, by omega, hj, rfl, ?_⟩⟩
      rw [e']
      exact e
    | false =>
      rw [List.any_eq_false]
      intro y hy e
      have e := of_decide_eq_true e
      obtain ⟨j, h1, h2, _, e2⟩ := e
      have := List.any_eq_false.mp q _ (List.getElem_mem h2)
      exact this e2
theorem opC_ok (hK : X.K = Z.K) (hu : X.A.units + 65 < cLine) (op : COp) (hn : op ≠ .isNone) (hn' : op ≠ .notNone) : OpR X (compareOp (toCmp op)) (rC Z op) := by
  intro pins s σ H x y v u Q I rx ry q
  obtain ⟨ρ, hp, dx, dy, k, r, h1, h2, e, q⟩ := q
  cases op with
  | isNone => exact absurd rfl hn
  | notNone => exact absurd rfl hn'
  | eq =>
    obtain ⟨p, p', d1, d2, d3, d4, d5⟩ := eqD_inv r h1 h2 e
    subst d5
    exact op_eqD (by omega) pins s σ H x y v u Q I rx ry ⟨p, p', by rw [hK]; exact d1, by rw [hK]; exact d2, d3, d4, q⟩
  | ne =>
    obtain ⟨k', e', ek⟩ := Option.map_eq_some_iff.mp e
    subst ek
    obtain ⟨p, p', d1, d2, d3, d4, d5⟩ := eqD_inv r h1 h2 e'
    subst d5
    exact op_neD (by omega) pins s σ H x y v u Q I rx ry ⟨p, p', by rw [hK]; exact d1, by rw [hK]; exact d2, d3, d4, q⟩
  | lt =>
    unfold opC at e
    simp only at e
    split at e
    · rw [den_int] at h1 h2
      subst h1 h2
      cases e
      exact op_lt pins s σ H _ _ v u Q I rx ry ⟨_, _, rfl, rfl, q⟩
    · rw [den_str] at h1 h2
      obtain ⟨h1, o1⟩ := h1
      obtain ⟨h2, o2⟩ := h2
      subst h1 h2
      cases e
      exact op_lt_str pins s σ H _ _ v u Q I rx ry ⟨_, _, rfl, rfl, q⟩
    · cases e
  | le =>
    unfold opC at e
    simp only at e
    split at e
    · rw [den_int] at h1 h2
      subst h1 h2
      cases e
      exact op_le pins s σ H _ _ v u Q I rx ry ⟨_, _, rfl, rfl, q⟩
    · cases e
  | gt =>
    unfold opC at e
    simp only at e
    split at e
    · rw [den_int] at h1 h2
      subst h1 h2
      cases e
      exact op_gt pins s σ H _ _ v u Q I rx ry ⟨_, _, rfl, rfl, q⟩
    · cases e
  | ge =>
    unfold opC at e
    simp only at e
    split at e
    · rw [den_int] at h1 h2
      subst h1 h2
      cases e
      exact op_ge pins s σ H _ _ v u Q I rx ry ⟨_, _, rfl, rfl, q⟩
    · cases e
  | in_ =>
    unfold opC at e
    simp only at e
    split at e
    · rw [den_tup] at h2
      obtain ⟨a, vs, h2, s2, l2⟩ := h2
      subst h2
      cases ry
      obtain ⟨its, rv, ht, hz⟩ := I.tuple (xs := vs) (by rw [hK]; exact s2)
      obtain ⟨bs, b1, b2, b3⟩ := mem_inv (A := X.A.in1) hK I r (show X.A.in1.units + 64 < cLine by show X.A.units + 1 + 64 < cLine; omega) h1 rx l2 rv e
      obtain ⟨f, f1, f2⟩ := any_of b1 b3
      refine SeqAt.in_tupleAt f ht (fun y hy => f1 y (by simpa using hy)) ⟨.bl k, H, I, ?_, q⟩
      show Value.bool (its.toArray.any f) = Value.bool k
      rw [List.any_toArray, f2, b2]
    · rw [den_ref] at h2
      obtain ⟨h2, e2⟩ := h2
      subst e2
      split at e
      · rename_i ys hy
        obtain ⟨vs, s2, l2⟩ := r.rd hy
        cases ry
        obtain ⟨its, rv, pl, hz⟩ := I.list (xs := vs) (by rw [hK]; exact s2)
        obtain ⟨bs, b1, b2, b3⟩ := mem_inv (A := X.A.in1) hK I r (show X.A.in1.units + 64 < cLine by show X.A.units + 1 + 64 < cLine; omega) h1 rx l2 rv e
        obtain ⟨f, f1, f2⟩ := any_of b1 b3
        refine SeqAt.in_listAt f pl.isList (fun y hy => f1 y (by simpa using hy)) ⟨.bl k, H, I, ?_, q⟩
        show Value.bool (its.toArray.any f) = Value.bool k
        rw [List.any_toArray, f2, b2]
      · cases e
    · cases e
  | notIn =>
    unfold opC at e
    simp only at e
    split at e
    · rw [den_tup] at h2
      obtain ⟨a, vs, h2, s2, l2⟩ := h2
      subst h2
      cases ry
      obtain ⟨k', e', ek⟩ := Option.map_eq_some_iff.mp e
      subst ek
      obtain ⟨its, rv, ht, hz⟩ := I.tuple (xs := vs) (by rw [hK]; exact s2)
      obtain ⟨bs, b1, b2, b3⟩ := mem_inv (A := X.A.in1) hK I r (show X.A.in1.units + 64 < cLine by show X.A.units + 1 + 64 < cLine; omega) h1 rx l2 rv e'
      obtain ⟨f, f1, f2⟩ := any_of b1 b3
      refine SeqAt.notIn_tupleAt f ht (fun y hy => f1 y (by simpa using hy)) ⟨.bl (!k'), H, I, ?_, q⟩
      show Value.bool (!its.toArray.any f) = Value.bool (!k')
      rw [List.any_toArray, f2, b2]
    · rw [den_ref] at h2
      obtain ⟨h2, e2⟩ := h2
      subst e2
      split at e
      · rename_i ys hy
        obtain ⟨k', e', ek⟩ := Option.map_eq_some_iff.mp e
        subst ek
        obtain ⟨vs, s2, l2⟩ := r.rd hy
        cases ry
        obtain ⟨its, rv, pl, hz⟩ := I.list (xs := vs) (by rw [hK]; exact s2)
        obtain ⟨bs, b1, b2, b3⟩ := mem_inv (A := X.A.in1) hK I r (show X.A.in1.units + 64 < cLine by show X.A.units + 1 + 64 < cLine; omega) h1 rx l2 rv e'
        obtain ⟨f, f1, f2⟩ := any_of b1 b3
        refine SeqAt.notIn_listAt f pl.isList (fun y hy => f1 y (by simpa using hy)) ⟨.bl (!k'), H, I, ?_, q⟩
        show Value.bool (!its.toArray.any f) = Value.bool (!k')
        rw [List.any_toArray, f2, b2]
      · cases e
    · cases e
end
end MP

end
section
set_option Elab.async false
set_option linter.all false
set_option maxRecDepth 100000
set_option maxHeartbeats 1000000
/-! MP: built-in functions, methods, subscripts, truth. -/
namespace MP
open PySem L2
section
variable {Z : Zx} {X : Cx}
/-- the name and the value of a built-in function -/
def bfV : BF → Value
  | .len => .builtin "len"
  | .abs => .builtin "abs"
  | .min2 => .builtin "min"
  | .max2 => .builtin "max"
  | .int1 => .type "int"
  | .list1 => .type "list"
  | .tuple1 => .type "tuple"
theorem evB_ok (hK : X.K = Z.K) (hc : X.calm = true) (f : BF) : CallR X (bfV f) (rN Z (evB f)) := by
  intro pins s σ H vs us Q I rv q
  obtain ⟨W, σ', ρ, hp, ds, r, h, q⟩ := q
  unfold evB at q
  split at q
  · -- len of a text
    rw [den_l1] at h
    obtain ⟨x, xs, e1, h1, h2⟩ := h
    rw [den_l0] at h2
    rw [den_str] at h1
    obtain ⟨h1, o1⟩ := h1
    subst h2 h1 e1
    exact call_len_str pins s σ H _ us Q I rv ⟨_, rfl, by rw [strOf_length, LIM_eq]; exact o1.1, by rw [strOf_length]; exact q.at r _ (den_int.mpr rfl)⟩
  · rw [den_l1] at h
    obtain ⟨x, xs, e1, h1, h2⟩ := h
    rw [den_l0] at h2
    rw [den_tup] at h1
    obtain ⟨a, ys, h1, s1, l1⟩ := h1
    subst h2 h1 e1
    exact call_len_seq pins s σ H _ us Q I rv ⟨a, ys, rfl, .inr (by rw [hK]; exact s1), by rw [← l1.length]; exact q.at r _ (den_int.mpr rfl)⟩
  · rw [den_l1] at h
    obtain ⟨x, xs, e1, h1, h2⟩ := h
    rw [den_l0] at h2
    rw [den_ref] at h1
    obtain ⟨hm, h1⟩ := h1
    subst h2 h1 e1
    split at q
    · rename_i ys e
      obtain ⟨ws, s1, l1⟩ := r.rd (show rdL hp _ = some ys by unfold rdL; rw [e])
      exact call_len_seq pins s σ H _ us Q I rv ⟨_, ws, rfl, .inl (by rw [hK]; exact s1), by rw [← l1.length]; exact q.at r _ (den_int.mpr rfl)⟩
    · rename_i ys e
      obtain ⟨ws, s1, l1⟩ := r.rd (show rdL hp _ = some ys by unfold rdL; rw [e])
      exact call_len_seq pins s σ H _ us Q I rv ⟨_, ws, rfl, .inl (by rw [hK]; exact s1), by rw [← l1.length]; exact q.at r _ (den_int.mpr rfl)⟩
    · exact q.elim
  · rw [den_l1] at h
    obtain ⟨x, xs, e1, h1, h2⟩ := h
    rw [den_l0] at h2
    rw [den_int] at h1
    subst h2 h1 e1
    exact call_abs pins s σ H _ us Q I rv ⟨_, rfl, q.at r _ (den_int.mpr rfl)⟩
  · rw [den_l1] at h
    obtain ⟨x, xs, e1, h1, h⟩ := h
    rw [den_l1] at h
    obtain ⟨y, ys, e2, h2, h3⟩ := h
    rw [den_l0] at h3
    rw [den_int] at h1 h2
    subst h3 h2 h1 e2 e1
    exact call_min2 hc pins s σ H _ us Q I rv ⟨_, _, rfl, q.at r _ (den_int.mpr rfl)⟩
  · rw [den_l1] at h
    obtain ⟨x, xs, e1, h1, h⟩ := h
    rw [den_l1] at h
    obtain ⟨y, ys, e2, h2, h3⟩ := h
    rw [den_l0] at h3
    rw [den_int] at h1 h2
    subst h3 h2 h1 e2 e1
    exact call_max2 hc pins s σ H _ us Q I rv ⟨_, _, rfl, q.at r _ (den_int.mpr rfl)⟩
  · rw [den_l1] at h
    obtain ⟨x, xs, e1, h1, h2⟩ := h
    rw [den_l0] at h2
    rw [den_int] at h1
    subst h2 h1 e1
    exact call_int1 pins s σ H _ us Q I rv (.inl ⟨_, rfl, q.at r _ (den_int.mpr rfl)⟩)
  · rw [den_l1] at h
    obtain ⟨x, xs, e1, h1, h2⟩ := h
    rw [den_l0] at h2
    rw [den_tup] at h1
    obtain ⟨a, ys, h1, s1, l1⟩ := h1
    subst h2 h1 e1
    exact call_list_of pins s σ H _ us Q I rv ⟨a, ys, rfl, .inr (by rw [hK]; exact s1), fun p hp' => q _ _ (Step.lst r hp' l1) _ den_new⟩
  · rw [den_l1] at h
    obtain ⟨x, xs, e1, h1, h2⟩ := h
    rw [den_l0] at h2
    rw [den_ref] at h1
    obtain ⟨hm, h1⟩ := h1
    subst h2 h1 e1
    split at q
    · rename_i ys e
      obtain ⟨ws, s1, l1⟩ := r.rd e
      exact call_list_of pins s σ H _ us Q I rv ⟨_, ws, rfl, .inl (by rw [hK]; exact s1), fun p hp' => q _ _ (Step.lst r hp' l1) _ den_new⟩
    · exact q.elim
  · rw [den_l1] at h
    obtain ⟨x, xs, e1, h1, h2⟩ := h
    rw [den_l0] at h2
    rw [den_ref] at h1
    obtain ⟨hm, h1⟩ := h1
    subst h2 h1 e1
    split at q
    · rename_i ys e
      obtain ⟨ws, s1, l1⟩ := r.rd e
      exact call_tuple_of pins s σ H _ us Q I rv ⟨_, ws, rfl, .inl ⟨by rw [hK]; exact s1, fun p hp' => q _ _ (Step.beside r hp') _ (den_newtup hp' l1)⟩⟩
    · exact q.elim
  · rw [den_l1] at h
    obtain ⟨x, xs, e1, h1, h2⟩ := h
    rw [den_l0] at h2
    have h1' := h1
    rw [den_tup] at h1
    obtain ⟨a, ys, h1, s1, l1⟩ := h1
    subst h2 h1 e1
    exact call_tuple_of pins s σ H _ us Q I rv ⟨a, ys, rfl, .inr ⟨by rw [hK]; exact s1, q.at r _ h1'⟩⟩
  · exact q.elim

/-! ### truth -/
theorem tru_g (hK : X.K = Z.K) : TruR X (rTru Z) := by
  intro pins s σ H x v Q I rx q
  obtain ⟨ρ, hp, d, b, r, h, e, q⟩ := q
  refine tru_ok pins s σ H x v Q I rx ⟨b, ?_, q⟩
  rw [hK]
  cases d with
  | non =>
    rw [den_non] at h
    subst h
    cases e
    rfl
  | bl c =>
    rw [den_bl] at h
    subst h
    cases e
    rfl
  | int i =>
    rw [den_int] at h
    subst h
    cases e
    show decide (i ≠ 0) = (i != 0)
    by_cases hi : i = 0 <;> simp [hi]
  | str z =>
    rw [den_str] at h
    obtain ⟨h, o⟩ := h
    subst h
    cases e
    refine ⟨by rw [strOf_length, LIM_eq]; exact o.1, ?_⟩
    rw [strOf_length]
    cases z with
    | nil => rfl
    | cons a t =>
      show true = _
      symm
      simp only [bne_iff_ne, List.length_cons]
      omega
  | tup ds =>
    rw [den_tup] at h
    obtain ⟨a, vs, h, s1, l1⟩ := h
    subst h
    cases e
    refine .inr (.inl ⟨vs, s1, ?_⟩)
    cases ds with
    | nil =>
      rw [den_l0] at l1
      subst l1
      rfl
    | cons a t =>
      rw [den_l1] at l1
      obtain ⟨y, ys, e1, _⟩ := l1
      subst e1
      rfl
  | kd _ => cases e
  | ref m =>
    rw [den_ref] at h
    obtain ⟨hm, h⟩ := h
    subst h
    have key : ∀ ys, rdL hp m = some ys → b = !ys.isEmpty → TruV Z.K (.ref (ρ m)) H b := fun ys hy e => by
      obtain ⟨ws, s1, l1⟩ := r.rd hy
      refine .inl ⟨ws, s1, ?_⟩
      rw [e]
      cases ys with
      | nil =>
        rw [den_l0] at l1
        subst l1
        rfl
      | cons a t =>
        rw [den_l1] at l1
        obtain ⟨y, ys, e1, _⟩ := l1
        subst e1
        rfl
    simp only [truthy] at e
    cases qq : hp[m]? with
    | none =>
      rw [qq] at e
      cases e
    | some o =>
      rw [qq] at e
      cases o with
      | lst ys =>
        cases e
        exact key ys (by unfold rdL; rw [qq]) rfl
      | frz ys =>
        cases e
        exact key ys (by unfold rdL; rw [qq]) rfl
      | dct kvs =>
        cases e
        obtain ⟨h1, h2⟩ := r.obj m _ qq
        subst h1
        exact .inr (.inr ⟨[], h2, rfl⟩)
      | set _ => cases e

/-! ### subscripts -/
theorem ixN_lt {n : Nat} {i : Int} {k : Nat} (h : ixN n i = some k) : k < n := (ixN_seq h).2.1
theorem opIx_ok (hK : X.K = Z.K) : IxR X (r2 Z fun a b h => lift (opIx a b h) h) := by
  intro value slice pins s σ H x y v u Q I rx ry q hs
  obtain ⟨W, σ', ρ, hp, dx, dy, r, h1, h2, q⟩ := q
  simp only at q
  cases e : opIx dx dy hp with
  | none =>
    rw [e] at q
    exact q.elim
  | some d =>
    rw [e] at q
    have q := q.at r
    unfold opIx at e
    split at e
    · rw [den_tup] at h1
      rw [den_int] at h2
      obtain ⟨a, vs, h1, s1, l1⟩ := h1
      subst h1 h2
      obtain ⟨k, e1, e2⟩ := Option.bind_eq_some_iff.mp e
      obtain ⟨w, e3, e4⟩ := l1.get e2
      exact ix_tup value slice pins s σ H _ _ v u Q I rx ry ⟨a, vs, _, w, rfl, rfl, by rw [hK]; exact s1, by unfold atI; rw [← l1.length, e1]; exact e3, q _ e4⟩ hs
    · rw [den_str] at h1
      rw [den_int] at h2
      obtain ⟨h1, o1⟩ := h1
      subst h1 h2
      obtain ⟨c, e1, e2⟩ := Option.map_eq_some_iff.mp e
      obtain ⟨k, e1, e3⟩ := Option.bind_eq_some_iff.mp e1
      subst e2
      exact ix_str value slice pins s σ H _ _ v u Q I rx ry ⟨_, _, c, rfl, rfl, by rw [strOf_length, LIM_eq]; exact o1.1, by
        show atI (strOf _).cps.toList _ = _
        unfold strOf atI
        simp only
        rw [e1]
        exact e3, q _ (den_str.mpr ⟨rfl, okS_sub o1 (by have := (List.getElem?_eq_some_iff.mp e3).1; simp only [List.length_singleton]; omega) fun c' hc => by
          rw [List.mem_singleton] at hc
          rw [hc]
          exact List.mem_of_getElem? e3⟩)⟩ hs
    · rw [den_ref] at h1
      rw [den_int] at h2
      obtain ⟨hm, h1⟩ := h1
      subst h1 h2
      obtain ⟨xs, e0, e⟩ := Option.bind_eq_some_iff.mp e
      obtain ⟨k, e1, e2⟩ := Option.bind_eq_some_iff.mp e
      obtain ⟨ws, s1, l1⟩ := r.rd e0
      obtain ⟨w, e3, e4⟩ := l1.get e2
      exact ix_list value slice pins s σ H _ _ v u Q I rx ry ⟨_, ws, _, w, rfl, rfl, by rw [hK]; exact s1, by unfold atI; rw [← l1.length, e1]; exact e3, q _ e4⟩ hs
    · cases e
theorem cut_den {H : Hp} {ρ : Nat → Addr} {n : Nat} {ds : List D} {vs : List V} (l : DenL Z H ρ n ds vs) (lo hi : Option Int) : DenL Z H ρ n (cut ds lo hi) (cutV vs lo hi) := by
  unfold cut cutV
  rw [← l.length]
  exact (l.drop _).take _
theorem cut_sub {α : Type} {xs : List α} {lo hi : Option Int} : (cut xs lo hi).length ≤ xs.length ∧ ∀ c ∈ cut xs lo hi, c ∈ xs := by
  unfold cut
  refine ⟨by rw [List.length_take, List.length_drop]; omega, fun c hc => List.mem_of_mem_drop (List.mem_of_mem_take hc)⟩
def rSlZ (Z : Zx) : V → Option Int → Option Int → Hp → VK → Prop := fun x lo hi H Q => ∃ W σ ρ hp d, RH Z H ρ hp ∧ Den Z H ρ hp.length d x ∧
  Post Z W σ hp.length ρ H (opSl d lo hi hp) fun d ρ' hp' H' => ∀ v, Den Z H' ρ' hp'.length d v → Q v H'
theorem opSl_ok (hK : X.K = Z.K) : SlR X (rSlZ Z) := by
  intro pins s σ H x v vl vu lo hi sl Q I rx hs pl pu q
  obtain ⟨W, σ', ρ, hp, d, r, h, q⟩ := q
  unfold opSl at q
  split at q
  · rename_i xs
    rw [den_tup] at h
    obtain ⟨a, vs, h, s1, l1⟩ := h
    subst h
    by_cases hw : HT.sIx vs.length 0 lo = 0 ∧ HT.sIx vs.length vs.length hi = vs.length
    · have ec : cut xs lo hi = xs := by
        unfold cut
        rw [l1.length, hw.1, hw.2, List.drop_zero]
        exact List.take_of_length_le (by rw [l1.length]; exact Nat.le_refl _)
      rw [ec] at q
      exact sl_tup0 pins s σ H _ v vl vu lo hi sl Q I rx hs pl pu ⟨a, vs, rfl, by rw [hK]; exact s1, hw, q.at r _ (den_tup.mpr ⟨a, vs, rfl, s1, l1⟩)⟩
    · exact sl_tup pins s σ H _ v vl vu lo hi sl Q I rx hs pl pu ⟨a, vs, rfl, by rw [hK]; exact s1, hw, fun p hp' => q _ _ (Step.beside r hp') _ (den_newtup hp' (cut_den l1 lo hi))⟩
  · rename_i z
    rw [den_str] at h
    obtain ⟨h, o⟩ := h
    subst h
    have e : cutS (strOf z) lo hi = strOf (cut z lo hi) := by
      unfold cutS cut
      rw [strOf_length]
      unfold strOf
      simp
    exact sl_str pins s σ H _ v vl vu lo hi sl Q I rx hs pl pu ⟨_, rfl, by rw [strOf_length, LIM_eq]; exact o.1, by
      rw [e]
      exact q.at r _ (den_str.mpr ⟨rfl, okS_sub o cut_sub.1 cut_sub.2⟩)⟩
  · rename_i m
    rw [den_ref] at h
    obtain ⟨hm, h⟩ := h
    subst h
    split at q
    · rename_i xs e
      obtain ⟨ws, s1, l1⟩ := r.rd e
      exact sl_list pins s σ H _ v vl vu lo hi sl Q I rx hs pl pu ⟨_, ws, rfl, by rw [hK]; exact s1, fun p hp' => q _ _ (Step.lst r hp' (cut_den l1 lo hi)) _ den_new⟩
    · exact q.elim
  · exact q.elim

/-! ### types -/
def tyN : Ty → String
  | .int => "int"
  | .str => "str"
  | .bool => "bool"
  | .tuple => "tuple"
  | .list => "list"
  | .dict => "dict"
  | .none => "NoneType"
def subTy (a b : Ty) : Bool := decide (a = b) || (decide (a = .bool) && decide (b = .int))
theorem kit_subTy (a b : Ty) : kitB (tyN a) (tyN b) = some (subTy a b) := by
  cases a <;> cases b <;> decide +kernel
theorem isTy_sub {h : HP} {d : D} {a t : Ty} (e : dTy h d = some a) : isTy h d t = subTy a t := by
  cases d with
  | ref m =>
    simp only [dTy] at e
    cases q : h[m]? with
    | none =>
      rw [q] at e
      cases e
    | some o =>
      rw [q] at e
      cases o <;> cases e <;> cases t <;> simp [isTy, subTy, q]
  | kd _ => cases e
  | _ => cases e <;> cases t <;> rfl
theorem dTy_ty {H : Hp} {ρ : Nat → Addr} {hp : HP} (r : RH Z H ρ hp) {d : D} {x : V} (h : Den Z H ρ hp.length d x) {t : Ty} (e : dTy hp d = some t) : TyX Z.K H x (.type (tyN t)) := by
  cases d with
  | non =>
    rw [den_non] at h
    subst h
    cases e
    exact .base .non
  | bl _ =>
    rw [den_bl] at h
    subst h
    cases e
    exact .base (.bl _)
  | int _ =>
    rw [den_int] at h
    subst h
    cases e
    exact .base (.int _)
  | str _ =>
    rw [den_str] at h
    obtain ⟨h, _⟩ := h
    subst h
    cases e
    exact .base (.str _)
  | tup _ =>
    rw [den_tup] at h
    obtain ⟨a, vs, h, s1, _⟩ := h
    subst h
    cases e
    rcases s1 with (s1 | ⟨o, s1⟩) | ⟨o, its, n, s1, s2, _⟩
    · exact .base (.tup s1)
    · exact .fTuple s1
    · exact .kTuple s1 s2
  | kd _ => cases e
  | ref m =>
    rw [den_ref] at h
    obtain ⟨hm, h⟩ := h
    subst h
    simp only [dTy] at e
    cases q : hp[m]? with
    | none =>
      rw [q] at e
      cases e
    | some o =>
      rw [q] at e
      cases o with
      | lst ys =>
        cases e
        obtain ⟨vs, h1, _⟩ := r.obj m _ q
        exact .base (.lst h1)
      | frz ys =>
        cases e
        obtain ⟨o, vs, h1, _⟩ := r.obj m _ q
        exact .base (.frz h1)
      | dct _ =>
        cases e
        obtain ⟨_, h1⟩ := r.obj m _ q
        exact .base (.dK h1)
      | set _ => cases e
end
end MP

end
section
set_option Elab.async false
set_option linter.all false
set_option maxRecDepth 100000
set_option maxHeartbeats 1000000
/-! MP: methods of built-in types. -/
namespace MP
open PySem L2
section
variable {Z : Zx} {X : Cx}
/-- the type at hand, as a method call asks for it -/
def TyAt (X : Cx) (T : String) (x : V) (H : Hp) : Prop := ∀ (pins : List (Addr × Obj)) (σ : St) (s : Shared) (v : Value), Inv X pins σ H s → RelV x v → s.TypeIs v T ∧ ∀ a, v = .ref a → ∃ ob, s.heap.get? a = some ob ∧ ob.dict = none
def tMG0 (X : Cx) (T : String) (r : V → List V → Hp → VK → Prop) (to : TE) : TE := fun σ H Q => to σ H fun x H1 => TyAt X T x H1 ∧ r x [] H1 Q
def tMG (X : Cx) (T : String) (r : V → List V → Hp → VK → Prop) (to : TE) (t : TA) : TE := fun σ H Q => to σ H fun x H1 => TyAt X T x H1 ∧ t σ H1 fun xs H2 => r x xs H2 Q
variable {o e : Expr} {es : List Expr} {to : TE} {t : TA} {name : Str} {apos cpos : Pos} {T id : String} {r : V → List V → Hp → VK → Prop}
theorem pe_mg0 (pa : PlainAttrs T) (slot : Slot T name id) (hty : typeOf (.builtin id) = pure (.type "method_descriptor")) (hm : MtR X id r) (ho : PE X o to)
    (hbase : attributeBase o name X.env (eval o X.env) = eval o X.env) (hline : (apos.endLine == cpos.line) = true) : PE X (.Call (.Attribute o name apos) [] [] cpos) (tMG0 X T r to) := by
  refine ⟨fun pins s σ H Q I h => ?_⟩
  refine wpAny_Call_method0_late hbase hline (thn (ho.run pins s σ H _ I h) fun v s1 ⟨x, H1, I1, r1, ty, q1⟩ => ?_)
  obtain ⟨h1, h2⟩ := ty pins σ s1 v I1 r1
  exact ⟨T, id, pa, slot, hty, h1, h2, Calls.callWith_builtin rfl (PySem.evalArgs_none (hm pins s1 σ H1 x [] v [] Q I1 r1 .nil q1))⟩
theorem pe_mg (pa : PlainAttrs T) (slot : Slot T name id) (hty : typeOf (.builtin id) = pure (.type "method_descriptor")) (hm : MtR X id r) (ho : PE X o to) (ha : PA X (e :: es) t)
    (hbase : attributeBase o name X.env (eval o X.env) = eval o X.env)
    (hfew : ((backTo cpos (starEach (e :: es) X.env)).all (fun x => !x.1) && (backToKw cpos (keywordEach [] X.env)).all (fun x => x.1.isSome)
      && decide ((e :: es).length + ([] : List Keyword).length + (if ([] : List Keyword).isEmpty then 0 else 1) < 30)) = true)
    (hline : (apos.endLine == cpos.line) = true) (hs : starEach (e :: es) X.env = (false, eval e X.env) :: starEach es X.env) (hplain : (backTo cpos (starEach es X.env)).any (·.1) = false) :
    PE X (.Call (.Attribute o name apos) (e :: es) [] cpos) (tMG X T r to t) := by
  refine ⟨fun pins s σ H Q I h => ?_⟩
  refine wpAny_Call_method_late hbase hfew hline rfl (thn (ho.run pins s σ H _ I h) fun v s1 ⟨x, H1, I1, r1, ty, q1⟩ => ?_)
  obtain ⟨h1, h2⟩ := ty pins σ s1 v I1 r1
  refine ⟨T, id, pa, slot, hty, h1, h2, ?_⟩
  have hA := ha.run cpos pins s1 σ H1 _ I1 q1
  rw [hs] at hA ⊢
  refine Calls.callWith_builtin (by show (false || (backTo cpos (starEach es X.env)).any (·.1)) = false; rw [hplain] <;> rfl) (Calls.evalArgs_plain ?_)
  exact thn hA fun us s2 ⟨vs, H2, I2, r2, q2⟩ => hm pins s2 σ H2 x vs v us Q I2 r1 r2 q2

/-! the types of values -/
theorem ty_str {x : Str} {H : Hp} : TyAt X "str" (.str x) H := fun pins σ s v I rx => by
  obtain ⟨t, rfl⟩ := rx
  exact ⟨typeIs_str s x t, fun _ e => nomatch e⟩
theorem ty_lst {p : Addr} {vs : List V} {H : Hp} (h : H p = some (.lst vs)) : TyAt X "list" (.ref p) H := fun pins σ s v I rx => by
  cases rx
  obtain ⟨its, r, ⟨o, n, e1, e2, e3, e4⟩, z⟩ := I.list (SqL.of h)
  exact ⟨⟨o, e1, e2⟩, fun a e => by cases e; exact ⟨o, e1, e3⟩⟩

def mtN : MT → String
  | .str => "str"
  | .list => "list"
  | .dict => "dict"
  | .tuple => "tuple"
  | .set => "set"
theorem ty_of (hK : X.K = Z.K) {H : Hp} {ρ : Nat → Addr} {hp : HP} (r : RH Z H ρ hp) {d : D} {x : V} (h : Den Z H ρ hp.length d x) {t : MT} (e : tyM hp d = some t) : TyAt X (mtN t) x H := by
  cases d with
  | non => cases e
  | bl _ => cases e
  | int _ => cases e
  | kd _ => cases e
  | str _ =>
    rw [den_str] at h
    obtain ⟨h, _⟩ := h
    subst h
    cases e
    exact ty_str
  | tup _ => cases e
  | ref m =>
    rw [den_ref] at h
    obtain ⟨hm, h⟩ := h
    subst h
    simp only [tyM] at e
    cases q : hp[m]? with
    | none =>
      rw [q] at e
      cases e
    | some o =>
      rw [q] at e
      cases o with
      | lst ys =>
        cases e
        obtain ⟨vs, h1, _⟩ := r.obj m _ q
        exact ty_lst h1
      | frz ys => cases e
      | dct _ =>
        cases e
        obtain ⟨_, h1⟩ := r.obj m _ q
        exact fun pins σ s v I rx => tyV_is I rx (.inr (.inr (.inl ⟨rfl, .inl ⟨_, h1⟩⟩)))
      | set _ => cases e
/-! the texts of capitals -/
theorem up_one : ∀ c : Fin 128, Unicode.upperOf c.val = [upC c.val] := by decide +kernel
theorem upper_ascii {s : List Nat} (h : ascii s = true) : Txt.upper (strOf s) = strOf (s.map upC) := by
  unfold Txt.upper
  have e : placed (strOf s) (fun _ c => Unicode.upperOf c) = (s.map upC).toArray := by
    unfold placed strOf
    have e2 : ∀ (l : List Nat), ascii l = true → (l.map fun c => (Unicode.upperOf c)).flatten = l.map upC := by
      intro l
      induction l with
      | nil => intro _; rfl
      | cons c t ih =>
        intro hl
        unfold ascii at hl
        rw [List.all_cons, Bool.and_eq_true] at hl
        rw [List.map_cons, List.flatten_cons, ih hl.2, List.map_cons]
        have := up_one ⟨c, of_decide_eq_true hl.1⟩
        simp only at this
        rw [this]
        rfl
    have e3 : ∀ (l : List Nat), (l.toArray.mapIdx fun _ c => (Unicode.upperOf c).toArray) = (l.map fun c => (Unicode.upperOf c).toArray).toArray := by
      intro l
      apply Array.ext
      · simp
      · intro i h1 h2
        simp
    rw [e3, ← e2 s h]
    apply Array.ext'
    rw [Array.toList_flatten]
    simp [Function.comp_def]
  rw [e]
  rfl

theorem up_ok {s : List Nat} (h : okS s) (ha : ascii s = true) : okS (s.map upC) := by
  refine ⟨by rw [List.length_map]; exact h.1, fun c hc => ?_⟩
  obtain ⟨d, hd, e⟩ := List.mem_map.mp hc
  have := of_decide_eq_true (List.all_eq_true.mp ha d hd)
  rw [← e]
  unfold upC
  split <;> omega
/-- what each method asks -/
theorem append_ok : MtR X "list.append" (rM Z (evM .append)) := by
  intro pins s σ H x vs v us Q I rx rv q
  obtain ⟨W, σ', ρ, hp, o, ds, r, h1, h2, q⟩ := q
  unfold evM at q
  split at q
  · rename_i p d _
    rw [den_ref] at h1
    obtain ⟨hm, h1⟩ := h1
    rw [den_l1] at h2
    obtain ⟨y, ys, e1, h2, h3⟩ := h2
    rw [den_l0] at h3
    subst h1 h3 e1
    split at q
    · rename_i xs e
      split at q
      · rename_i hl
        obtain ⟨ws, s1, l1⟩ := r.lst e
        exact mt_append pins s σ H _ _ v us Q I rx rv ⟨_, ws, y, rfl, rfl, s1, by rw [← l1.length, LIM_eq]; exact hl,
          q _ _ (Step.set r s1 nst_lst hm ⟨_, upd_same, (l1.append (.cons h2 .nil)).mono (Ext.set s1 nst_lst) (Agr.refl _ _) (Nat.le_refl _)⟩) _ (den_non.mpr rfl)⟩
      · exact q.elim
    · exact q.elim
  · cases ‹MF.append = MF.upper›
  · exact q.elim
theorem upper_ok : MtR X "str.upper" (rM Z (evM .upper)) := by
  intro pins s σ H x vs v us Q I rx rv q
  obtain ⟨W, σ', ρ, hp, o, ds, r, h1, h2, q⟩ := q
  unfold evM at q
  split at q
  · cases ‹MF.upper = MF.append›
  · rename_i z _
    rw [den_str] at h1
    obtain ⟨h1, o1⟩ := h1
    rw [den_l0] at h2
    subst h1 h2
    split at q
    · rename_i hc
      exact mt_upper pins s σ H _ _ v us Q I rx rv ⟨_, rfl, rfl, by rw [strOf_length]; exact hc.2, by rw [upper_ascii hc.1]; exact q.at r _ (den_str.mpr ⟨rfl, up_ok o1 hc.1⟩)⟩
    · exact q.elim
  · exact q.elim
end
end MP

end
section
set_option Elab.async false
set_option linter.all false
set_option maxRecDepth 100000
set_option maxHeartbeats 1000000
/-! MP: from the text's expressions to the evaluator's. -/
namespace MP
open PySem L2

/-- what a global name stands for -/
inductive GI where
  | fn (i : Nat) (ps : List Str)
  | con (d : D)
  | exc (c : Nat) (keep : Bool)
  | dic (kvs : List (List Nat × D))
  | blt
structure SC where
  N : List Str
  sc : Scope
  G : List (Str × GI)
  /-- within an except suite, its name -/
  hot : Bool
  hn : Option Str
  /-- a comprehension's block -/
  blk : Option Scope
/-- the cells made at the entry -/
def fnB (c : SC) (x : Str) : Bool := match c.blk with
  | none => true
  | some s => decide (s.names.lookup x = some .cell)
def locB (c : SC) (x : Str) : Bool := decide (c.sc.names.lookup x = some .local) || (decide (c.sc.names.lookup x = some .cell) && fnB c x)
structure PlainX (K : PySem.W.Frag) (C : Addr) : Prop where
  ex : PySem.W.excIn K C [.type "ValueError", .type "Exception", .type "BaseException", .type "object"] "ValueError.__new__" = true
  keep : PySem.W.keepIn K (.ref C) = true
  sub : PySem.W.subIn K (.ref C) (.type "BaseException") = some true
  ty : PySem.W.typeIn K (.ref C) = some (.type "type")
/-- the classes are told apart -/
def SubOk (Z : Zx) : Prop := ∀ i j, i < Z.nc → j < Z.nc → PySem.W.exmOne Z.K (.ref (Z.xc i)) (.ref (Z.xc j)) = some (Z.sub i j)
/-- the exception classes -/
structure ZOk (Z : Zx) : Prop where
  sub : SubOk Z
  kit : ∀ i j, i < Z.nc → j < Z.nc → PySem.W.kitOne Z.K (.ref (Z.xc i)) (.ref (Z.xc j)) = some (Z.sub i j)
  plain : ∀ i, i < Z.nc → Z.xf i = none → PlainX Z.K (Z.xc i) ∧ ExcC Z.K (Z.xc i)
def ixOf : List Str → Str → Option Nat
  | [], _ => none
  | y :: ys, x => if y = x then some 0 else (ixOf ys x).map (· + 1)
theorem ixOf_get : ∀ {ys : List Str} {x : Str} {i : Nat}, ixOf ys x = some i → ys[i]? = some x
  | [], _, _, h => by cases h
  | y :: ys, x, i, h => by
    rw [ixOf] at h
    split at h
    · cases h
      simp [*]
    · obtain ⟨j, e1, e2⟩ := Option.map_eq_some_iff.mp h
      subst e2
      simpa using ixOf_get e1
def visB (sc : Scope) (x : Str) : Bool := match sc.names.lookup x with
  | some .local => true
  | some .cell => true
  | some .free => true
  | _ => false
theorem visB_ok {sc : Scope} {x : Str} (h : visB sc x = true) : Vis sc x := by
  unfold visB at h
  unfold Vis
  split at h
  · exact .inl ‹_›
  · exact .inr (.inl ‹_›)
  · exact .inr (.inr ‹_›)
  · cases h
def glB (sc : Scope) (x : Str) : Bool := decide (sc.names.lookup x = some .globalImplicit)
def okSb (s : List Nat) : Bool := decide (s.length ≤ LIM) && s.all fun c => decide (c < 1114112)
theorem okSb_ok {s : List Nat} (h : okSb s = true) : okS s := by
  unfold okSb at h
  rw [Bool.and_eq_true] at h
  exact ⟨of_decide_eq_true h.1, fun c hc => of_decide_eq_true (List.all_eq_true.mp h.2 c hc)⟩
def badName (x : Str) : Bool := (x == ("__debug__" : Str)) || (x == ("__classdict__" : Str)) || (x == ("__name__" : Str))
def cName (c : SC) (x : Str) : Option E :=
  if badName x = true then none
  else if visB c.sc x = true then (if c.hn = some x then none else (ixOf c.N x).map .loc)
  else if glB c.sc x = true then (match c.G.lookup x with
    | some (.con d) => some (.con d)
    | _ => none)
  else none
def cConst : Const → Option E
  | .none => some (.con .non)
  | .bool b => some (.con (.bl b))
  | .int i => some (.con (.int i))
  | .str s => if okSb s.cps.toList = true then some (.con (.str s.cps.toList)) else none
  | _ => none
def cBOp : Operator → Option BOp
  | .Add => some .add
  | .Sub => some .sub
  | .Mult => some .mul
  | .FloorDiv => some .fdiv
  | .Mod => some .mod
  | .Pow => some .pow
  | .LShift => some .shl
  | .RShift => some .shr
  | .BitAnd => some .band
  | .BitOr => some .bor
  | .BitXor => some .bxor
  | _ => none
/-- a comparison: b the right side -/
def cCOp (o : CmpOp) (b : Expr) : Option COp :=
  match o, b with
  | .Is, .Constant .none _ _ => some .isNone
  | .IsNot, .Constant .none _ _ => some .notNone
  | _, .Set _ _ _ => none
  | .Eq, _ => some .eq
  | .NotEq, _ => some .ne
  | .Lt, _ => some .lt
  | .LtE, _ => some .le
  | .Gt, _ => some .gt
  | .GtE, _ => some .ge
  | .In, _ => some .in_
  | .NotIn, _ => some .notIn
  | _, _ => none
def isStar : Expr → Bool
  | .Starred _ _ => true
  | _ => false
def isSlice : Expr → Bool
  | .Slice _ _ _ _ => true
  | _ => false
/-- not a call without arguments (as super() is) -/
def isCall0 : Expr → Bool
  | .Call (.Name _ _) [] [] _ => true
  | _ => false
def cTy (x : Str) : Option Ty :=
  if x = ("int" : Str) then some .int
  else if x = ("str" : Str) then some .str
  else if x = ("bool" : Str) then some .bool
  else if x = ("tuple" : Str) then some .tuple
  else if x = ("list" : Str) then some .list
  else if x = ("dict" : Str) then some .dict
  else none
def cBF (x : Str) (n : Nat) : Option BF :=
  if x = ("len" : Str) then some .len
  else if x = ("abs" : Str) then some .abs
  else if x = ("min" : Str) ∧ n = 2 then some .min2
  else if x = ("max" : Str) ∧ n = 2 then some .max2
  else if x = ("int" : Str) ∧ n = 1 then some .int1
  else if x = ("list" : Str) ∧ n = 1 then some .list1
  else if x = ("tuple" : Str) ∧ n = 1 then some .tuple1
  else none
def cMF (x : Str) : Option MF :=
  if x = ("append" : Str) then some .append
  else if x = ("upper" : Str) then some .upper
  else none
/-- a built-in's name at hand -/
def bltB (c : SC) (x : Str) : Bool := glB c.sc x && !badName x && (match c.G.lookup x with
  | some .blt => true
  | _ => false)
def mapEL (f : Expr → Option E) : List Expr → Option EL
  | [] => some .nil
  | e :: es => if isStar e = true then none else match f e, mapEL f es with
    | some x, some xs => some (.cons x xs)
    | _, _ => none
/-- types as isinstance asks for them -/
def cTys (c : SC) : Expr → Option (List Ty)
  | .Name x _ => if bltB c x = true then (cTy x).map fun t => [t] else none
  | _ => none
def boolEs (mk : E → E → E) (f : Expr → Option E) : List Expr → Option E
  | [] => none
  | [e] => f e
  | e :: es => match f e, boolEs mk f es with
    | some a, some b => some (mk a b)
    | _, _ => none
/-- the place of each parameter among the keywords -/
def kwPerm (ks : List Str) : List Str → Option (List Nat)
  | [] => some []
  | p :: ps => match ixOf ks p, kwPerm ks ps with
    | some i, some r => some (i :: r)
    | _, _ => none
def kwNames (kws : List Keyword) : List Str := kws.filterMap (·.arg)
def kwOk (ps : List Str) (n : Nat) (kws : List Keyword) : Bool :=
  kws.all (·.arg.isSome) && decide (n + (kwNames kws).length = ps.length) && decide ((ps.take n ++ kwNames kws).Nodup) && (kwNames kws).all (fun k => decide (k ∈ ps))
/-- a written dict's name -/
def dicB (c : SC) : Expr → Option (List (List Nat × D))
  | .Name x _ => if glB c.sc x = true ∧ badName x = false then (match c.G.lookup x with
    | some (.dic kvs) => some kvs
    | _ => none) else none
  | _ => none
def cE : Nat → SC → Expr → Option E
  | 0, _, _ => none
  | n + 1, c, e => match e with
    | .Name x _ => cName c x
    | .Constant k _ _ => cConst k
    | .BinOp a op b _ => match cBOp op, cE n c a, cE n c b with
      | some o, some x, some y => some (.bin o x y)
      | _, _, _ => none
    | .UnaryOp .USub a _ => (cE n c a).map .neg
    | .UnaryOp .Not a _ => (cE n c a).map .not
    | .BoolOp .And es _ => boolEs .and (cE n c) es
    | .BoolOp .Or es _ => boolEs .or (cE n c) es
    | .IfExp t a b _ => match cE n c t, cE n c a, cE n c b with
      | some x, some y, some z => some (.ite x y z)
      | _, _, _ => none
    | .Compare a [o] [b] _ => match cCOp o b, cE n c a, cE n c b with
      | some o, some x, some y => some (.cmp o x y)
      | _, _, _ => none
    | .Compare a [o1, o2] [b, d] _ => match cCOp o1 b, cCOp o2 d, cE n c a, cE n c b, cE n c d with
      | some o1, some o2, some x, some y, some z => if o1 ≠ .isNone ∧ o1 ≠ .notNone ∧ o2 ≠ .isNone ∧ o2 ≠ .notNone then some (.chain o1 o2 x y z) else none
      | _, _, _, _, _ => none
    | .Call (.Name f _) es [] _ =>
      if c.hot = true then (if f = ("isinstance" : Str) ∧ bltB c f = true then (match es with
        | [.Name e _, .Name k _] => if c.hn = some e ∧ visB c.sc e = true ∧ badName e = false ∧ glB c.sc k = true ∧ badName k = false then (match c.G.lookup k with
          | some (.exc j _) => some (.xis j)
          | _ => none) else none
        | _ => none) else none)
      else if f = ("isinstance" : Str) then (if bltB c f = true then (match es with
        | [a, t] => match cE n c a, cTys c t with
          | some x, some ts => if isStar a = true then none else some (.isi x ts)
          | _, _ => none
        | _ => none) else none)
      else match mapEL (cE n c) es with
        | some xs => if glB c.sc f = true ∧ badName f = false then (match c.G.lookup f with
          | some (.fn i ps) => if es.length = ps.length then some (.call i xs) else none
          | some .blt => match es with
            | [] => none
            | _ :: _ => (cBF f es.length).map fun b => .blt b xs
          | _ => none) else none
        | none => none
    | .Call (.Name f _) es (k :: ks) _ => if c.hot = true then none else if glB c.sc f = true ∧ badName f = false then (match c.G.lookup f with
      | some (.fn i ps) => if kwOk ps es.length (k :: ks) = true then (match mapEL (cE n c) es, mapEL (cE n c) ((k :: ks).map (·.value)), kwPerm (kwNames (k :: ks)) (ps.drop es.length) with
        | some xs, some ys, some pm => some (.kcall i pm xs ys)
        | _, _, _ => none) else none
      | _ => none) else none
    | .Call (.Attribute o m ap) es [] cp => if c.hot = true ∨ isCall0 o = true then none else match cMF m, cE n c o, mapEL (cE n c) es with
      | some f, some x, some xs => if (ap.endLine == cp.line) = true ∧ es.length < 29 then some (.mth f x xs) else none
      | _, _, _ => none
    | .Tuple es _ _ => (mapEL (cE n c) es).map .tup
    | .List es _ => (mapEL (cE n c) es).map .lst
    | .Dict [] [] _ => some .emp
    | .Subscript a (.Slice none none none _) _ => (cE n c a).map fun x => .slc x false false (.con .non) (.con .non)
    | .Subscript a (.Slice (some l) none none _) _ => match cE n c a, cE n c l with
      | some x, some y => some (.slc x true false y (.con .non))
      | _, _ => none
    | .Subscript a (.Slice none (some h) none _) _ => match cE n c a, cE n c h with
      | some x, some z => some (.slc x false true (.con .non) z)
      | _, _ => none
    | .Subscript a (.Slice (some l) (some h) none _) _ => match cE n c a, cE n c l, cE n c h with
      | some x, some y, some z => some (.slc x true true y z)
      | _, _, _ => none
    | .Subscript a b _ => if isSlice b = true then none else match dicB c a with
      | some kvs => (cE n c b).map (.kix kvs)
      | none => match cE n c a, cE n c b with
        | some x, some y => some (.ix x y)
        | _, _ => none
    | _ => none
end MP

end
section
set_option Elab.async false
set_option linter.all false
set_option maxRecDepth 100000
set_option maxHeartbeats 1000000
/-! MP: an expression's reading by the evaluator; one lemma a node. -/
namespace MP
open PySem L2
open PyProof.Rows hiding St
/-- the exception at hand in an except suite: its name's slot, where it stands, its class, its own dict -/
abbrev HX := Option (Option Nat × Addr × Value × Option Addr)
def HXok (Z : Zx) (H : Hp) (ρ : Nat → Addr) (n : Nat) (x : Option Xn) (hx : HX) (σ : St) : Prop :=
  match x, hx with
  | none, none => True
  | some x, some (i, a, cls, dd) => XDen Z H ρ n x cls dd ∧ ∀ j, i = some j → σ[j]? = some (some (.ref a))
  | _, _ => False
structure Sst (Z : Zx) (hx : HX) (H : Hp) (ρ : Nat → Addr) (lo : Lo) (hp : HP) (σ : St) : Prop where
  rl : RL Z H ρ hp.length lo.v σ
  rh : RH Z H ρ hp
  hx : HXok Z H ρ hp.length lo.x hx σ
theorem Sst.step {Z : Zx} {hx : HX} {H H' : Hp} {ρ ρ' : Nat → Addr} {lo : Lo} {hp hp' : HP} {σ : St} (s : Sst Z hx H ρ lo hp σ) (t : Step Z hp.length ρ H ρ' hp' H') : Sst Z hx H' ρ' lo hp' σ := by
  refine ⟨t.rl s.rl, t.rh, ?_⟩
  have h := s.hx
  unfold HXok at h ⊢
  split at h
  · trivial
  · exact ⟨h.1.mono t.ext t.agr t.le, h.2⟩
  · exact h
def tI (Z : Zx) (W : WX) (hx : HX) (m : Lo → HP → Res D) : TE := fun σ H Q => ∃ ρ lo hp, Sst Z hx H ρ lo hp σ ∧
  Post Z W σ hp.length ρ H (m lo hp) fun d ρ' hp' H' => ∀ v, Den Z H' ρ' hp'.length d v → Q v H'
def tTI (Z : Zx) (W : WX) (hx : HX) (m : Lo → HP → Res Bool) : TT := fun σ H Q => ∃ ρ lo hp, Sst Z hx H ρ lo hp σ ∧
  Post Z W σ hp.length ρ H (m lo hp) fun b ρ' hp' H' => Q b H'
def tAI (Z : Zx) (W : WX) (hx : HX) (m : Lo → HP → Res (List D)) : TA := fun σ H Q => ∃ ρ lo hp, Sst Z hx H ρ lo hp σ ∧
  Post Z W σ hp.length ρ H (m lo hp) fun ds ρ' hp' H' => ∀ vs, DenL Z H' ρ' hp'.length ds vs → Q vs H'
/-- truth of a result -/
def tru (m : Lo → HP → Res D) : Lo → HP → Res Bool := fun lo hp => (m lo hp).bind fun x h => lift (truthy h x) h
section
variable {Z : Zx} {X : Cx} {W : WX} {hx : HX} {a b e : Expr} {ma mb mc : Lo → HP → Res D} {pos : Pos}
/-- one value, then an end -/
theorem tI1 {σ : St} {H : Hp} {Q : VK} {f : D → Lo → HP → Res D} (h : tI Z W hx (fun lo hp => (ma lo hp).bind fun x hp => f x lo hp) σ H Q) :
    tI Z W hx ma σ H fun x H1 => ∃ ρ lo hp d, Sst Z hx H1 ρ lo hp σ ∧ Den Z H1 ρ hp.length d x ∧ Post Z W σ hp.length ρ H1 (f d lo hp) fun d ρ' hp' H' => ∀ v, Den Z H' ρ' hp'.length d v → Q v H' := by
  obtain ⟨ρ, lo, hp, s, h⟩ := h
  refine ⟨ρ, lo, hp, s, (Post.bind h).imp fun d ρ' hp' H' st q v hv => ⟨ρ', lo, hp', d, s.step st, hv, q⟩⟩
/-- two values, then an operation -/
theorem tI2 {σ : St} {H : Hp} {Q : VK} {f : D → D → HP → Res D} (h : tI Z W hx (fun lo hp => (ma lo hp).bind fun x hp => (mb lo hp).bind fun y hp => f x y hp) σ H Q) :
    tI Z W hx ma σ H fun x H1 => tI Z W hx mb σ H1 fun y H2 => r2 Z f x y H2 Q := by
  obtain ⟨ρ, lo, hp, s, h⟩ := h
  refine ⟨ρ, lo, hp, s, (Post.bind h).imp fun d ρ' hp' H' st q v hv => ⟨ρ', lo, hp', s.step st, ?_⟩⟩
  refine (Post.bind q).imp fun d2 ρ2 hp2 H2 st2 q2 u hu => ⟨W, σ, ρ2, hp2, d, d2, st2.rh, st2.den hv, hu, q2⟩
theorem n_loc (hN : X.N = N) {x : Str} {i : Nat} (hi : N[i]? = some x) (hv : Vis X.env.scope x) (h1 : (x == ("__debug__" : Str)) = false) (h2 : (x == ("__classdict__" : Str)) = false) {m : Lo → HP → Res D}
    (hm : ∀ lo hp, m lo hp = match lo.v[i]? with
      | some (some d) => .ok d hp
      | _ => .bad) : PE X (.Name x pos) (tI Z W hx m) := by
  refine PE.weak (pe_var (i := i) (by rw [hN]; exact hi) hv h1 h2) fun σ H Q q => ?_
  obtain ⟨ρ, lo, hp, s, q⟩ := q
  rw [hm] at q
  split at q
  · rename_i d e
    obtain ⟨v, e1, e2⟩ := s.rl.val i d e
    exact ⟨v, e1, q.at s.rh v e2⟩
  · exact q.elim
/-- a value that is the same in every heap -/
theorem n_con {d : D} {v : V} (h : PE X e (tC v)) (hd : ∀ H ρ n, Den Z H ρ n d v) {m : Lo → HP → Res D} (hm : ∀ lo hp, m lo hp = .ok d hp) : PE X e (tI Z W hx m) := by
  refine PE.weak h fun σ H Q q => ?_
  obtain ⟨ρ, lo, hp, s, q⟩ := q
  rw [hm] at q
  exact q.at s.rh v (hd _ _ _)
theorem n_bin (hK : X.K = Z.K) (op : BOp) (ha : PE X a (tI Z W hx ma)) (hb : PE X b (tI Z W hx mb)) {o : Operator} (ho : o = toOp op) :
    PE X (.BinOp a o b pos) (tI Z W hx fun lo hp => (ma lo hp).bind fun x hp => (mb lo hp).bind fun y hp => opB op x y hp) := by
  subst ho
  exact PE.weak (pe_op (opB_ok hK op) ha hb) fun σ H Q q => tI2 q
theorem n_neg (ha : PE X a (tI Z W hx ma)) : PE X (.UnaryOp .USub a pos) (tI Z W hx fun lo hp => (ma lo hp).bind fun x hp => match x with
    | .int i => .ok (.int (-i)) hp
    | _ => .bad) := by
  refine PE.weak (pe_un un_neg ha) fun σ H Q q => ?_
  obtain ⟨ρ, lo, hp, s, q⟩ := tI1 (f := fun x _ hp => match x with
    | .int i => .ok (.int (-i)) hp
    | _ => .bad) q
  refine ⟨ρ, lo, hp, s, q.imp fun d ρ' hp' H' st q v hv => ?_⟩
  obtain ⟨ρ2, lo2, hp2, d2, s2, h2, q2⟩ := q v hv
  cases d2 with
  | int i =>
    rw [den_int] at h2
    exact ⟨i, h2, q2.at s2.rh _ (den_int.mpr rfl)⟩
  | _ => exact q2.elim
/-- the comparison's answer -/
theorem r2_C {op : COp} {x y : V} {H : Hp} {Q : VK} (h : r2 Z (fun x y hp => (lift (opC op x y hp) hp).bind fun r hp => .ok (.bl r) hp) x y H Q) : rC Z op x y H Q := by
  obtain ⟨W, σ, ρ, hp, dx, dy, r, h1, h2, q⟩ := h
  obtain ⟨k, e, q⟩ := Post.lift_inv q
  exact ⟨ρ, hp, dx, dy, k, r, h1, h2, e, q.at r _ (den_bl.mpr rfl)⟩
theorem n_cmp (hK : X.K = Z.K) (hu : X.A.units + 65 < cLine) (op : COp) (hn : op ≠ .isNone) (hn' : op ≠ .notNone) (ha : PE X a (tI Z W hx ma)) (hb : PE X b (tI Z W hx mb)) {o : CmpOp} (ho : o = toCmp op) (hm : behindInMarks o b = false) :
    PE X (.Compare a [o] [b] pos) (tI Z W hx fun lo hp => (ma lo hp).bind fun x hp => (mb lo hp).bind fun y hp => (lift (opC op x y hp) hp).bind fun r hp => .ok (.bl r) hp) := by
  subst ho
  refine PE.weak (pe_cmpR (opC_ok hK hu op hn hn') ha hb hm) fun σ H Q q => ?_
  obtain ⟨ρ, lo, hp, s, q⟩ := tI2 q
  refine ⟨ρ, lo, hp, s, q.imp fun d ρ' hp' H' st q v hv => ?_⟩
  obtain ⟨ρ2, lo2, hp2, s2, q2⟩ := q v hv
  exact ⟨ρ2, lo2, hp2, s2, q2.imp fun d2 ρ3 hp3 H3 st3 q3 u hu => r2_C (q3 u hu)⟩
theorem den_isN {d : D} {x : V} {H : Hp} {ρ : Nat → Addr} {n : Nat} (h : Den Z H ρ n d x) : decide (d = .non) = decide (x = .non) := by
  cases d with
  | non =>
    rw [den_non] at h
    subst h
    rfl
  | bl _ =>
    rw [den_bl] at h
    subst h
    rfl
  | int _ =>
    rw [den_int] at h
    subst h
    rfl
  | str _ =>
    rw [den_str] at h
    obtain ⟨h, _⟩ := h
    subst h
    rfl
  | tup _ =>
    rw [den_tup] at h
    obtain ⟨_, _, h, _⟩ := h
    subst h
    rfl
  | ref _ =>
    rw [den_ref] at h
    obtain ⟨_, h⟩ := h
    subst h
    rfl
  | kd _ =>
    rw [den_kd] at h
    subst h
    rfl
/-- is None, is not None -/
theorem n_isN (neg : Bool) (ha : PE X a (tI Z W hx ma)) {j : Nat} {p2 : Pos} {mb : Lo → HP → Res D} (hmb : ∀ lo hp, mb lo hp = .ok .non hp) :
    PE X (.Compare a [if neg then .IsNot else .Is] [.Constant .none j p2] pos) (tI Z W hx fun lo hp => (ma lo hp).bind fun x hp => (mb lo hp).bind fun y hp => (lift (opC (if neg then .notNone else .isNone) x y hp) hp).bind fun r hp => .ok (.bl r) hp) := by
  have inner : ∀ σ H Q, tI Z W hx (fun lo hp => (ma lo hp).bind fun x hp => (mb lo hp).bind fun y hp => (lift (opC (if neg then .notNone else .isNone) x y hp) hp).bind fun r hp => .ok (.bl r) hp) σ H Q →
      tI Z W hx ma σ H fun x H1 => Q (.bl (if neg then !decide (x = .non) else decide (x = .non))) H1 := fun σ H Q q => by
    obtain ⟨ρ, lo, hp, s, q⟩ := tI1 (f := fun x lo hp => (mb lo hp).bind fun y hp => (lift (opC (if neg then .notNone else .isNone) x y hp) hp).bind fun r hp => .ok (.bl r) hp) q
    refine ⟨ρ, lo, hp, s, q.imp fun d ρ' hp' H' st q v hv => ?_⟩
    obtain ⟨ρ2, lo2, hp2, d2, s2, h2, q2⟩ := q v hv
    rw [hmb] at q2
    obtain ⟨k, e, q2⟩ := Post.lift_inv q2
    have q2 := q2.at s2.rh _ (den_bl.mpr rfl)
    cases neg with
    | true =>
      cases e
      rw [show (decide (d2 ≠ .non)) = !decide (d2 = .non) by simp, den_isN h2] at q2
      exact q2
    | false =>
      cases e
      rw [den_isN h2] at q2
      exact q2
  cases neg with
  | true => exact PE.weak (pe_cmp (pc_notN ha) rfl) inner
  | false => exact PE.weak (pe_cmp (pc_isN ha) rfl) inner
/-- truth by the value -/
def tTru (Z : Zx) (ta : TE) : TT := fun σ H Q => ta σ H fun x H1 => rTru Z x H1 Q
theorem pt_g (hK : X.K = Z.K) {ta : TE} (ha : PE X a ta) (he : ∀ whole, isTrue a X.env whole = (do let v ← whole; standAt a.pos; holding [v] (PySem.truthy v))) : PT X a (tTru Z ta) := by
  refine ⟨fun pins s σ H Q I h => ?_⟩
  exact isTrue_plain (thn (ha.run pins s σ H _ I h) fun v s1 ⟨x, H1, I1, r1, q1⟩ => tru_g hK pins s1 σ H1 x v Q I1 r1 q1) (he _)
theorem tTru_of {σ : St} {H : Hp} {Q : Bool → Hp → Prop} (h : tTI Z W hx (tru ma) σ H Q) : tTru Z (tI Z W hx ma) σ H Q := by
  obtain ⟨ρ, lo, hp, s, h⟩ := h
  refine ⟨ρ, lo, hp, s, (Post.bind h).imp fun d ρ' hp' H' st q v hv => ?_⟩
  cases e : truthy hp' d with
  | none =>
    rw [e] at q
    exact q.elim
  | some k =>
    rw [e] at q
    exact ⟨ρ', hp', d, k, st.rh, hv, e, q.at st.rh⟩
theorem n_test (hK : X.K = Z.K) (ha : PE X a (tI Z W hx ma)) (he : ∀ whole, isTrue a X.env whole = (do let v ← whole; standAt a.pos; holding [v] (PySem.truthy v))) : PT X a (tTI Z W hx (tru ma)) :=
  PT.weak (pt_g hK ha he) fun _ _ _ q => tTru_of q
theorem bind_assoc {α β γ : Type} (r : Res α) (f : α → HP → Res β) (g : β → HP → Res γ) : (r.bind f).bind g = r.bind fun a h => (f a h).bind g := by
  cases r <;> rfl
/-- a comparison as a test -/
theorem n_cmpT (hK : X.K = Z.K) (hu : X.A.units + 65 < cLine) (op : COp) (hn : op ≠ .isNone) (hn' : op ≠ .notNone) (ha : PE X a (tI Z W hx ma)) (hb : PE X b (tI Z W hx mb)) {o : CmpOp} (ho : o = toCmp op) (hm : behindInMarks o b = false) :
    PT X (.Compare a [o] [b] pos) (tTI Z W hx (tru fun lo hp => (ma lo hp).bind fun x hp => (mb lo hp).bind fun y hp => (lift (opC op x y hp) hp).bind fun r hp => .ok (.bl r) hp)) := by
  subst ho
  refine PT.weak (pt_cmpR (opC_ok hK hu op hn hn') ha hb hm) fun σ H Q q => ?_
  obtain ⟨ρ, lo, hp, s, q⟩ := q
  simp only [tru, bind_assoc] at q
  refine ⟨ρ, lo, hp, s, (Post.bind q).imp fun d ρ' hp' H' st q v hv => ⟨ρ', lo, hp', s.step st, ?_⟩⟩
  refine (Post.bind q).imp fun d2 ρ2 hp2 H2 st2 q2 u hu => ?_
  obtain ⟨k, e, q2⟩ := Post.lift_inv q2
  exact ⟨ρ2, hp2, d, d2, k, st2.rh, st2.den hv, hu, e, k, rfl, q2.at st2.rh⟩
theorem n_isNT (neg : Bool) (ha : PE X a (tI Z W hx ma)) {j : Nat} {p2 : Pos} {mb : Lo → HP → Res D} (hmb : ∀ lo hp, mb lo hp = .ok .non hp) :
    PT X (.Compare a [if neg then .IsNot else .Is] [.Constant .none j p2] pos) (tTI Z W hx (tru fun lo hp => (ma lo hp).bind fun x hp => (mb lo hp).bind fun y hp => (lift (opC (if neg then .notNone else .isNone) x y hp) hp).bind fun r hp => .ok (.bl r) hp)) := by
  have inner : ∀ σ H (Q : Bool → Hp → Prop), tTI Z W hx (tru fun lo hp => (ma lo hp).bind fun x hp => (mb lo hp).bind fun y hp => (lift (opC (if neg then .notNone else .isNone) x y hp) hp).bind fun r hp => .ok (.bl r) hp) σ H Q →
      tI Z W hx ma σ H fun x H1 => Q (if neg then !decide (x = .non) else decide (x = .non)) H1 := fun σ H Q q => by
    obtain ⟨ρ, lo, hp, s, q⟩ := q
    simp only [tru, bind_assoc] at q
    refine ⟨ρ, lo, hp, s, (Post.bind q).imp fun d ρ' hp' H' st q v hv => ?_⟩
    rw [hmb] at q
    obtain ⟨k, e, q2⟩ := Post.lift_inv q
    have q2 := q2.at st.rh
    cases neg with
    | true =>
      cases e
      rw [show (decide (d ≠ .non)) = !decide (d = .non) by simp, den_isN hv] at q2
      exact q2
    | false =>
      cases e
      rw [den_isN hv] at q2
      exact q2
  cases neg with
  | true =>
    refine PT.weak (pt_cmp (pc_notN ha) rfl) fun σ H Q q => ?_
    obtain ⟨ρ, lo, hp, s, q⟩ := inner σ H Q q
    exact ⟨ρ, lo, hp, s, q.imp fun d ρ' hp' H' st q v hv => ⟨_, rfl, q v hv⟩⟩
  | false =>
    refine PT.weak (pt_cmp (pc_isN ha) rfl) fun σ H Q q => ?_
    obtain ⟨ρ, lo, hp, s, q⟩ := inner σ H Q q
    exact ⟨ρ, lo, hp, s, q.imp fun d ρ' hp' H' st q v hv => ⟨_, rfl, q v hv⟩⟩
/-! and, or, not -/
def mAnd (ma mb : Lo → HP → Res D) : Lo → HP → Res D := fun lo hp => (ma lo hp).bind fun x h => (lift (truthy h x) h).bind fun r h => if r = true then mb lo h else .ok x h
def mOr (ma mb : Lo → HP → Res D) : Lo → HP → Res D := fun lo hp => (ma lo hp).bind fun x h => (lift (truthy h x) h).bind fun r h => if r = true then .ok x h else mb lo h
def mNot (ma : Lo → HP → Res D) : Lo → HP → Res D := fun lo hp => (ma lo hp).bind fun x h => (lift (truthy h x) h).bind fun r h => .ok (.bl (!r)) h
def mIte (mc ma mb : Lo → HP → Res D) : Lo → HP → Res D := fun lo hp => (mc lo hp).bind fun x h => (lift (truthy h x) h).bind fun r h => if r = true then ma lo h else mb lo h
variable {rest : List Expr}
theorem n_or (hK : X.K = Z.K) (ha : PE X a (tI Z W hx ma)) (hb : PE X (.BoolOp .Or (b :: rest) pos) (tI Z W hx mb)) : PE X (.BoolOp .Or (a :: b :: rest) pos) (tI Z W hx (mOr ma mb)) := by
  refine ⟨fun pins s σ H Q I q => ?_⟩
  obtain ⟨ρ, lo, hp, st, q⟩ := q
  refine BoolOp_or (thn (ha.run pins s σ H _ I ⟨ρ, lo, hp, st, (Post.bind q).imp fun d ρ' hp' H' t q v hv => (show ∃ k, rTru Z v H' (fun c H2 => c = k ∧ H2 = H') ∧ if k = true then Q v H' else tI Z W hx mb σ H' Q from ?_)⟩) fun v s1 ⟨x, H1, I1, r1, k, tk, q1⟩ => ?_)
  · obtain ⟨k, e, q⟩ := Post.lift_inv q
    refine ⟨k, ⟨ρ', hp', d, k, t.rh, hv, e, rfl, rfl⟩, ?_⟩
    cases k with
    | true => exact q.at t.rh v hv
    | false => exact ⟨ρ', lo, hp', st.step t, q⟩
  · refine thn (tru_g hK pins s1 σ H1 x v _ I1 r1 tk) fun c s2 hc => ?_
    obtain ⟨H2, I2, e1, e2⟩ := hc
    rw [e2] at I2
    rw [← e1] at q1
    cases c with
    | true => exact ⟨x, H1, I2, r1, q1⟩
    | false => exact hb.run pins s2 σ H1 Q I2 q1
theorem n_and (hK : X.K = Z.K) (ha : PE X a (tI Z W hx ma)) (hb : PE X (.BoolOp .And (b :: rest) pos) (tI Z W hx mb)) : PE X (.BoolOp .And (a :: b :: rest) pos) (tI Z W hx (mAnd ma mb)) := by
  refine ⟨fun pins s σ H Q I q => ?_⟩
  obtain ⟨ρ, lo, hp, st, q⟩ := q
  refine BoolOp_and (thn (ha.run pins s σ H _ I ⟨ρ, lo, hp, st, (Post.bind q).imp fun d ρ' hp' H' t q v hv => (show ∃ k, rTru Z v H' (fun c H2 => c = k ∧ H2 = H') ∧ if k = true then tI Z W hx mb σ H' Q else Q v H' from ?_)⟩) fun v s1 ⟨x, H1, I1, r1, k, tk, q1⟩ => ?_)
  · obtain ⟨k, e, q⟩ := Post.lift_inv q
    refine ⟨k, ⟨ρ', hp', d, k, t.rh, hv, e, rfl, rfl⟩, ?_⟩
    cases k with
    | true => exact ⟨ρ', lo, hp', st.step t, q⟩
    | false => exact q.at t.rh v hv
  · refine thn (tru_g hK pins s1 σ H1 x v _ I1 r1 tk) fun c s2 hc => ?_
    obtain ⟨H2, I2, e1, e2⟩ := hc
    rw [e2] at I2
    rw [← e1] at q1
    cases c with
    | true => exact hb.run pins s2 σ H1 Q I2 q1
    | false => exact ⟨x, H1, I2, r1, q1⟩
theorem n_not (ha : PT X a (tTI Z W hx (tru ma))) (hK : X.K = Z.K) (hea : PE X a (tI Z W hx ma)) : PE X (.UnaryOp .Not a pos) (tI Z W hx (mNot ma)) := by
  refine ⟨fun pins s σ H Q I q => ?_⟩
  obtain ⟨ρ, lo, hp, st, q⟩ := q
  refine UnaryOp_ (thn (hea.run pins s σ H _ I ⟨ρ, lo, hp, st, (Post.bind q).imp fun d ρ' hp' H' t q v hv => (show rTru Z v H' (fun c H2 => Q (.bl (!c)) H2) from ?_)⟩) fun v s1 ⟨x, H1, I1, r1, q1⟩ => ?_)
  · obtain ⟨k, e, q⟩ := Post.lift_inv q
    exact ⟨ρ', hp', d, k, t.rh, hv, e, q.at t.rh _ (den_bl.mpr rfl)⟩
  · exact not_of (thn (tru_g hK pins s1 σ H1 x v _ I1 r1 q1) fun c s2 ⟨H2, I2, q2⟩ => ⟨.bl (!c), H2, I2, rfl, q2⟩)
theorem tru_not : tru (mNot ma) = fun lo hp => (tru ma lo hp).bind fun k h => .ok (!k) h := by
  funext lo hp
  simp only [tru, mNot, bind_assoc]
  congr 1
theorem n_notT (ha : PT X a (tTI Z W hx (tru ma))) : PT X (.UnaryOp .Not a pos) (tTI Z W hx (tru (mNot ma))) := by
  rw [tru_not]
  refine PT.weak (pt_not ha) fun σ H Q q => ?_
  obtain ⟨ρ, lo, hp, st, q⟩ := q
  exact ⟨ρ, lo, hp, st, (Post.bind q).imp fun d ρ' hp' H' t q => q.at t.rh⟩
theorem tru_and : tru (mAnd ma mb) = fun lo hp => (tru ma lo hp).bind fun k h => if k = true then tru mb lo h else .ok false h := by
  funext lo hp
  simp only [tru, mAnd, bind_assoc]
  congr 1
  funext x h
  cases e : truthy h x with
  | none => rfl
  | some k =>
    cases k with
    | true => rfl
    | false =>
      simp [e]
theorem tru_or : tru (mOr ma mb) = fun lo hp => (tru ma lo hp).bind fun k h => if k = true then .ok true h else tru mb lo h := by
  funext lo hp
  simp only [tru, mOr, bind_assoc]
  congr 1
  funext x h
  cases e : truthy h x with
  | none => rfl
  | some k =>
    cases k with
    | false => rfl
    | true =>
      simp [e]
theorem n_andW (ha : PT X a (tTI Z W hx (tru ma))) (hb : PW X (.BoolOp .And (b :: rest) pos) (tTI Z W hx (tru mb))) : PW X (.BoolOp .And (a :: b :: rest) pos) (tTI Z W hx (tru (mAnd ma mb))) := by
  rw [tru_and]
  refine PW.weak (pw_and ha hb) fun σ H Q q => ?_
  obtain ⟨ρ, lo, hp, st, q⟩ := q
  refine ⟨ρ, lo, hp, st, (Post.bind q).imp fun k ρ' hp' H' t q => ?_⟩
  cases k with
  | true => exact ⟨ρ', lo, hp', st.step t, q⟩
  | false => exact q.at t.rh
theorem n_orW (ha : PT X a (tTI Z W hx (tru ma))) (hb : PW X (.BoolOp .Or (b :: rest) pos) (tTI Z W hx (tru mb))) : PW X (.BoolOp .Or (a :: b :: rest) pos) (tTI Z W hx (tru (mOr ma mb))) := by
  rw [tru_or]
  refine PW.weak (pw_or ha hb) fun σ H Q q => ?_
  obtain ⟨ρ, lo, hp, st, q⟩ := q
  refine ⟨ρ, lo, hp, st, (Post.bind q).imp fun k ρ' hp' H' t q => ?_⟩
  cases k with
  | false => exact ⟨ρ', lo, hp', st.step t, q⟩
  | true => exact q.at t.rh
/-! a if t else b -/
theorem mIte_tru : mIte mc ma mb = fun lo hp => (tru mc lo hp).bind fun k h => if k = true then ma lo h else mb lo h := by
  funext lo hp
  simp only [tru, mIte, bind_assoc]
theorem n_ite {c : Expr} (hc : PT X c (tTI Z W hx (tru mc))) (ha : PE X a (tI Z W hx ma)) (hb : PE X b (tI Z W hx mb)) : PE X (.IfExp c a b pos) (tI Z W hx (mIte mc ma mb)) := by
  rw [mIte_tru]
  refine PE.weak (pe_ifExp hc ha hb) fun σ H Q q => ?_
  obtain ⟨ρ, lo, hp, st, q⟩ := q
  refine ⟨ρ, lo, hp, st, (Post.bind q).imp fun k ρ' hp' H' t q => ?_⟩
  cases k with
  | true => exact ⟨ρ', lo, hp', st.step t, q⟩
  | false => exact ⟨ρ', lo, hp', st.step t, q⟩
theorem pt_ifExp {c : Expr} {tc ta tb : TT} (hc : PT X c tc) (ha : PT X a ta) (hb : PT X b tb) : PT X (.IfExp c a b pos) (fun σ H Q => tc σ H fun k H1 => if k = true then ta σ H1 Q else tb σ H1 Q) := by
  refine ⟨fun pins s σ H Q I h => ?_⟩
  rw [PySem.arm_isTrue_IfExp]
  refine wpAny_bind (thn (hc.run pins s σ H _ I h) fun k s1 ⟨H1, I1, q1⟩ => ?_)
  cases k with
  | true => exact ha.run pins s1 σ H1 Q I1 q1
  | false => exact hb.run pins s1 σ H1 Q I1 q1
theorem tru_ite : tru (mIte mc ma mb) = fun lo hp => (tru mc lo hp).bind fun k h => if k = true then tru ma lo h else tru mb lo h := by
  funext lo hp
  rw [mIte_tru]
  simp only [tru, bind_assoc]
  congr 1
  funext x h
  congr 1
  funext k h
  cases k <;> rfl
theorem n_iteT {c : Expr} (hc : PT X c (tTI Z W hx (tru mc))) (ha : PT X a (tTI Z W hx (tru ma))) (hb : PT X b (tTI Z W hx (tru mb))) : PT X (.IfExp c a b pos) (tTI Z W hx (tru (mIte mc ma mb))) := by
  rw [tru_ite]
  refine PT.weak (pt_ifExp hc ha hb) fun σ H Q q => ?_
  obtain ⟨ρ, lo, hp, st, q⟩ := q
  refine ⟨ρ, lo, hp, st, (Post.bind q).imp fun k ρ' hp' H' t q => ?_⟩
  cases k with
  | true => exact ⟨ρ', lo, hp', st.step t, q⟩
  | false => exact ⟨ρ', lo, hp', st.step t, q⟩
end
end MP

end
section
set_option Elab.async false
set_option linter.all false
set_option maxRecDepth 100000
set_option maxHeartbeats 1000000
/-! MP: displays, subscripts, calls. -/
namespace MP
open PySem L2
open PyProof.Rows hiding St
section
variable {Z : Zx} {X : Cx} {W : WX} {hx : HX} {a b e : Expr} {es : List Expr} {ma mb mc : Lo → HP → Res D} {ml : Lo → HP → Res (List D)} {pos p : Pos}
/-! arguments -/
theorem star_of (h : isStar e = false) (env : Env) : starEach (e :: es) env = (false, eval e env) :: starEach es env := by
  cases e <;> first | rfl | (cases h)
theorem star_all : ∀ {es : List Expr}, (∀ e ∈ es, isStar e = false) → ∀ (pos : Pos) (env : Env), (backTo pos (starEach es env)).any (·.1) = false
  | [], _, _, _ => rfl
  | e :: es, h, pos, env => by
    rw [star_of (h e List.mem_cons_self)]
    show (false || (backTo pos (starEach es env)).any (·.1)) = false
    rw [star_all (fun e he => h e (List.mem_cons_of_mem _ he))]
    rfl
theorem star_all2 : ∀ {es : List Expr}, (∀ e ∈ es, isStar e = false) → ∀ (pos : Pos) (env : Env), (backTo pos (starEach es env)).all (fun x => !x.1) = true
  | [], _, _, _ => rfl
  | e :: es, h, pos, env => by
    rw [star_of (h e List.mem_cons_self)]
    show (true && (backTo pos (starEach es env)).all (fun x => !x.1)) = true
    rw [star_all2 (fun e he => h e (List.mem_cons_of_mem _ he))]
    rfl
theorem n_nil : PA X [] (tAI Z W hx fun _ hp => .ok [] hp) := by
  refine PA.weak pa_nil fun σ H Q q => ?_
  obtain ⟨ρ, lo, hp, s, q⟩ := q
  exact q.at s.rh _ .nil
theorem n_cons (ha : PE X e (tI Z W hx ma)) (hr : PA X es (tAI Z W hx ml)) (hs : isStar e = false) : PA X (e :: es) (tAI Z W hx fun lo hp => (ma lo hp).bind fun x hp => (ml lo hp).bind fun xs hp => .ok (x :: xs) hp) := by
  refine PA.weak (pa_cons ha hr (star_of hs _)) fun σ H Q q => ?_
  obtain ⟨ρ, lo, hp, s, q⟩ := q
  refine ⟨ρ, lo, hp, s, (Post.bind q).imp fun d ρ' hp' H' t q v hv => ⟨ρ', lo, hp', s.step t, ?_⟩⟩
  exact (Post.bind q).imp fun ds ρ2 hp2 H2 t2 q vs hvs => q.at t2.rh _ (.cons (t2.den hv) hvs)
/-- the arguments, then an end -/
theorem tA1 {σ : St} {H : Hp} {Q : VK} {f : List D → HP → Res D} (h : tI Z W hx (fun lo hp => (ml lo hp).bind fun ds hp => f ds hp) σ H Q) :
    tAI Z W hx ml σ H fun vs H1 => rN Z f vs H1 Q := by
  obtain ⟨ρ, lo, hp, s, h⟩ := h
  exact ⟨ρ, lo, hp, s, (Post.bind h).imp fun d ρ' hp' H' st q v hv => ⟨W, σ, ρ', hp', d, st.rh, hv, q⟩⟩
theorem n_tup {k : Nat} (h : PA X es (tAI Z W hx ml)) : PE X (.Tuple es k pos) (tI Z W hx fun lo hp => (ml lo hp).bind fun ds hp => if ds.length ≤ LIM then .ok (.tup ds) hp else .bad) := by
  refine PE.weak (pe_tup h) fun σ H Q q => ?_
  obtain ⟨ρ, lo, hp, s, q⟩ := tA1 (f := fun ds hp => if ds.length ≤ LIM then .ok (.tup ds) hp else .bad) q
  refine ⟨ρ, lo, hp, s, q.imp fun d ρ' hp' H' t q vs hv => ?_⟩
  obtain ⟨W, σ, ρ2, hp2, ds, r, l, q⟩ := q vs hv
  simp only at q
  split at q
  · rename_i hl
    exact ⟨by rw [← l.length, LIM_eq]; exact hl, fun p hp' => q _ _ (Step.beside r hp') _ (den_newtup hp' l)⟩
  · exact q.elim
theorem n_lst (h : PA X es (tAI Z W hx ml)) : PE X (.List es pos) (tI Z W hx fun lo hp => (ml lo hp).bind fun ds hp => if ds.length ≤ LIM then .ok (.ref hp.length) (hp ++ [.lst ds]) else .bad) := by
  refine PE.weak (pe_lst h) fun σ H Q q => ?_
  obtain ⟨ρ, lo, hp, s, q⟩ := tA1 (f := fun ds hp => if ds.length ≤ LIM then .ok (.ref hp.length) (hp ++ [.lst ds]) else .bad) q
  refine ⟨ρ, lo, hp, s, q.imp fun d ρ' hp' H' t q vs hv => ?_⟩
  obtain ⟨W, σ, ρ2, hp2, ds, r, l, q⟩ := q vs hv
  simp only at q
  split at q
  · rename_i hl
    exact ⟨by rw [← l.length, LIM_eq]; exact hl, fun p hp' => q _ _ (Step.lst r hp' l) _ den_new⟩
  · exact q.elim
theorem n_emp : PE X (.Dict [] [] pos) (tI Z W hx fun _ hp => .ok (.ref hp.length) (hp ++ [.dct []])) := by
  refine PE.weak pe_dnewK fun σ H Q q => ?_
  obtain ⟨ρ, lo, hp, s, q⟩ := q
  exact fun p hp' => q _ _ (Step.new s.rh hp' ⟨rfl, upd_same⟩) _ den_new
theorem plainIx_of (h : isSlice b = false) : PlainIx b := fun o i => by
  cases b <;> first | rfl | (cases h)
theorem n_ix (hK : X.K = Z.K) (ha : PE X a (tI Z W hx ma)) (hb : PE X b (tI Z W hx mb)) (hs : isSlice b = false) :
    PE X (.Subscript a b pos) (tI Z W hx fun lo hp => (ma lo hp).bind fun x hp => (mb lo hp).bind fun y hp => lift (opIx x y hp) hp) :=
  PE.weak (pe_ix (opIx_ok hK) ha hb (plainIx_of hs)) fun σ H Q q => tI2 (f := fun x y hp => lift (opIx x y hp) hp) q
/-! slices -/
def tOI (Z : Zx) (W : WX) (hx : HX) (m : Lo → HP → Res (Option Int)) : TO := fun σ H Q => ∃ ρ lo hp, Sst Z hx H ρ lo hp σ ∧
  Post Z W σ hp.length ρ H (m lo hp) fun o ρ' hp' H' => Q o H'
theorem n_part0 : PO X none (tOI Z W hx fun _ hp => .ok none hp) := ⟨fun pins s σ H Q I q => po_none.run pins s σ H Q I (by
  obtain ⟨ρ, lo, hp, st, q⟩ := q
  exact q.at st.rh)⟩
theorem n_part1 (ha : PE X a (tI Z W hx ma)) : PO X (some a) (tOI Z W hx fun lo hp => (ma lo hp).bind fun y hp => lift (sPart true y) hp) := ⟨fun pins s σ H Q I q => (po_some ha).run pins s σ H Q I (by
  obtain ⟨ρ, lo, hp, st, q⟩ := q
  refine ⟨ρ, lo, hp, st, (Post.bind q).imp fun d ρ' hp' H' t q v hv => ?_⟩
  cases d with
  | int i =>
    rw [den_int] at hv
    exact ⟨i, hv, q.at t.rh⟩
  | _ => exact q.elim)⟩
theorem n_slc (hK : X.K = Z.K) {l u : Option Expr} {m1 m2 : Lo → HP → Res (Option Int)} (ha : PE X a (tI Z W hx ma)) (hl : PO X l (tOI Z W hx m1)) (hu : PO X u (tOI Z W hx m2)) :
    PE X (.Subscript a (.Slice l u none p) pos) (tI Z W hx fun lo hp => (ma lo hp).bind fun x hp => (m1 lo hp).bind fun i hp => (m2 lo hp).bind fun j hp => opSl x i j hp) := by
  refine PE.weak (pe_slice (opSl_ok hK) ha hl hu) fun σ H Q q => ?_
  obtain ⟨ρ, lo, hp, s, q⟩ := q
  refine ⟨ρ, lo, hp, s, (Post.bind q).imp fun d ρ' hp' H' t q v hv => ⟨ρ', lo, hp', s.step t, ?_⟩⟩
  refine (Post.bind q).imp fun i ρ2 hp2 H2 t2 q => ⟨ρ2, lo, hp2, (s.step t).step t2, ?_⟩
  exact (Post.bind q).imp fun j ρ3 hp3 H3 t3 q => ⟨W, σ, ρ3, hp3, d, t3.rh, t3.den (t2.den hv), q⟩
/-! chains -/
theorem n_chain (hK : X.K = Z.K) (hu : X.A.units + 65 < cLine) {c : Expr} (o1 o2 : COp) (h1 : o1 ≠ .isNone) (h1' : o1 ≠ .notNone) (h2 : o2 ≠ .isNone) (h2' : o2 ≠ .notNone) (ha : PE X a (tI Z W hx ma)) (hb : PE X b (tI Z W hx mb)) (hc : PE X c (tI Z W hx mc))
    (m2 : behindInMarks (toCmp o2) c = false) :
    PE X (.Compare a [toCmp o1, toCmp o2] [b, c] pos) (tI Z W hx fun lo hp => (ma lo hp).bind fun x h => (mb lo h).bind fun y h => (lift (opC o1 x y h) h).bind fun r h =>
      if r = true then (mc lo h).bind fun z h => (lift (opC o2 y z h) h).bind fun r h => .ok (.bl r) h else .ok (.bl false) h) := by
  refine PE.weak (pe_chain (opC_ok hK hu o1 h1 h1') (opC_ok hK hu o2 h2 h2') ha hb hc m2) fun σ H Q q => ?_
  obtain ⟨ρ, lo, hp, s, q⟩ := q
  refine ⟨ρ, lo, hp, s, (Post.bind q).imp fun d ρ' hp' H' t q v hv => ⟨ρ', lo, hp', s.step t, ?_⟩⟩
  refine (Post.bind q).imp fun d2 ρ2 hp2 H2 t2 q u hu2 => ?_
  obtain ⟨k, e, q⟩ := Post.lift_inv q
  refine ⟨ρ2, hp2, d, d2, k, t2.rh, t2.den hv, hu2, e, k, rfl, ?_⟩
  cases k with
  | false => exact q.at t2.rh _ (den_bl.mpr rfl)
  | true =>
    refine ⟨ρ2, lo, hp2, (s.step t).step t2, (Post.bind q).imp fun d3 ρ3 hp3 H3 t3 q w hw => ?_⟩
    obtain ⟨k, e, q⟩ := Post.lift_inv q
    exact ⟨ρ3, hp3, d2, d3, k, t3.rh, t3.den hu2, hw, e, q.at t3.rh _ (den_bl.mpr rfl)⟩

theorem n_chainT (hK : X.K = Z.K) (hu : X.A.units + 65 < cLine) {c : Expr} (o1 o2 : COp) (h1 : o1 ≠ .isNone) (h1' : o1 ≠ .notNone) (h2 : o2 ≠ .isNone) (h2' : o2 ≠ .notNone) (ha : PE X a (tI Z W hx ma)) (hb : PE X b (tI Z W hx mb)) (hc : PE X c (tI Z W hx mc))
    (m2 : behindInMarks (toCmp o2) c = false) :
    PT X (.Compare a [toCmp o1, toCmp o2] [b, c] pos) (tTI Z W hx (tru fun lo hp => (ma lo hp).bind fun x h => (mb lo h).bind fun y h => (lift (opC o1 x y h) h).bind fun r h =>
      if r = true then (mc lo h).bind fun z h => (lift (opC o2 y z h) h).bind fun r h => .ok (.bl r) h else .ok (.bl false) h)) := by
  refine PT.weak (pt_chain (opC_ok hK hu o1 h1 h1') (opC_ok hK hu o2 h2 h2') ha hb hc m2) fun σ H Q q => ?_
  obtain ⟨ρ, lo, hp, s, q⟩ := q
  simp only [tru, bind_assoc] at q
  refine ⟨ρ, lo, hp, s, (Post.bind q).imp fun d ρ' hp' H' t q v hv => ⟨ρ', lo, hp', s.step t, ?_⟩⟩
  refine (Post.bind q).imp fun d2 ρ2 hp2 H2 t2 q u hu2 => ?_
  obtain ⟨k, e, q⟩ := Post.lift_inv q
  refine ⟨ρ2, hp2, d, d2, k, t2.rh, t2.den hv, hu2, e, k, rfl, ?_⟩
  cases k with
  | false => exact ⟨false, rfl, q.at t2.rh⟩
  | true =>
    rw [if_pos rfl, bind_assoc] at q
    refine ⟨ρ2, lo, hp2, (s.step t).step t2, (Post.bind q).imp fun d3 ρ3 hp3 H3 t3 q w hw => ?_⟩
    rw [bind_assoc] at q
    obtain ⟨k, e, q⟩ := Post.lift_inv q
    exact ⟨ρ3, hp3, d2, d3, k, t3.rh, t3.den hu2, hw, e, k, rfl, q.at t3.rh⟩
/-! built-in functions -/
theorem n_blt (hK : X.K = Z.K) (hc : X.calm = true) (f : BF) {x : Str} (hg : Gl X x) (hm : X.mg x = none) (hv : bootBuiltins x = some (bfV f)) (hn : x ≠ "__name__") (hdb : (x == ("__debug__" : Str)) = false) (ha : PA X (e :: es) (tAI Z W hx ml)) (hs : ∀ e' ∈ e :: es, isStar e' = false) :
    PE X (.Call (.Name x p) (e :: es) [] pos) (tI Z W hx fun lo hp => (ml lo hp).bind fun ds hp => evB f ds hp) := by
  have hq := hv
  refine PE.weak (t := tCB (rN Z (evB f)) (tAI Z W hx ml)) ?_ fun σ H Q q => tA1 q
  have he := star_of (es := es) (hs e List.mem_cons_self) X.env
  have hp := star_all (fun e' h => hs e' (List.mem_cons_of_mem _ h)) pos X.env
  cases f with
  | int1 => exact pe_callTy (evB_ok hK hc .int1) hg hm hv ha hn hdb he hp
  | list1 => exact pe_callTy (evB_ok hK hc .list1) hg hm hv ha hn hdb he hp
  | tuple1 => exact pe_callTy (evB_ok hK hc .tuple1) hg hm hv ha hn hdb he hp
  | len => exact pe_callB (evB_ok hK hc .len) hg hm hv ha hn hdb he hp
  | abs => exact pe_callB (evB_ok hK hc .abs) hg hm hv ha hn hdb he hp
  | min2 => exact pe_callB (evB_ok hK hc .min2) hg hm hv ha hn hdb he hp
  | max2 => exact pe_callB (evB_ok hK hc .max2) hg hm hv ha hn hdb he hp
/-! isinstance -/
theorem any_sub {h : HP} {d : D} {a : Ty} (e : dTy h d = some a) (t : Ty) : [t].any (isTy h d) = subTy a t := by
  simp [isTy_sub e]
theorem n_isi (hK : X.K = Z.K) {x y : Str} {t : Ty} {p1 p2 : Pos} (hg : Gl X x) (hm : X.mg x = none) (hv : bootBuiltins x = some (.builtin "isinstance")) (hn : x ≠ "__name__") (hdb : (x == ("__debug__" : Str)) = false)
    (hg2 : Gl X y) (hm2 : X.mg y = none) (hv2 : bootBuiltins y = some (.type (tyN t))) (hn2 : y ≠ "__name__") (hdb2 : (y == ("__debug__" : Str)) = false) (ha : PE X a (tI Z W hx ma)) (hs : isStar a = false) :
    PE X (.Call (.Name x p1) [a, .Name y p2] [] pos) (tI Z W hx fun lo hp => (ma lo hp).bind fun d hp => if (dTy hp d).isSome = true then .ok (.bl ([t].any (isTy hp d))) hp else .bad) := by
  have hb : PE X (.Name y p2) (tC (.ty (tyN t))) := pe_bltn hg2 hm2 hv2 rfl hn2 hdb2
  have hA : PA X [a, .Name y p2] (tCons (tI Z W hx ma) (tCons (tC (.ty (tyN t))) tNil)) := pa_cons ha (pa_cons hb pa_nil rfl) (star_of hs _)
  refine PE.weak (pe_callB call_isi hg hm hv hA hn hdb (star_of hs _) rfl) fun σ H Q q => ?_
  obtain ⟨ρ, lo, hp, s, q⟩ := q
  refine ⟨ρ, lo, hp, s, (Post.bind q).imp fun d ρ' hp' H' st q v hv' => ?_⟩
  cases e : dTy hp' d with
  | none =>
    rw [e] at q
    exact q.elim
  | some u =>
    rw [e, any_sub e] at q
    simp only [Option.isSome_some, if_true] at q
    exact ⟨v, .ty (tyN t), .type (tyN u), .type (tyN t), subTy u t, rfl, .ty _, by rw [hK]; exact dTy_ty st.rh hv' e, kit_ty (kit_subTy u t), q.at st.rh _ (den_bl.mpr rfl)⟩
/-! methods -/
theorem tM1 {σ : St} {H : Hp} {Q : VK} {m : MF} (h : tI Z W hx (fun lo hp => (ma lo hp).bind fun x hp => (ml lo hp).bind fun ds hp => evM m x ds hp) σ H Q) :
    tI Z W hx ma σ H fun x H1 => tAI Z W hx ml σ H1 fun vs H2 => rM Z (evM m) x vs H2 Q := by
  obtain ⟨ρ, lo, hp, s, h⟩ := h
  refine ⟨ρ, lo, hp, s, (Post.bind h).imp fun d ρ' hp' H' st q v hv => ⟨ρ', lo, hp', s.step st, ?_⟩⟩
  exact (Post.bind q).imp fun ds ρ2 hp2 H2 st2 q vs hvs => ⟨W, σ, ρ2, hp2, d, ds, st2.rh, st2.den hv, hvs, q⟩
/-- calls of own defs -/
def spOf (Z : Zx) (np : Nat) (m : List D → HP → Res D) : Sp := fun vs H Q E => vs.length = np ∧ ∃ ρ hp ds, RH Z H ρ hp ∧ DenL Z H ρ hp.length ds vs ∧
  Post Z (fun c d _ H => E c d H) [] hp.length ρ H (m ds hp) fun d ρ' hp' H' => ∀ v, Den Z H' ρ' hp'.length d v → Q v H'
theorem Post.sig {W W' : WX} {σ σ' : St} {n : Nat} {ρ : Nat → Addr} {H : Hp} {α : Type} {r : Res α} {Q : α → (Nat → Addr) → HP → Hp → Prop} (h : Post Z W σ n ρ H r Q) (i : ∀ c d H, W c d σ H → W' c d σ' H) : Post Z W' σ' n ρ H r Q := by
  cases r with
  | bad => exact h
  | ok d hp => exact h
  | ex x hp => exact fun ρ' H' c dd s xd => i _ _ _ (h ρ' H' c dd s xd)
variable {k : Nat} {f : Addr} {fd : FuncData} {ps : List Str}
theorem n_call {m : List D → HP → Res D} (F : FnOk X.prog X.w X.K X.mg X.base (L2.CX X.prog X.w) k f fd ps (spOf Z ps.length m)) (hr : Room k X.A) {x : Str} (hg : Gl X x) (hm : X.mg x = some (.ref f)) (hk : PySem.W.keepIn X.K (.ref f) = true) (hb : Binds X.K fd ps [])
    (tk : Takes X W) (ha : PA X (e :: es) (tAI Z W hx ml)) (hl : ∀ ds hp, ds.length ≠ ps.length → m ds hp = .bad) (hdb : (x == ("__debug__" : Str)) = false) (hs : ∀ e' ∈ e :: es, isStar e' = false) :
    PE X (.Call (.Name x p) (e :: es) [] pos) (tI Z W hx fun lo hp => (ml lo hp).bind fun ds hp => m ds hp) := by
  refine PE.weak (pe_callS (E := WE W) F hr hg hm hk hb (passAt tk) ha hdb (star_of (hs e List.mem_cons_self) _) (star_all (fun e' h => hs e' (List.mem_cons_of_mem _ h)) pos _)) fun σ H Q q => ?_
  obtain ⟨ρ, lo, hp, s, q⟩ := q
  refine ⟨ρ, lo, hp, s, (Post.bind q).imp fun ds ρ' hp' H' t q vs hvs => ?_⟩
  by_cases hd : ds.length = ps.length
  · exact ⟨by rw [← hvs.length]; exact hd, ρ', hp', ds, t.rh, hvs, q.sig fun _ _ _ z => z⟩
  · rw [hl _ _ hd] at q
    exact q.elim
theorem pe_callS0 {sp : Sp} {E : St → XK} (F : FnOk X.prog X.w X.K X.mg X.base (L2.CX X.prog X.w) k f fd ps sp) (hr : Room k X.A) {x : Str} (hg : Gl X x) (hm : X.mg x = some (.ref f)) (hk : PySem.W.keepIn X.K (.ref f) = true) (hb : Binds X.K fd ps []) (hx : ∀ σ, PassesAt (L2.CX X.prog X.w) X σ (E σ))
    (hdb : (x == ("__debug__" : Str)) = false) : PE X (.Call (.Name x p) [] [] pos) (tCallS sp E tNil) := by
  refine ⟨fun pins s σ H Q I h => ?_⟩
  refine wpAny_Call_Name_kw (ld_glob I hg hm ?_ hdb)
  exact PySem.W.callWith_K0 I.kIn hk (run_fnS (us := []) F hr hb (hx σ) I .nil h)
theorem n_call0 {m : List D → HP → Res D} (F : FnOk X.prog X.w X.K X.mg X.base (L2.CX X.prog X.w) k f fd ps (spOf Z ps.length m)) (hr : Room k X.A) {x : Str} (hg : Gl X x) (hm : X.mg x = some (.ref f)) (hk : PySem.W.keepIn X.K (.ref f) = true) (hb : Binds X.K fd ps [])
    (tk : Takes X W) (hl : ∀ ds hp, ds.length ≠ ps.length → m ds hp = .bad) (hdb : (x == ("__debug__" : Str)) = false) :
    PE X (.Call (.Name x p) [] [] pos) (tI Z W hx fun lo hp => (Res.ok [] hp).bind fun ds hp => m ds hp) := by
  refine PE.weak (pe_callS0 (E := WE W) F hr hg hm hk hb (passAt tk) hdb) fun σ H Q q => ?_
  obtain ⟨ρ, lo, hp, s, q⟩ := q
  simp only [Res.bind_ok] at q
  show spOf Z ps.length m [] H Q (WE W σ)
  by_cases hd : ([] : List D).length = ps.length
  · exact ⟨hd, ρ, hp, [], s.rh, .nil, q.sig fun _ _ _ z => z⟩
  · rw [hl _ _ hd] at q
    exact q.elim
end
end MP

end
section
set_option Elab.async false
set_option linter.all false
set_option maxRecDepth 100000
set_option maxHeartbeats 2000000
/-! MP: how plain parameters bind. -/
namespace MP
open PySem L2
open PyProof.Rows hiding St
/-- only plain parameters -/
structure PlainPs (p : Arguments) (ps : List Str) : Prop where
  po : p.posonlyargs = []
  ar : p.args.map (·.arg) = ps
  va : p.vararg = none
  ko : p.kwonlyargs = []
  ka : p.kwarg = none
theorem lookup_none {α : Type} {k : Str} : ∀ {l : List (Str × α)}, k ∉ l.map (·.1) → l.lookup k = none
  | [], _ => rfl
  | (a, b) :: l, h => by
    rw [List.map_cons, List.mem_cons, not_or] at h
    have e : (k == a) = false := by simpa using h.1
    rw [List.lookup_cons, e]
    exact lookup_none h.2
theorem bind_gen {fd : FuncData} {ps : List Str} (h : PlainPs fd.params ps) (hd : fd.defaults = .none) {us : List Value} {kw : List (Str × Value)} (hl : us.length + kw.length = ps.length) (hk : ∀ k ∈ kw.map (·.1), k ∈ ps) (hn : (((ps.zip us) ++ kw).map (·.1)).Nodup) (hall : ∀ p ∈ ps, (((ps.zip us) ++ kw).lookup p).isSome = true) :
    bindArgs fd ⟨us, kw⟩ = pure (ps.filterMap fun n => (((ps.zip us) ++ kw).lookup n).map (n, ·)) := by
  have step : ∀ {kw sl : List (Str × Value)} {f : (Str × Value) → (List (Str × Value) × List (Str × Value)) → Sem (ForInStep (List (Str × Value) × List (Str × Value)))}, (∀ k ∈ kw.map (·.1), k ∈ ps) → ((sl ++ kw).map (·.1)).Nodup → (∀ x sl ex, x.1 ∈ ps → x.1 ∉ sl.map (·.1) → f x (sl, ex) = pure (.yield (sl ++ [x], ex))) →
      forIn kw ((sl, []) : List (Str × Value) × List (Str × Value)) f = pure (sl ++ kw, []) := by
    intro kw
    induction kw with
    | nil =>
      intro sl f _ _ _
      simp
    | cons x kw ih =>
      intro sl f h1 h2 h3
      rw [List.forIn_cons, h3 x sl [] (h1 x.1 (by simp)) (by
        rw [List.map_append, List.nodup_append] at h2
        intro q
        exact h2.2.2 _ q _ (by simp) rfl), pure_bind]
      dsimp only
      rw [ih (fun k hk => h1 k (by simp at hk ⊢; exact .inr hk)) (by simpa using h2) h3]
      simp
  have hseq : seqItems? Value.none = pure none := rfl
  have hmiss : ∀ n, (List.filter (fun n => ((ps.zip us ++ kw).lookup n).isNone) (ps.take n)) = [] := fun n => List.filter_eq_nil_iff.mpr fun p hp => by
    have := hall p (List.mem_of_mem_take hp)
    rw [← Option.not_isSome]
    simp [this]
  have hgt : decide (us.length > ps.length) = false := by
    rw [decide_eq_false_iff_not]
    omega
  unfold bindArgs
  simp only [h.po, h.ar, h.va, h.ko, h.ka, List.map_nil, List.nil_append, hd]
  rw [step hk hn (fun x sl ex hx hs => by
    have e1 : (ps.contains x.1 || [].contains x.1) = true := by simp [hx]
    rw [if_pos e1, lookup_none hs]
    rfl)]
  rw [pure_bind]
  dsimp only
  rw [hseq, pure_bind]
  simp only [hgt, Option.getD_none, List.append_nil, Bool.false_and, Bool.false_eq_true, if_false, List.drop_nil, hmiss, List.isEmpty_nil, Bool.not_true, List.zip_nil_right, List.forIn_nil, pure_bind]
theorem zip_out {sl : List (Str × Value)} : ∀ {ps : List Str} {as : List Value}, as.length = ps.length → (∀ (i : Nat) p a, ps[i]? = some p → as[i]? = some a → sl.lookup p = some a) → ps.filterMap (fun n => (sl.lookup n).map (n, ·)) = ps.zip as
  | [], [], _, _ => rfl
  | [], _ :: _, h, _ => by cases h
  | _ :: _, [], h, _ => by cases h
  | p :: ps, a :: as, h, hl => by
    rw [List.filterMap_cons, hl 0 p a rfl rfl]
    dsimp only [Option.map_some]
    rw [List.zip_cons_cons, zip_out (by simpa using h) fun i q b e1 e2 => hl (i + 1) q b (by simpa using e1) (by simpa using e2)]
theorem lookup_zip : ∀ {ps : List Str} {us : List Value} {i : Nat} {p : Str} {a : Value}, ps.Nodup → ps[i]? = some p → us[i]? = some a → (ps.zip us).lookup p = some a
  | [], _, _, _, _, _, e, _ => by simp at e
  | _ :: _, [], _, _, _, _, _, e => by simp at e
  | q :: ps, u :: us, 0, p, a, _, e1, e2 => by
    simp at e1 e2
    subst e1 e2
    rw [List.zip_cons_cons, List.lookup_cons, beq_self_eq_true]
  | q :: ps, u :: us, i + 1, p, a, nd, e1, e2 => by
    rw [List.nodup_cons] at nd
    have e1' : ps[i]? = some p := by simpa using e1
    have ne : (p == q) = false := by
      rw [beq_eq_false_iff_ne]
      intro z
      subst z
      exact nd.1 (List.mem_of_getElem? e1')
    rw [List.zip_cons_cons, List.lookup_cons, ne]
    exact lookup_zip nd.2 e1' (by simpa using e2)
theorem lookup_app {α : Type} {k : Str} {b : List (Str × α)} : ∀ {a : List (Str × α)}, k ∉ a.map (·.1) → (a ++ b).lookup k = b.lookup k
  | [], _ => rfl
  | (x, y) :: a, h => by
    rw [List.map_cons, List.mem_cons, not_or] at h
    have e : (k == x) = false := by simpa using h.1
    rw [List.cons_append, List.lookup_cons, e]
    exact lookup_app h.2
theorem lookup_app1 {α : Type} {k : Str} {v : α} {a b : List (Str × α)} (h : a.lookup k = some v) : (a ++ b).lookup k = some v := by
  induction a with
  | nil => cases h
  | cons x a ih =>
    obtain ⟨x, y⟩ := x
    rw [List.lookup_cons] at h
    rw [List.cons_append, List.lookup_cons]
    cases e : k == x with
    | true =>
      rw [e] at h
      exact h
    | false =>
      rw [e] at h
      exact ih h
theorem zip_fst {α β : Type} : ∀ {a : List α} {b : List β}, b.length ≤ a.length → (a.zip b).map (·.1) = a.take b.length
  | [], [], _ => rfl
  | [], _ :: _, h => by simp at h
  | _ :: _, [], _ => by simp
  | a :: as, b :: bs, h => by
    rw [List.zip_cons_cons, List.map_cons, zip_fst (by simpa using h)]
    simp
theorem kwPerm_get {ks : List Str} : ∀ {qs : List Str} {pm : List Nat}, kwPerm ks qs = some pm → pm.length = qs.length ∧ ∀ (i : Nat) q, qs[i]? = some q → ∃ j : Nat, pm[i]? = some j ∧ ks[j]? = some q
  | [], pm, h => by
    cases h
    exact ⟨rfl, fun i q e => by simp at e⟩
  | q :: qs, pm, h => by
    rw [kwPerm] at h
    split at h
    · rename_i j r e1 e2
      cases h
      obtain ⟨h1, h2⟩ := kwPerm_get e2
      refine ⟨by simp [h1], fun i q' e => ?_⟩
      cases i with
      | zero =>
        simp at e
        subst e
        exact ⟨j, rfl, ixOf_get e1⟩
      | succ i => 
        obtain ⟨j', h3, h4⟩ := h2 i q' (by simpa using e)
        exact ⟨j', by simpa using h3, h4⟩
    · cases h
/-- what a call takes: every place is there -/
theorem pick_get {α : Type} {ws : List α} : ∀ {pm : List Nat}, (∀ j ∈ pm, j < ws.length) → (pm.filterMap (ws[·]?)).length = pm.length ∧ ∀ (i j : Nat), pm[i]? = some j → (pm.filterMap (ws[·]?))[i]? = ws[j]?
  | [], _ => ⟨rfl, fun i j e => by simp at e⟩
  | j :: pm, h => by
    have hj := h j List.mem_cons_self
    obtain ⟨h1, h2⟩ := pick_get (ws := ws) (pm := pm) fun j hj => h j (List.mem_cons_of_mem _ hj)
    rw [List.filterMap_cons, List.getElem?_eq_getElem hj]
    dsimp only
    refine ⟨by simp [h1], fun i j' e => ?_⟩
    cases i with
    | zero =>
      simp at e
      subst e
      rw [List.getElem?_eq_getElem hj]
      rfl
    | succ i => simpa using h2 i j' (by simpa using e)
/-- HOW A CALL BINDS: us by position, ws by keyword -/
theorem binds_kw {fd : FuncData} {ps : List Str} (h : PlainPs fd.params ps) (hd : fd.defaults = .none) (nd : ps.Nodup) {kws : List Keyword} {us ws : List Value} {pm : List Nat} (hk : kwOk ps us.length kws = true) (hw : ws.length = (kwNames kws).length) (hp : kwPerm (kwNames kws) (ps.drop us.length) = some pm) :
    bindArgs fd ⟨us, (kwNames kws).zip ws⟩ = pure (ps.zip (us ++ pm.filterMap (ws[·]?))) ∧ (us ++ pm.filterMap (ws[·]?)).length = ps.length := by
  unfold kwOk at hk
  simp only [Bool.and_eq_true, decide_eq_true_eq, List.all_eq_true] at hk
  obtain ⟨⟨⟨k1, k2⟩, k3⟩, k4⟩ := hk
  obtain ⟨p1, p2⟩ := kwPerm_get hp
  have hj : ∀ j ∈ pm, j < ws.length := fun j hj => by
    obtain ⟨i, hi⟩ := List.mem_iff_getElem?.mp hj
    have hi2 : i < (ps.drop us.length).length := by rw [← p1]; exact (List.getElem?_eq_some_iff.mp hi).1
    obtain ⟨j', e1, e2⟩ := p2 i _ (List.getElem?_eq_getElem hi2)
    rw [hi] at e1
    cases e1
    rw [hw]
    exact (List.getElem?_eq_some_iff.mp e2).1
  obtain ⟨g1, g2⟩ := pick_get (ws := ws) hj
  have hlen : (us ++ pm.filterMap (ws[·]?)).length = ps.length := by
    rw [List.length_append, g1, p1, List.length_drop]
    omega
  have f1 : ((kwNames kws).zip ws).map (·.1) = kwNames kws := by
    rw [zip_fst (Nat.le_of_eq hw), hw, List.take_length]
  have f2 : (ps.zip us).map (·.1) = ps.take us.length := zip_fst (by omega)
  have hndk : (kwNames kws).Nodup := (List.nodup_append.mp k3).2.1
  have hlook : ∀ (i : Nat) p a, ps[i]? = some p → (us ++ pm.filterMap (ws[·]?))[i]? = some a → (ps.zip us ++ (kwNames kws).zip ws).lookup p = some a := fun i p a e1 e2 => by
    by_cases hi : i < us.length
    · rw [List.getElem?_append_left hi] at e2
      exact lookup_app1 (lookup_zip nd e1 e2)
    · rw [List.getElem?_append_right (by omega)] at e2
      have ei : ps[us.length + (i - us.length)]? = some p := by rw [Nat.add_sub_cancel' (by omega)]; exact e1
      have ed : (ps.drop us.length)[i - us.length]? = some p := by rw [List.getElem?_drop]; exact ei
      obtain ⟨j, e3, e4⟩ := p2 _ _ ed
      rw [g2 _ _ e3] at e2
      have hpk : p ∈ kwNames kws := List.mem_of_getElem? e4
      rw [lookup_app]
      · exact lookup_zip hndk e4 e2
      · rw [f2]
        intro hm
        exact (List.nodup_append.mp k3).2.2 _ hm _ hpk rfl
  refine ⟨?_, hlen⟩
  rw [bind_gen h hd (by rw [List.length_zip]; omega) (by rw [f1]; exact k4) (by rw [List.map_append, f1, f2]; exact k3) (fun p hp => ?_), zip_out hlen hlook]
  obtain ⟨i, hi⟩ := List.mem_iff_getElem?.mp hp
  have hil : i < ps.length := (List.getElem?_eq_some_iff.mp hi).1
  rw [hlook i p _ hi (List.getElem?_eq_getElem (by rw [hlen]; exact hil))]
  rfl
theorem binds_pos {fd : FuncData} {ps : List Str} (h : PlainPs fd.params ps) (hd : fd.defaults = .none) (nd : ps.Nodup) {us : List Value} (hl : us.length = ps.length) : bindArgs fd ⟨us, []⟩ = pure (ps.zip us) := by
  have := (binds_kw h hd nd (kws := []) (us := us) (ws := []) (pm := []) (by
    unfold kwOk kwNames
    simp [hl, nd]) rfl (by rw [hl]; simp [kwPerm])).1
  simpa [kwNames] using this
section
variable {Z : Zx} {X : Cx} {W : WX} {hx : HX}
/-! the call -/
theorem kwn_all {kws : List Keyword} (h : ∀ k ∈ kws, k.arg.isSome = true) (pos : Pos) (env : Env) : (backToKw pos (keywordEach kws env)).all (·.1.isSome) = true ∧ (backToKw pos (keywordEach kws env)).filterMap (·.1) = kwNames kws ∧ (backToKw pos (keywordEach kws env)).any (·.1.isNone) = false := by
  induction kws with
  | nil => exact ⟨rfl, rfl, rfl⟩
  | cons k kws ih =>
    obtain ⟨i1, i2, i3⟩ := ih fun k hk => h k (List.mem_cons_of_mem _ hk)
    obtain ⟨a, e, p⟩ := k
    have ha := h _ List.mem_cons_self
    cases a with
    | none => cases ha
    | some a =>
      refine ⟨?_, ?_, ?_⟩
      · show (true && _) = true
        rw [Bool.true_and]
        exact i1
      · show a :: _ = a :: kwNames kws
        rw [← i2]
        rfl
      · show (false || _) = false
        rw [Bool.false_or]
        exact i3
theorem pk_weak {kws : List Keyword} {t u : TA} (h : PK X kws t) (i : ∀ σ H Q, u σ H Q → t σ H Q) : PK X kws u := ⟨fun pos pins s σ H Q I q => h.run pos pins s σ H Q I (i _ _ _ q)⟩
theorem n_knil : PK X [] (tAI Z W hx fun _ hp => .ok [] hp) := pk_weak pk_nil fun σ H Q q => by
  obtain ⟨ρ, lo, hp, s, q⟩ := q
  exact q.at s.rh _ .nil
theorem n_kcons {e : Expr} {nm : Option Str} {kp : Pos} {kws : List Keyword} {ma : Lo → HP → Res D} {ml : Lo → HP → Res (List D)} (ha : PE X e (tI Z W hx ma)) (hr : PK X kws (tAI Z W hx ml)) : PK X (⟨nm, e, kp⟩ :: kws) (tAI Z W hx fun lo hp => (ma lo hp).bind fun x hp => (ml lo hp).bind fun xs hp => .ok (x :: xs) hp) :=
  pk_weak (pk_cons ha hr) fun σ H Q q => by
    obtain ⟨ρ, lo, hp, s, q⟩ := q
    refine ⟨ρ, lo, hp, s, (Post.bind q).imp fun d ρ' hp' H' t q v hv => ⟨ρ', lo, hp', s.step t, ?_⟩⟩
    exact (Post.bind q).imp fun ds ρ2 hp2 H2 t2 q vs hvs => q.at t2.rh _ (.cons (t2.den hv) hvs)
theorem vals_pick {vs : List V} {us : List Value} (h : Vals vs us) : ∀ {pm : List Nat}, Vals (pm.filterMap (vs[·]?)) (pm.filterMap (us[·]?))
  | [] => .nil
  | j :: pm => by
    have hl := h.length
    rw [List.filterMap_cons, List.filterMap_cons]
    by_cases hj : j < vs.length
    · rw [List.getElem?_eq_getElem hj, List.getElem?_eq_getElem (by omega)]
      refine .cons ?_ (vals_pick h)
      have : ∀ {vs : List V} {us : List Value}, Vals vs us → ∀ (j : Nat) v u, vs[j]? = some v → us[j]? = some u → RelV v u := by
        intro vs us h
        induction h with
        | nil => intro j v u e; simp at e
        | cons r _ ih =>
          intro j v u e1 e2
          cases j with
          | zero =>
            simp at e1 e2
            subst e1 e2
            exact r
          | succ j => exact ih j v u (by simpa using e1) (by simpa using e2)
      exact this h j _ _ (List.getElem?_eq_getElem hj) (List.getElem?_eq_getElem (by omega))
    · rw [List.getElem?_eq_none (by omega), List.getElem?_eq_none (by omega)]
      exact vals_pick h
theorem denL_pick {H : Hp} {ρ : Nat → Addr} {n : Nat} {ds : List D} {vs : List V} (h : DenL Z H ρ n ds vs) : ∀ {pm : List Nat}, DenL Z H ρ n (pm.filterMap (ds[·]?)) (pm.filterMap (vs[·]?))
  | [] => .nil
  | j :: pm => by
    have hl := h.length
    rw [List.filterMap_cons, List.filterMap_cons]
    by_cases hj : j < ds.length
    · have e : ds[j]? = some ds[j] := List.getElem?_eq_getElem hj
      obtain ⟨v, e1, e2⟩ := h.get e
      rw [e, e1]
      exact .cons e2 (denL_pick h)
    · rw [List.getElem?_eq_none (by omega), List.getElem?_eq_none (by omega)]
      exact denL_pick h
/-- f(e, .., k = v, ..) -/
theorem n_kcall {k : Nat} {f : Addr} {fd : FuncData} {ps : List Str} {m : List D → HP → Res D} (F : FnOk X.prog X.w X.K X.mg X.base (L2.CX X.prog X.w) k f fd ps (spOf Z ps.length m)) (hr : Room k X.A) {x : Str} (hg : Gl X x) (hm : X.mg x = some (.ref f)) (hkp : PySem.W.keepIn X.K (.ref f) = true)
    (pl : PlainPs fd.params ps) (hd : fd.defaults = .none) (nd : ps.Nodup) (tk : Takes X W) {es : List Expr} {kws : List Keyword} {pm : List Nat} {ml mk : Lo → HP → Res (List D)} {p pos : Pos} (ha : PA X es (tAI Z W hx ml)) (hkw : PK X kws (tAI Z W hx mk)) (hs : ∀ e ∈ es, isStar e = false) (h0 : es = [] → ∀ lo hp, ml lo hp = .ok [] hp)
    (hlm : ∀ lo hp ds hp', ml lo hp = .ok ds hp' → ds.length = es.length) (hlk : ∀ lo hp ds hp', mk lo hp = .ok ds hp' → ds.length = (kwNames kws).length) (hk : kwOk ps es.length kws = true) (hprm : kwPerm (kwNames kws) (ps.drop es.length) = some pm) (hdb : (x == ("__debug__" : Str)) = false) :
    PE X (.Call (.Name x p) es kws pos) (tI Z W hx fun lo hp => (ml lo hp).bind fun ds hp => (mk lo hp).bind fun us hp => m (ds ++ pm.filterMap (us[·]?)) hp) := by
  have hkk := hk
  unfold kwOk at hkk
  simp only [Bool.and_eq_true, List.all_eq_true] at hkk
  obtain ⟨a1, a2, a3⟩ := kwn_all hkk.1.1.1 pos X.env
  refine ⟨fun pins s σ H Q I h => ?_⟩
  refine wpAny_Call_Name_kw (ld_glob I hg hm ?_ hdb)
  have fin : ∀ {s2 : Shared} {H2 : Hp} {us ws : List Value} {vs zs : List V} {ρ2 : Nat → Addr} {hp2 : HP} {ds qs : List D}, Inv X pins σ H2 s2 → Vals vs us → Vals zs ws → RH Z H2 ρ2 hp2 → DenL Z H2 ρ2 hp2.length ds vs → DenL Z H2 ρ2 hp2.length qs zs → ds.length = es.length → qs.length = (kwNames kws).length →
      (Post Z W σ hp2.length ρ2 H2 (m (ds ++ pm.filterMap (qs[·]?)) hp2) fun d ρ' hp' H' => ∀ v, Den Z H' ρ' hp'.length d v → Q v H') →
      wpAny (model X.prog X.w) X.A (call (.ref f) us ((kwNames kws).zip ws)) (EP X pins σ Q) X.xe s2 := by
    intro s2 H2 us ws vs zs ρ2 hp2 ds qs I2 r rz rh dl dz l1 l2 q
    have lu : us.length = es.length := by rw [← r.length, ← dl.length]; exact l1
    have lw : ws.length = (kwNames kws).length := by rw [← rz.length, ← dz.length]; exact l2
    obtain ⟨b1, b2⟩ := binds_kw pl hd nd (us := us) (ws := ws) (by rw [lu]; exact hk) lw (by rw [lu]; exact hprm)
    have r2 : Vals (vs ++ pm.filterMap (zs[·]?)) (us ++ pm.filterMap (ws[·]?)) := r.append (vals_pick rz)
    refine wpAny_call (codeAny_mono (F.run X.A X.stack s2 H2 ⟨us, (kwNames kws).zip ws⟩ (us ++ pm.filterMap (ws[·]?)) (vs ++ pm.filterMap (zs[·]?)) Q (WE W σ) hr I2.env0 (.of_eq b1) r2 ?_) fun r s' hq => ?_)
    · exact ⟨by rw [r2.length]; exact b2, ρ2, hp2, _, rh, dl.append (denL_pick dz), q.sig fun _ _ _ z => z⟩
    · cases r with
      | error e => exact passAt tk σ pins H2 s2 e s' I2 hq
      | ok fl =>
        cases fl with
        | ret u => exact I2.after hq
        | next => exact False.elim hq
        | brk => exact False.elim hq
        | cont => exact False.elim hq
  obtain ⟨ρ, lo, hp, st, q⟩ := h
  dsimp only at q
  cases es with
  | nil =>
    rw [h0 rfl] at q
    refine PySem.W.callWith_KW0 (h₀ := X.base) I.ok.mod.kin hkp a1 ?_ (by rw [a3]; rfl)
    refine thn (hkw.run pos pins s σ H (fun zs H1 => ∃ ρ2 hp2 qs, RH Z H1 ρ2 hp2 ∧ DenL Z H1 ρ2 hp2.length qs zs ∧ qs.length = (kwNames kws).length ∧ Post Z W σ hp2.length ρ2 H1 (m ([] ++ pm.filterMap (qs[·]?)) hp2) fun d ρ' hp' H' => ∀ v, Den Z H' ρ' hp'.length d v → Q v H') I ⟨ρ, lo, hp, st, ?_⟩) fun ws s2 ⟨zs, H2, I2, rz, ρ2, hp2, qs, rh, dz, lz, q2⟩ => ⟨I2.kIn, ?_⟩
    · have q3 := Post.bind (show Post Z W σ hp.length ρ H ((mk lo hp).bind fun us hp => m ([] ++ pm.filterMap (us[·]?)) hp) _ from q)
      cases e : mk lo hp with
      | bad =>
        rw [e] at q3
        exact q3.elim
      | ex x hp' =>
        rw [e] at q3
        exact q3
      | ok qs hp' =>
        rw [e] at q3
        exact fun ρ' H' t zs hz => ⟨ρ', hp', qs, t.rh, hz, hlk _ _ _ _ e, q3 ρ' H' t⟩
    · rw [a2]
      exact fin (vs := []) (us := []) (ds := []) I2 .nil rz rh .nil dz rfl lz q2
  | cons e es =>
    have he := star_of (es := es) (hs e List.mem_cons_self) X.env
    have hpl : ((backTo pos (starEach (e :: es) X.env)).any (·.1) || (backToKw pos (keywordEach kws X.env)).any (·.1.isNone)) = false := by
      rw [star_all hs, a3]
      rfl
    refine PySem.W.callWith_KW (h₀ := X.base) I.ok.mod.kin hkp a1 (thn (ha.run pos pins s σ H (fun vs H1 => ∃ ρ1 hp1 ds, Sst Z hx H1 ρ1 lo hp1 σ ∧ DenL Z H1 ρ1 hp1.length ds vs ∧ ds.length = (e :: es).length ∧ Post Z W σ hp1.length ρ1 H1 ((mk lo hp1).bind fun us hp => m (ds ++ pm.filterMap (us[·]?)) hp) fun d ρ' hp' H' => ∀ v, Den Z H' ρ' hp'.length d v → Q v H') I ⟨ρ, lo, hp, st, ?_⟩) fun us s1 ⟨vs, H1, I1, r, ρ1, hp1, ds, st1, dl, l1, q1⟩ => ?_) hpl he
    · have q3 := Post.bind q
      cases em : ml lo hp with
      | bad =>
        rw [em] at q3
        exact q3.elim
      | ex x hp' =>
        rw [em] at q3
        exact q3
      | ok ds hp' =>
        rw [em] at q3
        exact fun ρ' H' t zs hz => ⟨ρ', hp', ds, st.step t, hz, hlm _ _ _ _ em, q3 ρ' H' t⟩
    · refine thn (hkw.run pos pins s1 σ H1 (fun zs H2 => ∃ ρ2 hp2 qs, RH Z H2 ρ2 hp2 ∧ DenL Z H2 ρ2 hp2.length ds vs ∧ DenL Z H2 ρ2 hp2.length qs zs ∧ qs.length = (kwNames kws).length ∧ Post Z W σ hp2.length ρ2 H2 (m (ds ++ pm.filterMap (qs[·]?)) hp2) fun d ρ' hp' H' => ∀ v, Den Z H' ρ' hp'.length d v → Q v H') I1 ⟨ρ1, lo, hp1, st1, ?_⟩) fun ws s2 ⟨zs, H2, I2, rz, ρ2, hp2, qs, rh, dl2, dz, lz, q2⟩ => ⟨I2.kIn, ?_⟩
      · have q3 := Post.bind q1
        cases em : mk lo hp1 with
        | bad =>
          rw [em] at q3
          exact q3.elim
        | ex x hp' =>
          rw [em] at q3
          exact q3
        | ok qs hp' =>
          rw [em] at q3
          exact fun ρ' H' t zs hz => ⟨ρ', hp', qs, t.rh, t.denL dl, hz, hlk _ _ _ _ em, q3 ρ' H' t⟩
      · rw [a2]
        exact fin I2 r rz rh dl2 dz l1 lz q2
end
end MP

end
section
set_option Elab.async false
set_option linter.all false
set_option maxRecDepth 100000
set_option maxHeartbeats 1000000
/-! MP: the text's expressions keep to the evaluator. -/
namespace MP
open PySem L2
open PyProof.Rows hiding St
/-- what a global name stands for, in the model -/
def GOk (Z : Zx) (cf : Nat → List D → HP → Res D) (X : Cx) (x : Str) : GI → Prop
  | .fn i ps => (∀ ds hp, ds.length ≠ ps.length → cf i ds hp = .bad) ∧ ∃ f fd k, X.mg x = some (.ref f) ∧ PySem.W.keepIn X.K (.ref f) = true ∧ (PlainPs fd.params ps ∧ fd.defaults = .none ∧ ps.Nodup) ∧ Room k X.A ∧ FnOk X.prog X.w X.K X.mg X.base (L2.CX X.prog X.w) k f fd ps (spOf Z ps.length (cf i))
  | .con d => ∃ v u, X.mg x = some u ∧ RelV v u ∧ ∀ H ρ n, Den Z H ρ n d v
  | .exc c keep => c < Z.nc ∧ X.mg x = some (.ref (Z.xc c)) ∧ (keep = false → Z.xf c = none)
  | .dic kvs => ∃ a, X.mg x = some (.ref a) ∧ ∀ s d, kvs.lookup s = some d → ∃ v, KDct X.K X.w a (strOf s) v ∧ ∀ H ρ n, Den Z H ρ n d v
  | .blt => X.mg x = none
theorem binds_of {K : PySem.W.Frag} {fd : FuncData} {ps : List Str} (h : PlainPs fd.params ps ∧ fd.defaults = .none ∧ ps.Nodup) : Binds K fd ps [] := .all fun us hl => binds_pos h.1 h.2.1 h.2.2 hl
structure Good (Z : Zx) (cf : Nat → List D → HP → Res D) (X : Cx) (c : SC) (hx : HX) : Prop where
  z : ZOk Z
  K : X.K = Z.K
  N : X.N = c.N
  nd : X.N.Nodup
  sc : X.env.scope = c.sc
  calm : c.hot = false → X.calm = true
  room : X.A.units + 65 < cLine
  glb : ∀ x g, c.G.lookup x = some g → (c.hot = true → ∀ i ps, g ≠ .fn i ps) → GOk Z cf X x g
  fn : ∀ x, fnB c x = true → X.fn x = true
  hnx : ∀ j a k d, hx = some (some j, a, k, d) → ∃ n, c.hn = some n ∧ c.N[j]? = some n
  hxn : ∀ i a k d n, hx = some (i, a, k, d) → c.hn = some n → ∃ j, i = some j ∧ c.N[j]? = some n
  cold : c.hot = false → hx = none
  hotx : ∀ i a k d, hx = some (i, a, k, d) → ∃ (X0 : Cx) (oe : Obj) (pn : List (Addr × Obj)), X = X0.suite a ((a, oe) :: pn) ∧ Zc k d oe ∧ ∃ vs, oe.data = .fields vs
section
variable {Z : Zx} {cf : Nat → List D → HP → Res D}
/-- both readings -/
def Both (Z : Zx) (X : Cx) (W : WX) (hx : HX) (e : Expr) (m : Lo → HP → Res D) : Prop := PE X e (tI Z W hx m) ∧ PT X e (tTI Z W hx (tru m))
theorem both_of {X : Cx} {W : WX} {hx : HX} {e : Expr} {m : Lo → HP → Res D} (hK : X.K = Z.K) (h : PE X e (tI Z W hx m)) (he : ∀ whole, isTrue e X.env whole = (do let v ← whole; standAt e.pos; holding [v] (PySem.truthy v))) : Both Z X W hx e m := ⟨h, n_test hK h he⟩
theorem badName_of {x : Str} (h : badName x = false) : (x == ("__debug__" : Str)) = false ∧ (x == ("__classdict__" : Str)) = false ∧ x ≠ ("__name__" : Str) := by
  unfold badName at h
  rw [Bool.or_eq_false_iff, Bool.or_eq_false_iff] at h
  exact ⟨h.1.1, h.1.2, beq_eq_false_iff_ne.mp h.2⟩
theorem glB_ok {X : Cx} {sc : Scope} {x : Str} (hs : X.env.scope = sc) (h : glB sc x = true) : Gl X x := by
  unfold Gl
  have := of_decide_eq_true h
  rw [← hs] at this
  exact this
theorem bltB_ok {X : Cx} {c : SC} {hx : HX} (G : Good Z cf X c hx) {x : Str} (h : bltB c x = true) : Gl X x ∧ X.mg x = none ∧ x ≠ ("__name__" : Str) ∧ (x == ("__debug__" : Str)) = false := by
  unfold bltB at h
  rw [Bool.and_eq_true, Bool.and_eq_true] at h
  have hb : badName x = false := by simpa using h.1.2
  obtain ⟨b1, b2, b3⟩ := badName_of hb
  refine ⟨glB_ok G.sc h.1.1, ?_, b3, b1⟩
  have h2 := h.2
  split at h2
  · rename_i e
    exact G.glb x _ e (fun _ _ _ q => nomatch q)
  · cases h2
theorem cName_ok {X : Cx} {c : SC} {W : WX} {hx : HX} (G : Good Z cf X c hx) {x : Str} {pos : Pos} {E : E} (h : cName c x = some E) : Both Z X W hx (.Name x pos) (evE cf Z.sub E) := by
  refine both_of G.K ?_ fun _ => rfl
  unfold cName at h
  split at h
  · cases h
  · rename_i hb
    obtain ⟨b1, b2, b3⟩ := badName_of (by simpa using hb)
    split at h
    · rename_i hv
      split at h
      · cases h
      · obtain ⟨i, e1, e2⟩ := Option.map_eq_some_iff.mp h
        subst e2
        exact n_loc G.N (ixOf_get e1) (by rw [G.sc]; exact visB_ok hv) b1 b2 fun _ _ => by (rw [evE] <;> rfl)
    · split at h
      · rename_i hg
        split at h
        · rename_i d e
          cases h
          obtain ⟨v, u, h1, h2, h3⟩ := G.glb x _ e (fun _ _ _ q => nomatch q)
          exact n_con (pe_glob (glB_ok G.sc hg) h1 h2 b1) h3 fun _ _ => by rw [evE]
        · cases h
      · cases h
theorem cConst_ok {X : Cx} {c : SC} {W : WX} {hx : HX} (G : Good Z cf X c hx) {k : Const} {j : Nat} {pos : Pos} {E : E} (h : cConst k = some E) : Both Z X W hx (.Constant k j pos) (evE cf Z.sub E) := by
  refine both_of G.K ?_ fun _ => rfl
  unfold cConst at h
  split at h
  · cases h
    exact n_con pe_non (fun _ _ _ => den_non.mpr rfl) fun _ _ => by rw [evE]
  · cases h
    exact n_con pe_bl (fun _ _ _ => den_bl.mpr rfl) fun _ _ => by rw [evE]
  · cases h
    exact n_con pe_int (fun _ _ _ => den_int.mpr rfl) fun _ _ => by rw [evE]
  · rename_i s
    split at h
    · rename_i hs
      cases h
      exact n_con pe_str (fun _ _ _ => den_str.mpr ⟨by unfold strOf; simp, okSb_ok hs⟩) fun _ _ => by rw [evE]
    · cases h
  · cases h
theorem cBOp_ok {o : Operator} {b : BOp} (h : cBOp o = some b) : o = toOp b := by
  cases o <;> cases h <;> rfl
theorem noSet {op : CmpOp} {b : Expr} (h : ∀ es k p, b ≠ .Set es k p) : behindInMarks op b = false := by
  cases b <;> first | rfl | exact absurd rfl (h _ _ _)
theorem cCOp_ok {o : CmpOp} {b : Expr} {k : COp} (h : cCOp o b = some k) :
    (k = .isNone ∧ o = .Is ∧ ∃ j p, b = .Constant .none j p) ∨ (k = .notNone ∧ o = .IsNot ∧ ∃ j p, b = .Constant .none j p) ∨ (k ≠ .isNone ∧ k ≠ .notNone ∧ o = toCmp k ∧ ∀ es j p, b ≠ .Set es j p) := by
  unfold cCOp at h
  split at h
  · cases h
    exact .inl ⟨rfl, rfl, _, _, rfl⟩
  · cases h
    exact .inr (.inl ⟨rfl, rfl, _, _, rfl⟩)
  · cases h
  all_goals first
    | (cases h; done)
    | (cases h
       refine .inr (.inr ⟨(by intro q; cases q), (by intro q; cases q), rfl, fun es j p q => ?_⟩)
       subst q
       simp_all)
/-- the arguments, by the parts' soundness -/
theorem mapEL_ok {X : Cx} {W : WX} {hx : HX} {f : Expr → Option E} : ∀ {es : List Expr} {xs : EL}, (∀ e x, f e = some x → PE X e (tI Z W hx (evE cf Z.sub x))) → mapEL f es = some xs →
    PA X es (tAI Z W hx (evL cf Z.sub xs)) ∧ ∀ e ∈ es, isStar e = false
  | [], xs, _, h => by
    rw [mapEL] at h
    cases h
    refine ⟨?_, fun _ h => nomatch h⟩
    have : evL cf Z.sub .nil = fun _ hp => .ok [] hp := by funext lo hp; rw [evL]
    rw [this]
    exact n_nil
  | e :: es, xs, hf, h => by
    rw [mapEL] at h
    split at h
    · cases h
    · rename_i hs
      have hs : isStar e = false := by simpa using hs
      split at h
      · rename_i x ys e1 e2
        cases h
        obtain ⟨q1, q2⟩ := mapEL_ok (es := es) hf e2
        refine ⟨?_, fun a ha => ?_⟩
        · have : evL cf Z.sub (.cons x ys) = fun lo hp => (evE cf Z.sub x lo hp).bind fun x hp => (evL cf Z.sub ys lo hp).bind fun xs hp => .ok (x :: xs) hp := by funext lo hp; rw [evL]
          rw [this]
          exact n_cons (hf e x e1) q1 hs
        · rcases List.mem_cons.mp ha with z | z
          · rw [z]
            exact hs
          · exact q2 a z
      · cases h
theorem boolAnd_ok {X : Cx} {W : WX} {hx : HX} {pos : Pos} (hK : X.K = Z.K) {f : Expr → Option E} : ∀ {es : List Expr} {x : E}, (∀ e x, f e = some x → Both Z X W hx e (evE cf Z.sub x)) → boolEs .and f es = some x →
    PE X (.BoolOp .And es pos) (tI Z W hx (evE cf Z.sub x)) ∧ PW X (.BoolOp .And es pos) (tTI Z W hx (tru (evE cf Z.sub x)))
  | [], _, _, h => by cases h
  | [e], x, hf, h => by
    rw [boolEs] at h
    obtain ⟨q1, q2⟩ := hf e x h
    exact ⟨pe_one q1, pw_and1 q2⟩
  | e :: e2 :: es, x, hf, h => by
    rw [boolEs] at h
    · split at h
      · rename_i a b e1 e3
        cases h
        obtain ⟨q1, q2⟩ := hf e a e1
        obtain ⟨q3, q4⟩ := boolAnd_ok (es := e2 :: es) hK hf e3
        have : evE cf Z.sub (.and a b) = mAnd (evE cf Z.sub a) (evE cf Z.sub b) := by funext lo hp; rw [evE] <;> rfl
        rw [this]
        exact ⟨n_and hK q1 q3, n_andW q2 q4⟩
      · cases h
    · exact fun q => by cases q
theorem boolOr_ok {X : Cx} {W : WX} {hx : HX} {pos : Pos} (hK : X.K = Z.K) {f : Expr → Option E} : ∀ {es : List Expr} {x : E}, (∀ e x, f e = some x → Both Z X W hx e (evE cf Z.sub x)) → boolEs .or f es = some x →
    PE X (.BoolOp .Or es pos) (tI Z W hx (evE cf Z.sub x)) ∧ PW X (.BoolOp .Or es pos) (tTI Z W hx (tru (evE cf Z.sub x)))
  | [], _, _, h => by cases h
  | [e], x, hf, h => by
    rw [boolEs] at h
    obtain ⟨q1, q2⟩ := hf e x h
    exact ⟨pe_one q1, pw_or1 q2⟩
  | e :: e2 :: es, x, hf, h => by
    rw [boolEs] at h
    · split at h
      · rename_i a b e1 e3
        cases h
        obtain ⟨q1, q2⟩ := hf e a e1
        obtain ⟨q3, q4⟩ := boolOr_ok (es := e2 :: es) hK hf e3
        have : evE cf Z.sub (.or a b) = mOr (evE cf Z.sub a) (evE cf Z.sub b) := by funext lo hp; rw [evE] <;> rfl
        rw [this]
        exact ⟨n_or hK q1 q3, n_orW q2 q4⟩
      · cases h
    · exact fun q => by cases q
theorem base_of {o : Expr} (h : isCall0 o = false) (m : Str) (env : Env) : attributeBase o m env (eval o env) = eval o env := by
  unfold attributeBase
  split
  · rename_i id p q
    cases h
  · rfl
end
end MP

end
section
set_option Elab.async false
set_option linter.all false
set_option maxRecDepth 100000
set_option maxHeartbeats 2000000
namespace MP
open PySem L2
open PyProof.Rows hiding St
section
variable {Z : Zx} {cf : Nat → List D → HP → Res D}
theorem map2 {α β γ : Type} {f : α → β → γ} {a : Option α} {b : Option β} {r : γ} (h : (match a, b with | some x, some y => some (f x y) | _, _ => none) = some r) : ∃ x y, a = some x ∧ b = some y ∧ f x y = r := by
  split at h
  · rename_i x y
    cases h
    exact ⟨x, y, rfl, rfl, rfl⟩
  · cases h
theorem cBF_v {x : Str} {n : Nat} {b : BF} (h : cBF x n = some b) : bootBuiltins x = some (bfV b) := by
  unfold cBF at h
  split at h
  · rename_i e
    subst e
    cases h
    decide +kernel
  split at h
  · rename_i e
    subst e
    cases h
    decide +kernel
  split at h
  · rename_i e
    obtain ⟨e, _⟩ := e
    subst e
    cases h
    decide +kernel
  split at h
  · rename_i e
    obtain ⟨e, _⟩ := e
    subst e
    cases h
    decide +kernel
  split at h
  · rename_i e
    obtain ⟨e, _⟩ := e
    subst e
    cases h
    decide +kernel
  split at h
  · rename_i e
    obtain ⟨e, _⟩ := e
    subst e
    cases h
    decide +kernel
  split at h
  · rename_i e
    obtain ⟨e, _⟩ := e
    subst e
    cases h
    decide +kernel
  · cases h
theorem cTy_v {x : Str} {t : Ty} (h : cTy x = some t) : bootBuiltins x = some (.type (tyN t)) := by
  unfold cTy at h
  split at h
  · rename_i e
    subst e
    cases h
    decide +kernel
  split at h
  · rename_i e
    subst e
    cases h
    decide +kernel
  split at h
  · rename_i e
    subst e
    cases h
    decide +kernel
  split at h
  · rename_i e
    subst e
    cases h
    decide +kernel
  split at h
  · rename_i e
    subst e
    cases h
    decide +kernel
  split at h
  · rename_i e
    subst e
    cases h
    decide +kernel
  · cases h
/-- a method call, the type at hand -/
theorem n_mthT {X : Cx} {W : WX} {hx : HX} (hK : X.K = Z.K) {m : Str} {f : MF} {T : MT} {id : String} (pa : PlainAttrs (mtN T)) (slot : Slot (mtN T) m id) (hty : typeOf (.builtin id) = pure (.type "method_descriptor")) (hm : MtR X id (rM Z (evM f)))
    {o : Expr} {es : List Expr} {mo : Lo → HP → Res D} {ml : Lo → HP → Res (List D)} {ap cp : Pos}
    (ho : PE X o (tI Z W hx mo)) (ha : PA X es (tAI Z W hx ml)) (hs : ∀ e ∈ es, isStar e = false) (h0 : es = [] → ∀ lo hp, ml lo hp = .ok [] hp) (hb : isCall0 o = false) (hl : (ap.endLine == cp.line) = true) (hn : es.length < 29) :
    PE X (.Call (.Attribute o m ap) es [] cp) (tI Z W hx fun lo hp => (mo lo hp).bind fun x hp => if tyM hp x = some T then (ml lo hp).bind fun ds hp => evM f x ds hp else .bad) := by
  cases es with
  | nil =>
    refine PE.weak (pe_mg0 pa slot hty hm ho (base_of hb _ _) hl) fun σ H Q q => ?_
    obtain ⟨ρ, lo, hp, s, q⟩ := q
    refine ⟨ρ, lo, hp, s, (Post.bind q).imp fun d ρ' hp' H' t q v hv => ?_⟩
    split at q
    · rename_i e
      rw [h0 rfl] at q
      exact ⟨ty_of hK t.rh hv e, W, σ, ρ', hp', d, [], t.rh, hv, .nil, q⟩
    · exact q.elim
  | cons e es =>
    have hfew : ((backTo cp (starEach (e :: es) X.env)).all (fun x => !x.1) && (backToKw cp (keywordEach [] X.env)).all (fun x => x.1.isSome)
        && decide ((e :: es).length + ([] : List Keyword).length + (if ([] : List Keyword).isEmpty then 0 else 1) < 30)) = true := by
      rw [star_all2 hs]
      show (true && true && decide _) = true
      simp only [List.length_cons, List.length_nil, Bool.true_and, decide_eq_true_eq] at hn ⊢
      simp
      omega
    refine PE.weak (pe_mg pa slot hty hm ho ha (base_of hb _ _) hfew hl (star_of (hs e List.mem_cons_self) _) (star_all (fun e' h => hs e' (List.mem_cons_of_mem _ h)) cp _)) fun σ H Q q => ?_
    obtain ⟨ρ, lo, hp, s, q⟩ := q
    refine ⟨ρ, lo, hp, s, (Post.bind q).imp fun d ρ' hp' H' t q v hv => ?_⟩
    split at q
    · rename_i e
      refine ⟨ty_of hK t.rh hv e, ρ', lo, hp', s.step t, ?_⟩
      exact (Post.bind q).imp fun ds ρ2 hp2 H2 st2 q vs hvs => ⟨W, σ, ρ2, hp2, d, ds, st2.rh, st2.den hv, hvs, q⟩
    · exact q.elim
theorem tI_or {X : Cx} {W : WX} {hx : HX} {e : Expr} {m m1 m2 : Lo → HP → Res D} (h1 : PE X e (tI Z W hx m1)) (h2 : PE X e (tI Z W hx m2)) (h : ∀ lo hp, m lo hp = m1 lo hp ∨ m lo hp = m2 lo hp) : PE X e (tI Z W hx m) :=
  PE.weak (PE.or h1 h2) fun σ H Q q => by
    obtain ⟨ρ, lo, hp, s, q⟩ := q
    rcases h lo hp with e | e
    · rw [e] at q
      exact .inl ⟨ρ, lo, hp, s, q⟩
    · rw [e] at q
      exact .inr ⟨ρ, lo, hp, s, q⟩
theorem hasM1 {m : MF} {T : MT} (h : okM m = [T]) {hp : HP} {d : D} {α : Type} {a b : α} : (if hasM m hp d = true then a else b) = if tyM hp d = some T then a else b := by
  unfold hasM
  rw [h]
  cases tyM hp d with
  | none => rfl
  | some t =>
    by_cases e : t = T
    · subst e
      simp
    · have e2 : ¬ (some t = some T) := fun q => e (Option.some.inj q)
      rw [if_neg e2, if_neg]
      simp [e]
/-- a method call -/
theorem mth_ok {X : Cx} {W : WX} {hx : HX} (hK : X.K = Z.K) {m : Str} {f : MF} (h : cMF m = some f) {o : Expr} {es : List Expr} {mo : Lo → HP → Res D} {ml : Lo → HP → Res (List D)} {ap cp : Pos}
    (ho : PE X o (tI Z W hx mo)) (ha : PA X es (tAI Z W hx ml)) (hs : ∀ e ∈ es, isStar e = false) (h0 : es = [] → ∀ lo hp, ml lo hp = .ok [] hp) (hb : isCall0 o = false) (hl : (ap.endLine == cp.line) = true) (hn : es.length < 29) :
    PE X (.Call (.Attribute o m ap) es [] cp) (tI Z W hx fun lo hp => (mo lo hp).bind fun x hp => if hasM f hp x = true then (ml lo hp).bind fun ds hp => evM f x ds hp else .bad) := by
  unfold cMF at h
  split at h
  · rename_i e
    subst e
    cases h
    simp only [hasM1 (show okM .append = [.list] from rfl)]
    exact n_mthT (T := .list) hK PySem.F.plainAttrs_list PySem.F.slot_list_append PySem.F.type_list_append append_ok ho ha hs h0 hb hl hn
  split at h
  · rename_i e
    subst e
    cases h
    simp only [hasM1 (show okM .upper = [.str] from rfl)]
    exact n_mthT (T := .str) hK PySem.F.plainAttrs_str PySem.F.slot_str_upper PySem.F.type_str_upper upper_ok ho ha hs h0 hb hl hn
  · cases h

theorem evL_nil {xs : EL} {f : Expr → Option E} (h : mapEL f [] = some xs) : ∀ lo hp, evL cf Z.sub xs lo hp = .ok [] hp := by
  rw [mapEL] at h
  cases h
  intro lo hp
  rw [evL]
theorem evL_len {f : Expr → Option E} : ∀ {es : List Expr} {xs : EL}, mapEL f es = some xs → ∀ lo hp ds hp', evL cf Z.sub xs lo hp = .ok ds hp' → ds.length = es.length
  | [], xs, h, lo, hp, ds, hp', e => by
    rw [mapEL] at h
    cases h
    rw [evL] at e
    cases e
    rfl
  | e :: es, xs, h, lo, hp, ds, hp', q => by
    rw [mapEL] at h
    split at h
    · cases h
    · split at h
      · rename_i x ys e1 e2
        cases h
        rw [evL] at q
        cases q1 : evE cf Z.sub x lo hp with
        | bad =>
          rw [q1] at q
          cases q
        | ex _ _ =>
          rw [q1] at q
          cases q
        | ok d hp1 =>
          rw [q1] at q
          dsimp only [Res.bind_ok] at q
          cases q2 : evL cf Z.sub ys lo hp1 with
          | bad =>
            rw [q2] at q
            cases q
          | ex _ _ =>
            rw [q2] at q
            cases q
          | ok ds2 hp2 =>
            rw [q2] at q
            cases q
            rw [List.length_cons, List.length_cons, evL_len e2 _ _ _ _ q2]
      · cases h
theorem mapKw_ok {X : Cx} {W : WX} {hx : HX} {f : Expr → Option E} : ∀ {ks : List Keyword} {xs : EL}, (∀ e x, f e = some x → PE X e (tI Z W hx (evE cf Z.sub x))) → mapEL f (ks.map (·.value)) = some xs → PK X ks (tAI Z W hx (evL cf Z.sub xs))
  | [], xs, _, h => by
    cases h
    have : evL cf Z.sub .nil = fun _ hp => .ok [] hp := by funext lo hp; rw [evL]
    rw [this]
    exact n_knil
  | k :: ks, xs, hf, h => by
    rw [List.map_cons, mapEL] at h
    split at h
    · cases h
    · split at h
      · rename_i x ys e1 e2
        cases h
        have : evL cf Z.sub (.cons x ys) = fun lo hp => (evE cf Z.sub x lo hp).bind fun x hp => (evL cf Z.sub ys lo hp).bind fun xs hp => .ok (x :: xs) hp := by funext lo hp; rw [evL]
        rw [this]
        obtain ⟨nm, e, p⟩ := k
        exact n_kcons (hf _ x e1) (mapKw_ok hf e2)
      · cases h
/-- a written dict's value -/
theorem n_kix {X : Cx} {W : WX} {hx : HX} {c : SC} (G : Good Z cf X c hx) {a b : Expr} {pos : Pos} {kvs : List (List Nat × D)} (h : dicB c a = some kvs) {mb : Lo → HP → Res D} (hb : PE X b (tI Z W hx mb)) (hs : isSlice b = false) :
    PE X (.Subscript a b pos) (tI Z W hx fun lo hp => (mb lo hp).bind fun y hp => lift (kget kvs y) hp) := by
  unfold dicB at h
  split at h
  · rename_i x p
    split at h
    · rename_i hg
      obtain ⟨b1, b2, b3⟩ := badName_of hg.2
      split at h
      · rename_i kv eg
        cases h
        obtain ⟨ad, hm, hv⟩ := G.glb _ _ eg (fun _ _ _ q => nomatch q)
        refine PE.weak (pe_ix ix_kdict (pe_glob (v := .ref ad) (glB_ok G.sc hg.1) hm rfl b1) hb (plainIx_of hs)) fun σ H Q q => ?_
        obtain ⟨ρ, lo, hp, s, q⟩ := q
        refine ⟨ρ, lo, hp, s, (Post.bind q).imp fun d ρ' hp' H' t q y hy => ?_⟩
        cases e : kget kvs d with
        | none =>
          rw [e] at q
          exact q.elim
        | some r =>
          rw [e] at q
          cases d with
          | str z =>
            obtain ⟨v, k1, k2⟩ := hv z r e
            rw [den_str] at hy
            exact ⟨ad, strOf z, v, rfl, hy.1, k1, q.at t.rh _ (k2 _ _ _)⟩
          | _ => cases e
      · cases h
    · cases h
  · cases h
/-- isinstance of the exception at hand -/
theorem xis_ok {X : Cx} {W : WX} {hx : HX} {c : SC} (G : Good Z cf X c hx) {en kn : Str} {p0 p1 p2 p3 : Pos} {j : Nat} {kk : Bool} (hb : bltB c "isinstance" = true) (hn : c.hn = some en) (hv : visB c.sc en = true) (hbe : badName en = false) (hg : glB c.sc kn = true) (hbk : badName kn = false)
    (eg : c.G.lookup kn = some (.exc j kk)) : Both Z X W hx (.Call (.Name "isinstance" p0) [.Name en p1, .Name kn p2] [] p3) (evE cf Z.sub (.xis j)) := by
  refine both_of G.K ?_ fun _ => rfl
  obtain ⟨g1, g2, g3, g4⟩ := bltB_ok G hb
  obtain ⟨b1, b2, b3⟩ := badName_of hbe
  obtain ⟨k1, k2, k3⟩ := badName_of hbk
  obtain ⟨c1, c2, c3⟩ := G.glb kn _ eg (fun _ _ _ q => nomatch q)
  have he : evE cf Z.sub (.xis j) = fun lo hp => match lo.x with
      | some x => if x.fs.isEmpty = true then .ok (.bl (Z.sub x.c j)) hp else .bad
      | none => .bad := by
    funext lo hp
    rw [evE] <;> rfl
  rw [he]
  cases hx with
  | none =>
    refine ⟨fun pins s σ H Q I q => ?_⟩
    obtain ⟨ρ, lo, hp, st, q⟩ := q
    have h := st.hx
    dsimp only at q
    cases e : lo.x with
    | none =>
      rw [e] at q
      exact q.elim
    | some x =>
      rw [e] at h
      exact h.elim
  | some y =>
    obtain ⟨i, a, cls, dd⟩ := y
    obtain ⟨jn, ei, hj⟩ := G.hxn i a cls dd en rfl hn
    subst ei
    obtain ⟨X0, oe, pn, eX, hz, hf⟩ := G.hotx _ a cls dd rfl
    refine ⟨fun pins s σ H Q I q => ?_⟩
    obtain ⟨ρ, lo, hp, st, q⟩ := q
    have h := st.hx
    dsimp only at q
    cases e : lo.x with
    | none =>
      rw [e] at q
      exact q.elim
    | some x =>
      rw [e] at h q
      dsimp only at q
      obtain ⟨xd, hs⟩ := h
      split at q
      rotate_left
      · exact q.elim
      rename_i hfs
      have q := q.at st.rh _ (den_bl.mpr rfl)
      cases ef : Z.xf x.c with
      | some f =>
        have xd2 := xd.2
        rw [ef] at xd2
        obtain ⟨d, _, _, e3, _⟩ := xd2
        rw [e3] at hfs
        cases hfs
      | none =>
        have xd2 := xd.2
        rw [ef] at xd2
        obtain ⟨xd1, xd3⟩ := xd2
        have ec := xd.1.1
        subst ec xd3
        obtain ⟨_, C⟩ := G.z.plain x.c xd.1.2 ef
        have hcall : CallR X (.builtin "isinstance") (rIsE X.K (Z.xc x.c) a) := by
          subst eX
          exact call_isE (by rw [show X0.K = Z.K from G.K]; exact C) hz hf
        have hA : PA X [.Name en p1, .Name kn p2] (tCons (tVar jn) (tCons (tC (.ref (Z.xc j))) tNil)) :=
          pa_cons (pe_var (by rw [G.N]; exact hj) (by rw [G.sc]; exact visB_ok hv) b1 b2) (pa_cons (pe_glob (glB_ok G.sc hg) c2 rfl k1) pa_nil rfl) rfl
        refine (pe_callB hcall g1 g2 (by decide +kernel) hA g3 g4 rfl rfl).run pins s σ H Q I ⟨_, hs jn rfl, _, _, _, rfl, fun u r => r, by rw [G.K]; exact G.z.kit _ _ xd.1.2 c1, q⟩
/-- EVERY EXPRESSION -/
theorem cE_ok : ∀ (n : Nat) (c : SC) (e : Expr) (x : E), cE n c e = some x → ∀ (X : Cx) (W : WX) (hx : HX), Good Z cf X c hx → Takes X W → Both Z X W hx e (evE cf Z.sub x)
  | 0, _, _, _, h, _, _, _, _, _ => by cases h
  | n + 1, c, e, x, h, X, W, hx, G, tk => by
    have ih : ∀ e x, cE n c e = some x → Both Z X W hx e (evE cf Z.sub x) := fun e x q => cE_ok n c e x q X W hx G tk
    have ihE : ∀ e x, cE n c e = some x → PE X e (tI Z W hx (evE cf Z.sub x)) := fun e x q => (ih e x q).1
    unfold cE at h
    split at h
    · exact cName_ok G h
    · exact cConst_ok G h
    · -- an operation
      split at h
      · rename_i o x y e1 e2 e3
        cases h
        rw [show evE cf Z.sub (.bin o x y) = fun lo hp => (evE cf Z.sub x lo hp).bind fun d hp => (evE cf Z.sub y lo hp).bind fun u hp => opB o d u hp by funext lo hp; rw [evE]]
        exact both_of G.K (n_bin G.K o (ihE _ _ e2) (ihE _ _ e3) (cBOp_ok e1)) fun _ => rfl
      · cases h
    · obtain ⟨y, e1, e2⟩ := Option.map_eq_some_iff.mp h
      subst e2
      refine both_of G.K ?_ fun _ => rfl
      rw [show evE cf Z.sub (.neg y) = fun lo hp => (evE cf Z.sub y lo hp).bind fun x hp => match x with
        | .int i => .ok (.int (-i)) hp
        | _ => .bad by funext lo hp; rw [evE] <;> rfl]
      exact n_neg (ihE _ _ e1)
    · obtain ⟨y, e1, e2⟩ := Option.map_eq_some_iff.mp h
      subst e2
      rw [show evE cf Z.sub (.not y) = mNot (evE cf Z.sub y) by funext lo hp; rw [evE] <;> rfl]
      exact ⟨n_not (ih _ _ e1).2 G.K (ih _ _ e1).1, n_notT (ih _ _ e1).2⟩
    · obtain ⟨q1, q2⟩ := boolAnd_ok (pos := _) G.K ih h
      exact ⟨q1, q2.pt⟩
    · obtain ⟨q1, q2⟩ := boolOr_ok (pos := _) G.K ih h
      exact ⟨q1, q2.pt⟩
    · split at h
      · rename_i x y z e1 e2 e3
        cases h
        rw [show evE cf Z.sub (.ite x y z) = mIte (evE cf Z.sub x) (evE cf Z.sub y) (evE cf Z.sub z) by funext lo hp; rw [evE] <;> rfl]
        exact ⟨n_ite (ih _ _ e1).2 (ih _ _ e2).1 (ih _ _ e3).1, n_iteT (ih _ _ e1).2 (ih _ _ e2).2 (ih _ _ e3).2⟩
      · cases h
    · rename_i a o b p
      split at h
      · rename_i k x y e1 e2 e3
        cases h
        rw [show evE cf Z.sub (.cmp k x y) = fun lo hp => (evE cf Z.sub x lo hp).bind fun d hp => (evE cf Z.sub y lo hp).bind fun u hp => (lift (opC k d u hp) hp).bind fun r hp => .ok (.bl r) hp by funext lo hp; rw [evE]]
        have hnone : ∀ j p, b = PySem.Expr.Constant .none j p → ∀ lo hp, evE cf Z.sub y lo hp = .ok .non hp := fun j p eb lo hp => by
          subst eb
          cases n with
          | zero => cases e3
          | succ n =>
            unfold cE at e3
            cases e3
            rw [evE]
        rcases cCOp_ok e1 with ⟨h1, h2, j, p, h3⟩ | ⟨h1, h2, j, p, h3⟩ | ⟨h1, h2, h3, h4⟩
        · have hn := hnone j p h3
          subst h1 h2 h3
          exact ⟨n_isN false (ihE _ _ e2) hn, n_isNT false (ihE _ _ e2) hn⟩
        · have hn := hnone j p h3
          subst h1 h2 h3
          exact ⟨n_isN true (ihE _ _ e2) hn, n_isNT true (ihE _ _ e2) hn⟩
        · exact ⟨n_cmp G.K G.room k h1 h2 (ihE _ _ e2) (ihE _ _ e3) h3 (noSet h4), n_cmpT G.K G.room k h1 h2 (ihE _ _ e2) (ihE _ _ e3) h3 (noSet h4)⟩
      · cases h
    · split at h
      · rename_i o1 o2 x y z e1 e2 e3 e4 e5
        split at h
        · rename_i hc
          cases h
          rcases cCOp_ok e1 with ⟨h1, _⟩ | ⟨h1, _⟩ | ⟨_, _, h3, _⟩
          · exact absurd h1 hc.1
          · exact absurd h1 hc.2.1
          rcases cCOp_ok e2 with ⟨h1, _⟩ | ⟨h1, _⟩ | ⟨_, _, h5, h6⟩
          · exact absurd h1 hc.2.2.1
          · exact absurd h1 hc.2.2.2
          subst h3 h5
          rw [show evE cf Z.sub (.chain o1 o2 x y z) = fun lo hp => (evE cf Z.sub x lo hp).bind fun x h => (evE cf Z.sub y lo h).bind fun y h => (lift (opC o1 x y h) h).bind fun r h =>
            if r = true then (evE cf Z.sub z lo h).bind fun z h => (lift (opC o2 y z h) h).bind fun r h => .ok (.bl r) h else .ok (.bl false) h by funext lo hp; rw [evE]]
          exact ⟨n_chain G.K G.room o1 o2 hc.1 hc.2.1 hc.2.2.1 hc.2.2.2 (ihE _ _ e3) (ihE _ _ e4) (ihE _ _ e5) (noSet h6), n_chainT G.K G.room o1 o2 hc.1 hc.2.1 hc.2.2.1 hc.2.2.2 (ihE _ _ e3) (ihE _ _ e4) (ihE _ _ e5) (noSet h6)⟩
        · cases h
      · cases h
    · -- a call by name
      rename_i f p0 es p1
      split at h
      · rename_i hh
        split at h
        · rename_i hb
          obtain ⟨ef, hb⟩ := hb
          subst ef
          split at h
          · rename_i en pe kn pk
            split at h
            · rename_i hc
              split at h
              · rename_i j kk eg
                cases h
                exact xis_ok G hb hc.1 hc.2.1 hc.2.2.1 hc.2.2.2.1 hc.2.2.2.2 eg
              · cases h
            · cases h
          · cases h
        · cases h
      rename_i hh
      have hh2 : c.hot = false := by simpa using hh
      have hcalm : X.calm = true := G.calm hh2
      split at h
      · rename_i ef
        subst ef
        split at h
        · rename_i hb
          split at h
          · rename_i a t
            split at h
            · rename_i y ts e1 e2
              split at h
              · cases h
              · rename_i hs
                have hs : isStar a = false := by simpa using hs
                cases h
                unfold cTys at e2
                split at e2
                · rename_i z pz
                  split at e2
                  · rename_i hb2
                    obtain ⟨t, e3, e4⟩ := Option.map_eq_some_iff.mp e2
                    subst e4
                    obtain ⟨g1, g2, g3, g4⟩ := bltB_ok G hb
                    obtain ⟨k1, k2, k3, k4⟩ := bltB_ok G hb2
                    rw [show evE cf Z.sub (.isi y [t]) = fun lo hp => (evE cf Z.sub y lo hp).bind fun d hp => if (dTy hp d).isSome = true then .ok (.bl ([t].any (isTy hp d))) hp else .bad by funext lo hp; rw [evE]]
                    exact both_of G.K (n_isi G.K g1 g2 (by decide +kernel) g3 g4 k1 k2 (cTy_v e3) k3 k4 (ihE _ _ e1) hs) fun _ => rfl
                  · cases e2
                · cases e2
            · cases h
          · cases h
        · cases h
      · split at h
        · rename_i xs ex
          obtain ⟨q1, q2⟩ := mapEL_ok ihE ex
          split at h
          · rename_i hg
            obtain ⟨b1, b2, b3⟩ := badName_of hg.2
            split at h
            · rename_i i ps eg
              split at h
              · rename_i hl
                cases h
                obtain ⟨c1, fa, fd, k, c2, c3, c4, c5, c6⟩ := G.glb f _ eg (fun q => by rw [hh2] at q; cases q)
                rw [show evE cf Z.sub (.call i xs) = fun lo hp => (evL cf Z.sub xs lo hp).bind fun ds hp => cf i ds hp by funext lo hp; rw [evE]]
                refine both_of G.K ?_ fun _ => rfl
                cases es with
                | nil =>
                  have e0 : evL cf Z.sub xs = fun lo hp => .ok [] hp := by funext lo hp; exact evL_nil ex lo hp
                  rw [e0]
                  exact n_call0 c6 c5 (glB_ok G.sc hg.1) c2 c3 (binds_of c4) tk c1 b1
                | cons e es => exact n_call c6 c5 (glB_ok G.sc hg.1) c2 c3 (binds_of c4) tk q1 c1 b1 q2
              · cases h
            · rename_i eg
              split at h
              · cases h
              · obtain ⟨b, e1, e2⟩ := Option.map_eq_some_iff.mp h
                subst e2
                rw [show evE cf Z.sub (.blt b xs) = fun lo hp => (evL cf Z.sub xs lo hp).bind fun ds hp => evB b ds hp by funext lo hp; rw [evE]]
                exact both_of G.K (n_blt G.K hcalm b (glB_ok G.sc hg.1) (G.glb f _ eg (fun _ _ _ q => nomatch q)) (cBF_v e1) b3 b1 q1 q2) fun _ => rfl
            · cases h
          · cases h
        · cases h
    · -- a call with keywords
      rename_i f p0 es k ks p1
      split at h
      · cases h
      rename_i hh
      have hh2 : c.hot = false := by simpa using hh
      split at h
      · rename_i hg
        obtain ⟨b1, b2, b3⟩ := badName_of hg.2
        split at h
        · rename_i i ps eg
          split at h
          · rename_i hk
            split at h
            · rename_i xs ys pm e1 e2 e3
              cases h
              obtain ⟨q1, q2⟩ := mapEL_ok ihE e1
              obtain ⟨c1, fa, fd, kk, c2, c3, c4, c5, c6⟩ := G.glb f _ eg (fun q => by rw [hh2] at q; cases q)
              rw [show evE cf Z.sub (.kcall i pm xs ys) = fun lo hp => (evL cf Z.sub xs lo hp).bind fun ds hp => (evL cf Z.sub ys lo hp).bind fun us hp => cf i (ds ++ pm.filterMap (us[·]?)) hp by funext lo hp; rw [evE]]
              have hnm : (kwNames (k :: ks)).length = ((k :: ks).map (·.value)).length := by
                unfold kwOk at hk
                simp only [Bool.and_eq_true, List.all_eq_true] at hk
                have := hk.1.1.1
                unfold kwNames
                generalize k :: ks = l at this ⊢
                induction l with
                | nil => rfl
                | cons a l ih =>
                  have ha := this a List.mem_cons_self
                  obtain ⟨z, hz⟩ := Option.isSome_iff_exists.mp ha
                  rw [List.filterMap_cons, hz]
                  simp only [List.map_cons, List.length_cons]
                  rw [ih fun x hx => this x (List.mem_cons_of_mem _ hx)]
              refine both_of G.K ?_ fun _ => rfl
              exact n_kcall c6 c5 (glB_ok G.sc hg.1) c2 c3 c4.1 c4.2.1 c4.2.2 tk q1 (mapKw_ok ihE e2) q2 (fun e => by subst e; exact evL_nil e1) (evL_len e1) (fun lo hp ds hp' q => by rw [hnm]; exact evL_len e2 _ _ _ _ q) hk e3 b1
            · cases h
          · cases h
        · cases h
      · cases h
    · -- a method
      rename_i o m ap es cp
      split at h
      · cases h
      rename_i hh
      have hb : isCall0 o = false := by
        cases q : isCall0 o with
        | false => rfl
        | true => exact absurd (.inr q) hh
      split at h
      · rename_i f y xs e1 e2 ex
        split at h
        · rename_i hl
          cases h
          obtain ⟨q1, q2⟩ := mapEL_ok ihE ex
          rw [show evE cf Z.sub (.mth f y xs) = fun lo hp => (evE cf Z.sub y lo hp).bind fun x hp => if hasM f hp x = true then (evL cf Z.sub xs lo hp).bind fun ds hp => evM f x ds hp else .bad by funext lo hp; rw [evE]]
          exact both_of G.K (mth_ok G.K e1 (ihE _ _ e2) q1 q2 (fun e => by subst e; exact evL_nil ex) hb hl.1 hl.2) fun _ => rfl
        · cases h
      · cases h
    · -- a tuple
      obtain ⟨xs, e1, e2⟩ := Option.map_eq_some_iff.mp h
      subst e2
      obtain ⟨q1, q2⟩ := mapEL_ok ihE e1
      rw [show evE cf Z.sub (.tup xs) = fun lo hp => (evL cf Z.sub xs lo hp).bind fun ds hp => if ds.length ≤ LIM then .ok (.tup ds) hp else .bad by funext lo hp; rw [evE]]
      exact both_of G.K (n_tup q1) fun _ => rfl
    · obtain ⟨xs, e1, e2⟩ := Option.map_eq_some_iff.mp h
      subst e2
      obtain ⟨q1, q2⟩ := mapEL_ok ihE e1
      rw [show evE cf Z.sub (.lst xs) = fun lo hp => (evL cf Z.sub xs lo hp).bind fun ds hp => if ds.length ≤ LIM then .ok (.ref hp.length) (hp ++ [.lst ds]) else .bad by funext lo hp; rw [evE]]
      exact both_of G.K (n_lst q1) fun _ => rfl
    · cases h
      rw [show evE cf Z.sub .emp = fun _ hp => .ok (.ref hp.length) (hp ++ [.dct []]) by funext lo hp; rw [evE]]
      exact both_of G.K n_emp fun _ => rfl
    · -- slices
      obtain ⟨y, e1, e2⟩ := Option.map_eq_some_iff.mp h
      subst e2
      rw [show evE cf Z.sub (.slc y false false (.con .non) (.con .non)) = fun lo hp => (evE cf Z.sub y lo hp).bind fun x hp => (Res.ok (none : Option Int) hp).bind fun i hp => (Res.ok (none : Option Int) hp).bind fun j hp => opSl x i j hp by
        funext lo hp
        rw [evE]
        simp only [evE, sPart, Res.bind_ok, lift_some]]
      exact both_of G.K (n_slc G.K (ihE _ _ e1) n_part0 n_part0) fun _ => rfl
    · split at h
      · rename_i y z e1 e2
        cases h
        rw [show evE cf Z.sub (.slc y true false z (.con .non)) = fun lo hp => (evE cf Z.sub y lo hp).bind fun x hp => ((evE cf Z.sub z lo hp).bind fun y hp => lift (sPart true y) hp).bind fun i hp => (Res.ok (none : Option Int) hp).bind fun j hp => opSl x i j hp by
          funext lo hp
          rw [evE]
          simp only [evE, Res.bind_ok, lift_some, bind_assoc]
          rfl]
        exact both_of G.K (n_slc G.K (ihE _ _ e1) (n_part1 (ihE _ _ e2)) n_part0) fun _ => rfl
      · cases h
    · split at h
      · rename_i y z e1 e2
        cases h
        rw [show evE cf Z.sub (.slc y false true (.con .non) z) = fun lo hp => (evE cf Z.sub y lo hp).bind fun x hp => (Res.ok (none : Option Int) hp).bind fun i hp => ((evE cf Z.sub z lo hp).bind fun y hp => lift (sPart true y) hp).bind fun j hp => opSl x i j hp by
          funext lo hp
          rw [evE]
          simp only [evE, sPart, Res.bind_ok, lift_some, bind_assoc]]
        exact both_of G.K (n_slc G.K (ihE _ _ e1) n_part0 (n_part1 (ihE _ _ e2))) fun _ => rfl
      · cases h
    · split at h
      · rename_i y z u e1 e2 e3
        cases h
        rw [show evE cf Z.sub (.slc y true true z u) = fun lo hp => (evE cf Z.sub y lo hp).bind fun x hp => ((evE cf Z.sub z lo hp).bind fun y hp => lift (sPart true y) hp).bind fun i hp => ((evE cf Z.sub u lo hp).bind fun y hp => lift (sPart true y) hp).bind fun j hp => opSl x i j hp by
          funext lo hp
          rw [evE]
          simp only [bind_assoc]]
        exact both_of G.K (n_slc G.K (ihE _ _ e1) (n_part1 (ihE _ _ e2)) (n_part1 (ihE _ _ e3))) fun _ => rfl
      · cases h
    · split at h
      · cases h
      · rename_i hs
        split at h
        · rename_i kvs ed
          obtain ⟨y, e1, e2⟩ := Option.map_eq_some_iff.mp h
          subst e2
          rw [show evE cf Z.sub (.kix kvs y) = fun lo hp => (evE cf Z.sub y lo hp).bind fun y hp => lift (kget kvs y) hp by funext lo hp; rw [evE]]
          exact both_of G.K (n_kix G ed (ihE _ _ e1) (by simpa using hs)) fun _ => rfl
        split at h
        · rename_i y z e1 e2
          cases h
          rw [show evE cf Z.sub (.ix y z) = fun lo hp => (evE cf Z.sub y lo hp).bind fun x hp => (evE cf Z.sub z lo hp).bind fun y hp => lift (opIx x y hp) hp by funext lo hp; rw [evE]]
          exact both_of G.K (n_ix G.K (ihE _ _ e1) (ihE _ _ e2) (by simpa using hs)) fun _ => rfl
        · cases h
    · cases h
end
end MP

end
section
set_option Elab.async false
set_option linter.all false
set_option maxRecDepth 100000
set_option maxHeartbeats 2000000
/-! MP: try with several clauses, with and without names. -/
namespace MP
open PySem L2
open PyProof.Rows hiding St
/-- a clause: the class, the name's slot, the suite's reading -/
abbrev Hd := Value × Option Nat × (Addr → Value → Option Addr → TS)
def dropN (D : Ends) (i : Nat) : Ends := { nx := fun σ' H' => D.nx (σ'.set i none) H', rt := D.rt, bk := fun σ' H' => D.bk (σ'.set i none) H', ct := fun σ' H' => D.ct (σ'.set i none) H' }
def suiteW (D : Ends) (i : Option Nat) (ts : TS) (a : Addr) (σ : St) (H : Hp) : Prop :=
  match i with
  | none => ts D σ H
  | some i => ts (dropN D i) (σ.set i (some (.ref a))) H
def wAll (K : PySem.W.Frag) (Wout : WX) (D : Ends) : List Hd → WX
  | [] => Wout
  | (c, i, ts) :: r => fun cls d σ H => ∃ b, PySem.W.exmOne K cls c = some b ∧ (b = true → ∀ a, H a = none → suiteW D i (ts a cls d) a σ H) ∧ (b = false → wAll K Wout D r cls d σ H)
inductive HdA (X : Cx) : List ExceptHandler → List Hd → Prop
  | nil : HdA X [] []
  | anon {x : Str} {c : Value} {ts : Addr → Value → Option Addr → TS} {b₀ : Stmt} {suite : List Stmt} {np pos' : Pos} {hds : List ExceptHandler} {l : List Hd} (hc : Names X x c)
      (hsu : ∀ (a : Addr) (oe : Obj) (cls : Value) (d : Option Addr) (pn : List (Addr × Obj)), Zc cls d oe → (∃ vs, oe.data = .fields vs) → PSs (X.suite a ((a, oe) :: pn)) (b₀ :: suite) (ts a cls d)) (r : HdA X hds l) :
      HdA X (.ExceptHandler (some (.Name x np)) none (b₀ :: suite) pos' :: hds) ((c, none, ts) :: l)
  | named {x n : Str} {i : Nat} {c : Value} {ts : Addr → Value → Option Addr → TS} {b₀ : Stmt} {suite : List Stmt} {np pos' : Pos} {hds : List ExceptHandler} {l : List Hd} (hc : Names X x c) (hi : X.N[i]? = some n) (hln : X.env.kindOf n = some .local)
      (hsu : ∀ (a : Addr) (oe : Obj) (cls : Value) (d : Option Addr) (pn : List (Addr × Obj)), Zc cls d oe → (∃ vs, oe.data = .fields vs) → PSs (X.suite a ((a, oe) :: pn)) (b₀ :: suite) (ts a cls d)) (r : HdA X hds l) :
      HdA X (.ExceptHandler (some (.Name x np)) (some n) (b₀ :: suite) pos' :: hds) ((c, some i, ts) :: l)
section
variable {X : Cx} {body : List Stmt} {h₀ : ExceptHandler} {hds : List ExceptHandler} {l : List Hd} {pos : Pos} {tb : WX → TS} {Wout : WX}
theorem ps_try_all (hs : X.stack = X.env :: X.outer) (hf : X.env.frame = some X.env.locals) (hN : X.N.Nodup) (tk : Takes X Wout)
    (hb : ∀ (W : WX) (pn : List (Addr × Obj)) (xe : Value → Shared → Prop), Takes (X.tr pn xe) W → PassesOwn (model X.prog X.w) X.A X.env xe → PSs (X.tr pn xe) body (tb W))
    (hh : HdA X (h₀ :: hds) l) : PS X (.Try body (h₀ :: hds) [] [] pos) (fun D σ H => tb (wAll X.K Wout D l) D σ H) := by
  refine ⟨fun pins s σ H D I h => ?_⟩
  have ok := I.ok
  have hfr : X.A.frames = some (X.env :: X.outer) := by rw [ok.frames, hs]
  refine wpAny_Try_except ?_
  refine wpAny_mono ((hb (wAll X.K Wout D l) (X.pn ++ pins) (fun e s₁ => wpAny (model X.prog X.w) X.A (noteFrame e X.env) (fun _ s₂ => wpAny (model X.prog X.w) X.A (setFlight e none) (fun _ s₃ =>
    wpAny (model X.prog X.w) X.A (handleBy e X.env (h₀ :: hds)) (SP X pins D) X.xe s₃) X.xe s₂) X.xe s₁) (fun u s' xx => ?_) PassesOwn.looking).run [] s σ H D (I.toTry _) h) (fun f s1 hsp => ?_) (fun e s1 he => he)
  · obtain ⟨a, B, sI, pins', σ', H', cls, d, rfl, J', nb, up, sky, na, os, ag, w⟩ := xx
    have J : Inv X pins σ' H' sI := J'.ofTry ok
    have sky' : Sky B (X.env :: X.outer) a (Zc cls d) X.env.locals s'.heap := by rw [← hs]; exact sky
    show wpAny (model X.prog X.w) X.A (noteFrame (.ref a) X.env) _ _ _
    refine Sky.land Zc.steady hfr hf sky' fun h3 fl3 up3 => ?_
    have J3 : Inv X pins σ' H' { s' with heap := h3 } := J.landed nb fl3.1 (up.trans up3) os ag
    obtain ⟨oe3, vs3, he3, hz3, hd3⟩ := fl3.there
    have notFr : ∀ {h : Heap} {o : Obj} {vs : Array Value}, h.FunFrames B (X.env :: X.outer) → h.get? a = some o → o.data = .fields vs → a ∉ frs (X.env :: X.outer) := fun {h o vs} ff e dd hm => by
      obtain ⟨_, o', e', hnf⟩ := ff.mem hm
      rw [e] at e'; cases e'
      exact hnf _ dd
    have nfr := notFr fl3.2.2.1 he3 hd3
    have nL : a ≠ X.env.locals := fun z => nfr (List.mem_filterMap.mpr ⟨X.env, List.mem_cons_self, by rw [hf, z]⟩)
    have nF : a ∉ X.fs := fun hm => by
      obtain ⟨e, he, q⟩ := List.mem_filterMap.mp hm
      exact nfr (List.mem_filterMap.mpr ⟨e, List.mem_cons_of_mem _ he, q⟩)
    have S3 := J3.suite he3 hd3 na nL nF
    have tst : ∀ {x : Str} {c : Value} {np : Pos}, Names X x c → ∀ {Q : Value → Shared → Prop} {E : Value → Shared → Prop}, Q c { s' with heap := h3 } → wpAny (model X.prog X.w) (X.A.mark (some (.ref a))) (eval (.Name x np) X.env) Q E { s' with heap := h3 } := fun {x c np} hc {Q E} q => by
      obtain ⟨hg, hdbg, hm | ⟨hm, hv, hnn⟩⟩ := hc
      · exact ld_glob (X := X.suite a ((a, oe3) :: (X.pn ++ pins))) S3 hg hm q hdbg
      · exact ld_blt (X := X.suite a ((a, oe3) :: (X.pn ++ pins))) S3 hg hm hv q hnn hdbg
    have LT : PySem.W.Looks (model X.prog X.w) h3 (typeOf (.ref a)) cls := fun A Q E s k q => wpAny_typeOf_ref (k _ _ he3) (by rw [hz3.1]; exact q)
    have go : ∀ {hds' : List ExceptHandler} {l' : List Hd}, HdA X hds' l' → wAll X.K Wout D l' cls d σ' H' →
        wpAny (model X.prog X.w) X.A (handleBy (.ref a) X.env hds') (SP X pins D) X.xe { s' with heap := h3 } := by
      intro hds' l' hk
      induction hk with
      | nil =>
        intro w
        refine wpAny_handleBy_nil ?_
        obtain ⟨k1, k2, k3, oe, vs, T, oT, ts', he, hz, hd, h1, hr⟩ := id fl3
        unfold PySem.passOn
        refine wpAny_bind (wpAny_field he hd h1 ?_)
        rw [if_neg (show ¬ ((Value.ref T == Value.none) = true) from by simp)]
        have fin : wpAny (model X.prog X.w) X.A (setFlight (.ref a) X.env.frame) (fun _ s4 => wpAny (model X.prog X.w) X.A (throw (.ref a) : Sem Flow) (SP X pins D) X.xe s4) X.xe { s' with heap := h3 } := by
          rw [hf]
          refine HandSPX.setFlight_upZ fl3 fun h4 hh4 up4 => wpAny_throw (tk _ _ ?_)
          exact ⟨a, B, sI, pins, σ', H', cls, d, rfl, J, nb, (up.trans up3).trans up4, .inr (.inr (by rw [hs]; exact hh4)), na, os, ag, w⟩
        first
          | exact wpAny_bind (wpAny_pure (wpAny_bind fin))
          | exact wpAny_bind fin
      | @anon x c ts b₀ suite np pos' hds2 l2 hc hsu r ih =>
        intro w
        obtain ⟨b, hb1, hyes, hno⟩ := w
        refine wpAny_handleBy_cons (codeAny_handlers_test ?_) (by intro q; cases q)
        have LM := PySem.W.exm_one (M := model X.prog X.w) (J3.kIn) LT hb1
        refine tst hc (LM.here ?_)
        cases b with
        | true =>
          refine codeAny_handlers_suite ?_
          refine HandSPX.lands_againZ fl3 fun h4 fl4 up4 => ?_
          have J4 : Inv X pins σ' H' { s' with heap := h4 } := J.landed nb fl4.1 ((up.trans up3).trans up4) os ag
          obtain ⟨oe4, vs4, he4, hz4, hd4⟩ := fl4.there
          have S4 := J4.suite he4 hd4 na nL nF
          refine wpAny_mono ((hsu a oe4 cls d (X.pn ++ pins) hz4 ⟨_, hd4⟩).run [] _ _ H' _ S4 (hyes rfl a na)) (fun f s6 hsp => ?_) (fun _ _ z => False.elim z)
          cases f with
          | next =>
            obtain ⟨σ6, H6, S6, q6⟩ := hsp
            exact ⟨_, _, S6.unsuite ok, q6⟩
          | brk =>
            obtain ⟨σ6, H6, S6, q6⟩ := hsp
            exact ⟨_, _, S6.unsuite ok, q6⟩
          | cont =>
            obtain ⟨σ6, H6, S6, q6⟩ := hsp
            exact ⟨_, _, S6.unsuite ok, q6⟩
          | ret u =>
            obtain ⟨v6, σ6, H6, S6, r6, q6⟩ := hsp
            exact ⟨_, _, _, S6.unsuite ok, r6, q6⟩
        | false =>
          show wpAny _ X.A (handleBy (.ref a) X.env hds2) _ _ _
          exact ih (hno rfl)
      | @named x n i c ts b₀ suite np pos' hds2 l2 hc hi hln hsu r ih =>
        intro w
        obtain ⟨b, hb1, hyes, hno⟩ := w
        have hloc : Loc X.env.scope n := .inl hln
        refine wpAny_handleBy_cons (codeAny_handlers_test ?_) (by intro q; cases q)
        have LM := PySem.W.exm_one (M := model X.prog X.w) (J3.kIn) LT hb1
        refine tst hc (LM.here ?_)
        cases b with
        | true =>
          refine codeAny_handlers_suite_as ?_
          refine HandSPX.lands_againZ fl3 fun h4 fl4 up4 => ?_
          have J4 : Inv X pins σ' H' { s' with heap := h4 } := J.landed nb fl4.1 ((up.trans up3).trans up4) os ag
          obtain ⟨oe4, vs4, he4, hz4, hd4⟩ := fl4.there
          have S4 := J4.suite he4 hd4 na nL nF
          refine store_ok (X := X.suite a ((a, oe4) :: (X.pn ++ pins))) (v := .ref a) S4 hN hi hloc rfl (fun s5 S5 => ?_) (.inr hln)
          refine wpAny_mono ((hsu a oe4 cls d (X.pn ++ pins) hz4 ⟨_, hd4⟩).run [] s5 _ H' _ S5 (hyes rfl a na)) (fun f s6 hsp => ?_) (fun _ _ z => False.elim z)
          have end_ : ∀ {σ6 : St} {H6 : Hp} {Q : Shared → Prop}, Inv (X.suite a ((a, oe4) :: (X.pn ++ pins))) [] σ6 H6 s6 → (∀ s7, Inv X pins (σ6.set i none) H6 s7 → Q s7) →
              wpAny (model X.prog X.w) X.A (do bindName X.env n .none; unbindBehindTheSuite X.env n pos') (fun _ s7 => Q s7) X.xe s6 := fun {σ6 H6 Q} S6 hq => gone_ok (S6.unsuite ok) hN hi hln hq
          cases f with
          | next =>
            obtain ⟨σ6, H6, S6, q6⟩ := hsp
            exact end_ S6 fun s7 J7 => ⟨_, _, J7, q6⟩
          | brk =>
            obtain ⟨σ6, H6, S6, q6⟩ := hsp
            exact end_ S6 fun s7 J7 => ⟨_, _, J7, q6⟩
          | cont =>
            obtain ⟨σ6, H6, S6, q6⟩ := hsp
            exact end_ S6 fun s7 J7 => ⟨_, _, J7, q6⟩
          | ret u =>
            obtain ⟨v6, σ6, H6, S6, r6, q6⟩ := hsp
            exact end_ S6 fun s7 J7 => ⟨_, _, _, J7, r6, q6⟩
        | false =>
          show wpAny _ X.A (handleBy (.ref a) X.env hds2) _ _ _
          exact ih (hno rfl)
    exact go hh w
  · cases f with
    | next =>
      obtain ⟨σ', H', J', q⟩ := hsp
      exact wpAny_execs_nil ⟨σ', H', J'.ofTry ok, q⟩
    | brk =>
      obtain ⟨σ', H', J', q⟩ := hsp
      exact ⟨σ', H', J'.ofTry ok, q⟩
    | cont =>
      obtain ⟨σ', H', J', q⟩ := hsp
      exact ⟨σ', H', J'.ofTry ok, q⟩
    | ret u =>
      obtain ⟨v, σ', H', J', r, q⟩ := hsp
      exact ⟨v, σ', H', J'.ofTry ok, r, q⟩
end
end MP

end
section
set_option Elab.async false
set_option linter.all false
set_option maxRecDepth 100000
set_option maxHeartbeats 2000000
/-! MP: what is walked. -/
namespace MP
open PySem L2
open PyProof.Rows hiding St
/-- the iterator J yields just these items while the watched objects stay -/
def WalkOk (Z : Zx) (J : It) (items : List D) (ws : List (Nat × O)) (n0 : Nat) (ρ0 : Nat → Addr) (H0 : Hp) : Prop :=
  ∀ i ρ H hp, Agr n0 ρ0 ρ → Ext H0 H → n0 ≤ hp.length → RH Z H ρ hp → watchOk ws hp = true →
    (∀ d, items[i]? = some d → J.go i H ∧ ∀ x H', J.yld i H x H' → Step Z hp.length ρ H ρ hp H' ∧ Den Z H' ρ hp.length d x) ∧ (i = items.length → J.stop i H)
theorem walkL_inv {hp : HP} {d : D} {iw : List D × List (Nat × O)} (h : walkL hp d = some iw) : ∃ m o xs, d = .ref m ∧ hp[m]? = some o ∧ (o = .lst xs ∨ o = .frz xs) ∧ iw = (xs, [(m, o)]) := by
  unfold walkL at h
  split at h
  · rename_i m
    split at h
    · rename_i xs e
      cases h
      exact ⟨m, _, xs, rfl, e, .inl rfl, rfl⟩
    · rename_i xs e
      cases h
      exact ⟨m, _, xs, rfl, e, .inr rfl, rfl⟩
    · cases h
  · cases h
def tWI (Z : Zx) (W : WX) (hx : HX) (m : Lo → HP → Res (List D × List (Nat × O))) : TI := fun σ H R => ∃ ρ lo hp, Sst Z hx H ρ lo hp σ ∧
  Post Z W σ hp.length ρ H (m lo hp) fun iw ρ' hp' H' => ∀ J, WalkOk Z J iw.1 iw.2 hp'.length ρ' H' → R J H'
theorem PI.weak {X : Cx} {tg e : Expr} {t t' : TI} (h : PI X tg e t) (i : ∀ σ H Q, t' σ H Q → t σ H Q) : PI X tg e t' := ⟨fun pins s σ H Q I q => h.run pins s σ H Q I (i _ _ _ q)⟩
theorem PI.or {X : Cx} {tg e : Expr} {t t' : TI} (h : PI X tg e t) (h' : PI X tg e t') : PI X tg e (fun σ H Q => t σ H Q ∨ t' σ H Q) := ⟨fun pins s σ H Q I q => q.elim (h.run pins s σ H Q I) (h'.run pins s σ H Q I)⟩
section
variable {Z : Zx} {X : Cx} {W : WX} {hx : HX} {e tg : Expr} {ma mb : Lo → HP → Res D} {ml : Lo → HP → Res (List D)} {pos p : Pos}
theorem watch_get {ws : List (Nat × O)} {hp : HP} (h : watchOk ws hp = true) {m : Nat} {o : O} (hm : (m, o) ∈ ws) : hp[m]? = some o := of_decide_eq_true (List.all_eq_true.mp h _ hm)
theorem watch_app {a b : List (Nat × O)} {hp : HP} (h : watchOk (a ++ b) hp = true) : watchOk a hp = true ∧ watchOk b hp = true := by
  unfold watchOk at h ⊢
  rw [List.all_append, Bool.and_eq_true] at h
  exact h
/-- a list that stays -/
theorem RH.lstK {H : Hp} {ρ : Nat → Addr} {hp : HP} (r : RH Z H ρ hp) {m : Nat} {o : O} {xs : List D} (e : hp[m]? = some o) (ho : o = .lst xs ∨ o = .frz xs) : ∃ vs, SqL Z.K H (ρ m) vs ∧ DenL Z H ρ hp.length xs vs := by
  rcases ho with ho | ho
  · subst ho
    exact r.rd (by unfold rdL; rw [e])
  · subst ho
    exact r.rd (by unfold rdL; rw [e])
theorem walk_lst {H0 : Hp} {ρ0 : Nat → Addr} {hp0 : HP} (r0 : RH Z H0 ρ0 hp0) {m : Nat} {o : O} {xs : List D} (e : hp0[m]? = some o) (ho : o = .lst xs ∨ o = .frz xs) :
    WalkOk Z (Itl Z.K (ρ0 m)) xs [(m, o)] hp0.length ρ0 H0 := by
  intro i ρ H hp ag ex le r w
  have hm : m < hp0.length := (List.getElem?_eq_some_iff.mp e).1
  have e2 := watch_get w (List.mem_singleton.mpr rfl)
  obtain ⟨vs, s1, l1⟩ := r.lstK e2 ho
  rw [ag m hm] at s1
  refine ⟨fun d hd => ?_, fun hi => ⟨vs, s1, by rw [hi, l1.length]; exact Nat.le_refl _⟩⟩
  obtain ⟨v, e3, e4⟩ := l1.get hd
  refine ⟨⟨vs, v, s1, e3⟩, fun x H' hy => ?_⟩
  obtain ⟨h1, h2⟩ := hy
  subst h1
  have := h2 vs s1
  rw [e3] at this
  cases this
  exact ⟨Step.refl r, e4⟩
theorem walk_tup {H0 : Hp} {ρ0 : Nat → Addr} {n0 : Nat} {xs : List D} {vs : List V} {a : Addr} (s0 : SqT Z.K H0 a vs) (l0 : DenL Z H0 ρ0 n0 xs vs) : WalkOk Z (Itt Z.K a) xs [] n0 ρ0 H0 := by
  intro i ρ H hp ag ex le r w
  have s1 := ex.sqT s0
  have l1 := l0.mono ex ag le
  refine ⟨fun d hd => ?_, fun hi => ⟨vs, s1, by rw [hi, l1.length]; exact Nat.le_refl _⟩⟩
  obtain ⟨v, e3, e4⟩ := l1.get hd
  refine ⟨⟨vs, v, s1, e3⟩, fun x H' hy => ?_⟩
  obtain ⟨h1, h2⟩ := hy
  subst h1
  have := h2 vs s1
  rw [e3] at this
  cases this
  exact ⟨Step.refl r, e4⟩
theorem walk_str {H0 : Hp} {ρ0 : Nat → Addr} {n0 : Nat} {s : List Nat} (hs : okS s) : WalkOk Z (Its (strOf s)) (s.map fun c => .str [c]) [] n0 ρ0 H0 := by
  intro i ρ H hp ag ex le r w
  have hsz : (strOf s).cps.size = s.length := strOf_length s
  refine ⟨fun d hd => ?_, fun hi => by
    show (strOf s).cps.size ≤ i
    rw [hi, hsz, List.length_map]
    exact Nat.le_refl _⟩
  rw [List.getElem?_map] at hd
  obtain ⟨c, e1, e2⟩ := Option.map_eq_some_iff.mp hd
  subst e2
  have hi := (List.getElem?_eq_some_iff.mp e1).1
  refine ⟨by show i < (strOf s).cps.size; rw [hsz]; exact hi, fun x H' hy => ?_⟩
  obtain ⟨h1, c', h2, h3⟩ := hy
  subst h1 h3
  have : (strOf s).cps[i]? = s[i]? := by unfold strOf; simp
  rw [this, e1] at h2
  cases h2
  refine ⟨Step.refl r, den_str.mpr ⟨rfl, okS_sub hs (by simp only [List.length_singleton]; omega) fun c' hc => ?_⟩⟩
  rw [List.mem_singleton] at hc
  rw [hc]
  exact List.mem_of_getElem? e1
theorem upto_get : ∀ {n : Nat} {lo : Int} {i : Nat}, i < n → (upto lo n)[i]? = some (.int (lo + (i : Int)))
  | n + 1, lo, 0, _ => by simp [upto]
  | n + 1, lo, i + 1, h => by
    rw [upto, List.getElem?_cons_succ, upto_get (by omega)]
    congr 2
    omega
theorem upto_length : ∀ {n : Nat} {lo : Int}, (upto lo n).length = n
  | 0, _ => rfl
  | n + 1, lo => by rw [upto, List.length_cons, upto_length]
theorem walk_rng {H0 : Hp} {ρ0 : Nat → Addr} {n0 : Nat} {lo : Int} {n : Nat} : WalkOk Z (Itr lo n) (upto lo n) [] n0 ρ0 H0 := by
  intro i ρ H hp ag ex le r w
  refine ⟨fun d hd => ?_, fun hi => by
    show n ≤ i
    rw [hi, upto_length]
    exact Nat.le_refl _⟩
  have hi : i < n := by
    have := (List.getElem?_eq_some_iff.mp hd).1
    rw [upto_length] at this
    exact this
  rw [upto_get hi] at hd
  cases hd
  refine ⟨hi, fun x H' hy => ?_⟩
  obtain ⟨h1, h2⟩ := hy
  subst h1 h2
  exact ⟨Step.refl r, den_int.mpr rfl⟩
theorem nums_get : ∀ {xs : List D} {k i : Nat}, (nums k xs)[i]? = (xs[i]?).map fun x => .tup [.int ((k + i : Nat) : Int), x]
  | [], _, _ => by simp [nums]
  | x :: xs, k, 0 => by simp [nums]
  | x :: xs, k, i + 1 => by
    rw [nums, List.getElem?_cons_succ, nums_get, List.getElem?_cons_succ]
    congr 1
    funext y
    congr 3
    omega
theorem nums_length : ∀ {xs : List D} {k : Nat}, (nums k xs).length = xs.length
  | [], _ => rfl
  | x :: xs, k => by rw [nums, List.length_cons, List.length_cons, nums_length]
theorem walk_enum {H0 : Hp} {ρ0 : Nat → Addr} {hp0 : HP} (r0 : RH Z H0 ρ0 hp0) {m : Nat} {o : O} {xs : List D} (e : hp0[m]? = some o) (ho : o = .lst xs ∨ o = .frz xs) : WalkOk Z (Ite Z.K (ρ0 m)) (nums 0 xs) [(m, o)] hp0.length ρ0 H0 := by
  intro i ρ H hp ag ex le r w
  have hm : m < hp0.length := (List.getElem?_eq_some_iff.mp e).1
  have e2 := watch_get w (List.mem_singleton.mpr rfl)
  obtain ⟨vs, s1, l1⟩ := r.lstK e2 ho
  rw [ag m hm] at s1
  refine ⟨fun d hd => ?_, fun hi => ⟨vs, s1, by rw [hi, nums_length, l1.length]; exact Nat.le_refl _⟩⟩
  rw [nums_get] at hd
  obtain ⟨y, e3, e4⟩ := Option.map_eq_some_iff.mp hd
  subst e4
  obtain ⟨v, e5, e6⟩ := l1.get e3
  refine ⟨⟨vs, v, s1, e5⟩, fun x H' hy => ?_⟩
  obtain ⟨T, z, h1, h2, h3, h4⟩ := hy
  subst h1 h3
  have := h4 vs s1
  rw [e5] at this
  cases this
  refine ⟨Step.beside r h2, den_newtup h2 (.cons (den_int.mpr ?_) (.cons e6 .nil))⟩
  rw [Nat.zero_add]
theorem zipD_get : ∀ {xs ys : List D} {i : Nat} {d : D}, (zipD xs ys)[i]? = some d → ∃ x y, xs[i]? = some x ∧ ys[i]? = some y ∧ d = .tup [x, y]
  | [], _, _, _, h => by simp [zipD] at h
  | _ :: _, [], _, _, h => by simp [zipD] at h
  | x :: xs, y :: ys, 0, d, h => by
    simp [zipD] at h
    exact ⟨x, y, rfl, rfl, h.symm⟩
  | x :: xs, y :: ys, i + 1, d, h => by
    rw [zipD, List.getElem?_cons_succ] at h
    obtain ⟨a, b, h1, h2, h3⟩ := zipD_get (xs := xs) (ys := ys) (i := i) (d := d) h
    exact ⟨a, b, by rw [List.getElem?_cons_succ]; exact h1, by rw [List.getElem?_cons_succ]; exact h2, h3⟩
theorem zipD_length : ∀ {xs ys : List D}, (zipD xs ys).length = min xs.length ys.length
  | [], ys => by simp [zipD]
  | _ :: _, [] => by simp [zipD]
  | x :: xs, y :: ys => by
    rw [zipD, List.length_cons, zipD_length, List.length_cons, List.length_cons]
    omega
theorem walk_zip {H0 : Hp} {ρ0 : Nat → Addr} {hp0 : HP} {m k : Nat} {o o' : O} {xs ys : List D} (hm : m < hp0.length) (hk : k < hp0.length) (ho : o = .lst xs ∨ o = .frz xs) (ho' : o' = .lst ys ∨ o' = .frz ys) :
    WalkOk Z (Itz Z.K (ρ0 m) (ρ0 k)) (zipD xs ys) [(m, o), (k, o')] hp0.length ρ0 H0 := by
  intro i ρ H hp ag ex le r w
  have e2 := watch_get w (List.mem_cons_self)
  have e2' := watch_get w (List.mem_cons_of_mem _ (List.mem_singleton.mpr rfl))
  obtain ⟨vs, s1, l1⟩ := r.lstK e2 ho
  obtain ⟨us, s2, l2⟩ := r.lstK e2' ho'
  rw [ag m hm] at s1
  rw [ag k hk] at s2
  refine ⟨fun d hd => ?_, fun hi => ⟨vs, us, s1, s2, by rw [hi, zipD_length, l1.length, l2.length]; omega⟩⟩
  obtain ⟨x, y, e3, e4, e5⟩ := zipD_get hd
  subst e5
  obtain ⟨v, e6, e7⟩ := l1.get e3
  obtain ⟨u, e8, e9⟩ := l2.get e4
  refine ⟨⟨vs, us, v, u, s1, s2, e6, e8⟩, fun z H' hy => ?_⟩
  obtain ⟨T, a, b, h1, h2, h3, h4, h5⟩ := hy
  subst h1 h3
  have := h4 vs s1
  rw [e6] at this
  cases this
  have := h5 us s2
  rw [e8] at this
  cases this
  exact ⟨Step.beside r h2, den_newtup h2 (.cons e7 (.cons e9 .nil))⟩

/-- the value's own kind of walk -/
theorem n_wval (hK : X.K = Z.K) (ha : PE X e (tI Z W hx ma)) : PI X tg e (tWI Z W hx fun lo hp => (ma lo hp).bind fun x hp => lift (walk hp x) hp) := by
  refine PI.weak (PI.or (pi_list ha) (PI.or (pi_tup ha) (pi_str ha))) fun σ H R q => ?_
  obtain ⟨ρ, lo, hp, s, q⟩ := q
  have q0 := Post.bind q
  cases e0 : ma lo hp with
  | bad =>
    rw [e0] at q0
    exact q0.elim
  | ex x hp1 =>
    rw [e0] at q0
    exact .inl ⟨ρ, lo, hp, s, by rw [e0]; exact q0⟩
  | ok d hp1 =>
    rw [e0] at q0
    -- what it is
    have key : ∀ ρ1 H1, Step Z hp.length ρ H ρ1 hp1 H1 → ∃ iw, walk hp1 d = some iw ∧ ∀ J, WalkOk Z J iw.1 iw.2 hp1.length ρ1 H1 → R J H1 := fun ρ1 H1 st => by
      have q1 : Post Z W σ hp1.length ρ1 H1 (lift (walk hp1 d) hp1) (fun iw ρ' hp' H' => ∀ J, WalkOk Z J iw.1 iw.2 hp'.length ρ' H' → R J H') := q0 ρ1 H1 st
      cases e1 : walk hp1 d with
      | none =>
        rw [e1] at q1
        exact q1.elim
      | some iw =>
        rw [e1] at q1
        exact ⟨iw, rfl, q1.at st.rh⟩
    cases d with
    | tup xs =>
      refine .inr (.inl ⟨ρ, lo, hp, s, ?_⟩)
      rw [e0]
      intro ρ1 H1 st v hv
      obtain ⟨iw, e1, q1⟩ := key ρ1 H1 st
      cases e1
      rw [den_tup] at hv
      obtain ⟨a, vs, h1, s1, l1⟩ := hv
      exact ⟨a, h1, ⟨vs, by rw [hK]; exact s1⟩, by rw [hK]; exact q1 _ (walk_tup s1 l1)⟩
    | str z =>
      refine .inr (.inr ⟨ρ, lo, hp, s, ?_⟩)
      rw [e0]
      intro ρ1 H1 st v hv
      obtain ⟨iw, e1, q1⟩ := key ρ1 H1 st
      cases e1
      rw [den_str] at hv
      exact ⟨strOf z, hv.1, q1 _ (walk_str hv.2)⟩
    | ref m =>
      refine .inl ⟨ρ, lo, hp, s, ?_⟩
      rw [e0]
      intro ρ1 H1 st v hv
      obtain ⟨iw, e1, q1⟩ := key ρ1 H1 st
      rw [den_ref] at hv
      simp only [walk] at e1
      cases e2 : hp1[m]? with
      | none =>
        rw [e2] at e1
        cases e1
      | some o =>
        rw [e2] at e1
        cases o with
        | lst xs =>
          cases e1
          obtain ⟨vs, s1, _⟩ := st.rh.lstK e2 (.inl rfl)
          exact ⟨ρ1 m, hv.2, ⟨vs, by rw [hK]; exact s1⟩, by rw [hK]; exact q1 _ (walk_lst st.rh e2 (.inl rfl))⟩
        | frz xs =>
          cases e1
          obtain ⟨vs, s1, _⟩ := st.rh.lstK e2 (.inr rfl)
          exact ⟨ρ1 m, hv.2, ⟨vs, by rw [hK]; exact s1⟩, by rw [hK]; exact q1 _ (walk_lst st.rh e2 (.inr rfl))⟩
        | dct _ => cases e1
        | set _ => cases e1
    | non =>
      refine .inl ⟨ρ, lo, hp, s, ?_⟩
      rw [e0]
      intro ρ1 H1 st v hv
      obtain ⟨iw, e1, q1⟩ := key ρ1 H1 st
      cases e1
    | bl _ =>
      refine .inl ⟨ρ, lo, hp, s, ?_⟩
      rw [e0]
      intro ρ1 H1 st v hv
      obtain ⟨iw, e1, q1⟩ := key ρ1 H1 st
      cases e1
    | int _ =>
      refine .inl ⟨ρ, lo, hp, s, ?_⟩
      rw [e0]
      intro ρ1 H1 st v hv
      obtain ⟨iw, e1, q1⟩ := key ρ1 H1 st
      cases e1
    | kd _ =>
      refine .inl ⟨ρ, lo, hp, s, ?_⟩
      rw [e0]
      intro ρ1 H1 st v hv
      obtain ⟨iw, e1, q1⟩ := key ρ1 H1 st
      cases e1
theorem big62 : (4611686018427387904 : Int) = 2 ^ 62 := by decide
theorem n_wrng1 (hg : Gl X "range") (hm : X.mg "range" = none) {a : Expr} (hs : isStar a = false) (ha : PA X [a] (tAI Z W hx ml)) : PI X tg (.Call (.Name "range" p) [a] [] pos) (tWI Z W hx fun lo hp => (ml lo hp).bind fun ds hp => if ds.length = 1 then lift ((rng ds).map fun xs => (xs, [])) hp else .bad) := by
  refine PI.weak (pi_range1 hg hm ha (star_of (es := []) hs _)) fun σ H R q => ?_
  obtain ⟨ρ, lo, hp, s, q⟩ := q
  refine ⟨ρ, lo, hp, s, (Post.bind q).imp fun ds ρ' hp' H' t q vs hv => ?_⟩
  split at q
  · rename_i hl
    cases e : rng ds with
    | none =>
      rw [e] at q
      exact q.elim
    | some xs =>
      rw [e] at q
      have q := q.at t.rh
      unfold rng at e
      split at e
      · rw [den_l1] at hv
        obtain ⟨x, ys, h1, h2, h3⟩ := hv
        rw [den_int] at h2
        rw [den_l0] at h3
        subst h1 h2 h3
        split at e
        · rename_i n hn
          cases e
          by_cases h0 : -(2 ^ 62) ≤ n
          · exact ⟨n, rfl, h0, by rw [← big62]; exact hn.2, q _ walk_rng⟩
          · exact absurd hn.1 (by rw [big62]; omega)
        · cases e
      · cases hl
      · cases e
  · exact q.elim
theorem n_wrng2 (hg : Gl X "range") (hm : X.mg "range" = none) {a b : Expr} (hs : isStar a = false) (hs2 : isStar b = false) (ha : PA X [a, b] (tAI Z W hx ml)) : PI X tg (.Call (.Name "range" p) [a, b] [] pos) (tWI Z W hx fun lo hp => (ml lo hp).bind fun ds hp => if ds.length = 2 then lift ((rng ds).map fun xs => (xs, [])) hp else .bad) := by
  refine PI.weak (pi_range2 hg hm ha (by rw [star_of hs, star_of (es := []) hs2]; rfl) (star_of (es := []) hs2 _)) fun σ H R q => ?_
  obtain ⟨ρ, lo, hp, s, q⟩ := q
  refine ⟨ρ, lo, hp, s, (Post.bind q).imp fun ds ρ' hp' H' t q vs hv => ?_⟩
  split at q
  · rename_i hl
    cases e : rng ds with
    | none =>
      rw [e] at q
      exact q.elim
    | some xs =>
      rw [e] at q
      have q := q.at t.rh
      unfold rng at e
      split at e
      · cases hl
      · rw [den_l1] at hv
        obtain ⟨x, ys, h1, h2, hv⟩ := hv
        rw [den_l1] at hv
        obtain ⟨x', ys', h1', h2', h3⟩ := hv
        rw [den_int] at h2 h2'
        rw [den_l0] at h3
        subst h3 h1' h1 h2 h2'
        split at e
        · rename_i i n hn
          cases e
          rw [big62] at hn
          exact ⟨i, n, rfl, ⟨hn.1, hn.2.1, hn.2.2.1, hn.2.2.2⟩, q _ walk_rng⟩
        · cases e
      · cases e
  · exact q.elim
theorem n_wenum (hK : X.K = Z.K) {elts : List Expr} {kk : Nat} {tpos : Pos} (hg : Gl X "enumerate") (hm : X.mg "enumerate" = none) (hs : isStar e = false) (ha : PE X e (tI Z W hx ma)) :
    PI X (.Tuple elts kk tpos) (.Call (.Name "enumerate" p) [e] [] pos) (tWI Z W hx fun lo hp => (ma lo hp).bind fun x hp => lift ((walkL hp x).map fun p => (nums 0 p.1, p.2)) hp) := by
  have hA : PA X [e] (tCons (tI Z W hx ma) tNil) := pa_cons ha pa_nil (star_of hs _)
  refine PI.weak (pi_enum hg hm hA (star_of (es := []) hs _)) fun σ H R q => ?_
  obtain ⟨ρ, lo, hp, s, q⟩ := q
  refine ⟨ρ, lo, hp, s, (Post.bind q).imp fun d ρ' hp' H' t q v hv => ?_⟩
  cases e1 : walkL hp' d with
  | none =>
    rw [e1] at q
    exact q.elim
  | some iw =>
    rw [e1] at q
    have q := q.at t.rh
    obtain ⟨m, o, xs, h1, h2, h3, h4⟩ := walkL_inv e1
    subst h1 h4
    rw [den_ref] at hv
    obtain ⟨vs, s1, _⟩ := t.rh.lstK h2 h3
    exact ⟨ρ' m, vs, by rw [hv.2], by rw [hK]; exact s1, by rw [hK]; exact q _ (walk_enum t.rh h2 h3)⟩
theorem n_wzip (hK : X.K = Z.K) {e2 : Expr} {elts : List Expr} {kk : Nat} {tpos : Pos} (hg : Gl X "zip") (hm : X.mg "zip" = none) (hs : isStar e = false) (hs2 : isStar e2 = false) (ha : PE X e (tI Z W hx ma)) (hb : PE X e2 (tI Z W hx mb)) :
    PI X (.Tuple elts kk tpos) (.Call (.Name "zip" p) [e, e2] [] pos) (tWI Z W hx fun lo hp => (ma lo hp).bind fun x hp => (mb lo hp).bind fun y hp => match walkL hp x, walkL hp y with
      | some p, some q => .ok (zipD p.1 q.1, p.2 ++ q.2) hp
      | _, _ => .bad) := by
  have hA : PA X [e, e2] (tCons (tI Z W hx ma) (tCons (tI Z W hx mb) tNil)) := pa_cons ha (pa_cons hb pa_nil (star_of hs2 _)) (star_of hs _)
  refine PI.weak (pi_zip hg hm hA (star_of hs _) (by rw [star_of (es := []) hs2]; rfl)) fun σ H R q => ?_
  obtain ⟨ρ, lo, hp, s, q⟩ := q
  refine ⟨ρ, lo, hp, s, (Post.bind q).imp fun d ρ' hp' H' t q v hv => ⟨ρ', lo, hp', s.step t, ?_⟩⟩
  refine (Post.bind q).imp fun d2 ρ2 hp2 H2 t2 q u hu => ?_
  split at q
  · rename_i iw iw2 e1 e2
    have q := q.at t2.rh
    obtain ⟨m, o, xs, h1, h2, h3, h4⟩ := walkL_inv e1
    obtain ⟨m', o', xs', h1', h2', h3', h4'⟩ := walkL_inv e2
    subst h1 h4 h1' h4'
    have hv := t2.den hv
    rw [den_ref] at hv hu
    obtain ⟨vs, s1, _⟩ := t2.rh.lstK h2 h3
    obtain ⟨us, s2, _⟩ := t2.rh.lstK h2' h3'
    exact ⟨ρ2 m, ρ2 m', vs, us, by rw [hv.2, hu.2], by rw [hK]; exact s1, by rw [hK]; exact s2, by rw [hK]; exact q _ (walk_zip hv.1 hu.1 h3 h3')⟩
  · exact q.elim
end
end MP

end
section
set_option Elab.async false
set_option linter.all false
set_option maxRecDepth 100000
set_option maxHeartbeats 2000000
/-! MP: statements. -/
namespace MP
open PySem L2
open PyProof.Rows hiding St
/-- behind a statement -/
def PostS (Z : Zx) (W : WX) (hx : HX) (σ : St) (n : Nat) (ρ : Nat → Addr) (H : Hp) (r : Out) (D : Ends) : Prop :=
  match r with
  | .nx lo hp => ∀ ρ' H' σ', Step Z n ρ H ρ' hp H' → Sst Z hx H' ρ' lo hp σ' → D.nx σ' H'
  | .bk lo hp => ∀ ρ' H' σ', Step Z n ρ H ρ' hp H' → Sst Z hx H' ρ' lo hp σ' → D.bk σ' H'
  | .ct lo hp => ∀ ρ' H' σ', Step Z n ρ H ρ' hp H' → Sst Z hx H' ρ' lo hp σ' → D.ct σ' H'
  | .rt d hp => ∀ ρ' H' v, Step Z n ρ H ρ' hp H' → Den Z H' ρ' hp.length d v → D.rt v H'
  | .ex x lo hp => ∀ ρ' H' σ' cls dd, Step Z n ρ H ρ' hp H' → Sst Z hx H' ρ' lo hp σ' → XDen Z H' ρ' hp.length x cls dd → W cls dd σ' H'
  | .bad => False
def tSI (Z : Zx) (W : WX) (hx : HX) (m : Lo → HP → Out) : TS := fun D σ H => ∃ ρ lo hp, Sst Z hx H ρ lo hp σ ∧ PostS Z W hx σ hp.length ρ H (m lo hp) D
section
variable {Z : Zx} {W : WX} {hx : HX} {σ : St} {n : Nat} {ρ : Nat → Addr} {H : Hp} {De : Ends}
/-- later, elsewhere -/
theorem PostS.later {r : Out} {σ2 : St} {ρ1 : Nat → Addr} {hp1 : HP} {H1 : Hp} (h : PostS Z W hx σ n ρ H r De) (s : Step Z n ρ H ρ1 hp1 H1) : PostS Z W hx σ2 hp1.length ρ1 H1 r De := by
  cases r with
  | nx lo hp => exact fun ρ' H' σ' t q => h ρ' H' σ' (s.trans t) q
  | bk lo hp => exact fun ρ' H' σ' t q => h ρ' H' σ' (s.trans t) q
  | ct lo hp => exact fun ρ' H' σ' t q => h ρ' H' σ' (s.trans t) q
  | rt d hp => exact fun ρ' H' v t q => h ρ' H' v (s.trans t) q
  | ex x lo hp => exact fun ρ' H' σ' c d t q => h ρ' H' σ' c d (s.trans t) q
  | bad => exact h
/-- an expression's result, then the statement's -/
theorem PostS.out {α : Type} {r : Res α} {lo : Lo} {f : α → HP → Out} {hp : HP} (s : Sst Z hx H ρ lo hp σ) (h : PostS Z W hx σ hp.length ρ H (r.out lo f) De) :
    Post Z W σ hp.length ρ H r fun d ρ1 hp1 H1 => PostS Z W hx σ hp1.length ρ1 H1 (f d hp1) De := by
  cases r with
  | bad => exact h
  | ex x hp' => exact fun ρ' H' c d t xd => h ρ' H' σ c d t (s.step t) xd
  | ok d hp1 => exact fun ρ1 H1 t => PostS.later (r := f d hp1) h t
variable {X : Cx} {st : Stmt} {sts : List Stmt} {e : Expr} {ms mt : Lo → HP → Out} {me : Lo → HP → Res D} {pos : Pos}
theorem s_nil : PSs X [] (tSI Z W hx fun lo hp => .nx lo hp) := PSs.weak pss_nil fun D σ H q => by
  obtain ⟨ρ, lo, hp, s, q⟩ := q
  exact q ρ H σ (Step.refl s.rh) s
theorem s_cons (h1 : PS X st (tSI Z W hx ms)) (h2 : PSs X sts (tSI Z W hx mt)) : PSs X (st :: sts) (tSI Z W hx fun lo hp => (ms lo hp).then fun lo hp => mt lo hp) := PSs.weak (pss_cons h1 h2) fun D σ H q => by
  obtain ⟨ρ, lo, hp, s, q⟩ := q
  dsimp only at q
  refine ⟨ρ, lo, hp, s, ?_⟩
  cases e : ms lo hp with
  | nx lo' hp' =>
    rw [e] at q
    exact fun ρ' H' σ' t s' => ⟨ρ', lo', hp', s', PostS.later (r := mt lo' hp') q t⟩
  | bk lo' hp' =>
    rw [e] at q
    exact q
  | ct lo' hp' =>
    rw [e] at q
    exact q
  | rt d hp' =>
    rw [e] at q
    exact q
  | ex x lo' hp' =>
    rw [e] at q
    exact q
  | bad =>
    rw [e] at q
    exact q
theorem s_pass : PS X (.Pass pos) (tSI Z W hx fun lo hp => .nx lo hp) := PS.weak ps_pass fun D σ H q => by
  obtain ⟨ρ, lo, hp, s, q⟩ := q
  exact q ρ H σ (Step.refl s.rh) s
theorem s_brk : PS X (.Break pos) (tSI Z W hx fun lo hp => .bk lo hp) := PS.weak ps_break fun D σ H q => by
  obtain ⟨ρ, lo, hp, s, q⟩ := q
  exact q ρ H σ (Step.refl s.rh) s
theorem s_cont : PS X (.Continue pos) (tSI Z W hx fun lo hp => .ct lo hp) := PS.weak ps_continue fun D σ H q => by
  obtain ⟨ρ, lo, hp, s, q⟩ := q
  exact q ρ H σ (Step.refl s.rh) s
theorem s_exp (he : PE X e (tI Z W hx me)) (hs : swapsWith e none pos.line X.env = pure false) : PS X (.Expr e pos) (tSI Z W hx fun lo hp => (me lo hp).out lo fun _ hp => .nx lo hp) := PS.weak (ps_expr he hs) fun D σ H q => by
  obtain ⟨ρ, lo, hp, s, q⟩ := q
  exact ⟨ρ, lo, hp, s, (PostS.out s q).imp fun d ρ' hp' H' t q v _ => q ρ' H' σ (Step.refl t.rh) (s.step t)⟩
theorem s_ret (he : PE X e (tI Z W hx me)) : PS X (.Return (some e) pos) (tSI Z W hx fun lo hp => (me lo hp).out lo fun d hp => .rt d hp) := PS.weak (ps_ret he) fun D σ H q => by
  obtain ⟨ρ, lo, hp, s, q⟩ := q
  exact ⟨ρ, lo, hp, s, (PostS.out s q).imp fun d ρ' hp' H' t q v hv => q ρ' H' v (Step.refl t.rh) hv⟩
theorem s_retN : PS X (.Return none pos) (tSI Z W hx fun lo hp => .rt .non hp) := PS.weak ps_retN fun D σ H q => by
  obtain ⟨ρ, lo, hp, s, q⟩ := q
  exact q ρ H .non (Step.refl s.rh) (den_non.mpr rfl)
theorem tru_out {lo : Lo} {hp : HP} {a b : HP → Out} : ((me lo hp).out lo fun x h => (lift (truthy h x) h).out lo fun r h => if r = true then a h else b h) = (tru me lo hp).out lo fun r h => if r = true then a h else b h := by
  unfold tru
  cases me lo hp <;> rfl
theorem s_if {sa sb : List Stmt} (hc : PT X e (tTI Z W hx (tru me))) (ha : PSs X sa (tSI Z W hx ms)) (hb : PSs X sb (tSI Z W hx mt)) :
    PS X (.If e sa sb pos) (tSI Z W hx fun lo hp => (me lo hp).out lo fun x h => (lift (truthy h x) h).out lo fun r h => if r = true then ms lo h else mt lo h) := PS.weak (ps_if hc ha hb) fun D σ H q => by
  obtain ⟨ρ, lo, hp, s, q⟩ := q
  dsimp only at q
  rw [tru_out] at q
  refine ⟨ρ, lo, hp, s, (PostS.out s q).imp fun r ρ' hp' H' t q => ?_⟩
  cases r with
  | true => exact ⟨ρ', lo, hp', s.step t, q⟩
  | false => exact ⟨ρ', lo, hp', s.step t, q⟩

/-! targets -/
/-- a store to a target, the heaps as they are -/
def tGI (Z : Zx) (hx : HX) (t : Tg) : TG := fun v σ H Q => ∃ ρ lo hp d l', Sst Z hx H ρ lo hp σ ∧ Den Z H ρ hp.length d v ∧ bindT hp t d lo.v = some l' ∧ ∀ σ', Sst Z hx H ρ ⟨l', lo.x⟩ hp σ' → Q σ' H
def tGsI (Z : Zx) (hx : HX) (ts : List Tg) : TGs := fun vs σ H Q => ∃ ρ lo hp ds l', Sst Z hx H ρ lo hp σ ∧ DenL Z H ρ hp.length ds vs ∧ bindTs hp ts ds lo.v = some l' ∧ ∀ σ', Sst Z hx H ρ ⟨l', lo.x⟩ hp σ' → Q σ' H
/-- the slots that an except clause's name does not have -/
def freeOf (hx : HX) (i : Nat) : Prop := ∀ j a c d, hx = some (some j, a, c, d) → i ≠ j
theorem HXok_set {x : Option Xn} {i : Nat} {v : Option V} (h : HXok Z H ρ n x hx σ) (hf : freeOf hx i) : HXok Z H ρ n x hx (σ.set i v) := by
  cases x with
  | none => cases hx with
    | none => trivial
    | some y => exact h.elim
  | some x => cases hx with
    | none => exact h.elim
    | some y =>
      obtain ⟨j, a, c, d⟩ := y
      refine ⟨h.1, fun k hk => ?_⟩
      subst hk
      rw [List.getElem?_set_ne (hf _ _ _ _ rfl)]
      exact h.2 k rfl
theorem g_name {x : Str} {i : Nat} {p : Pos} (hN : X.N.Nodup) (hi : X.N[i]? = some x) (hl : Loc X.env.scope x) (hf : X.fn x = true ∨ X.env.scope.names.lookup x = some .local) (hfree : freeOf hx i) : PG X (.Name x p) (tGI Z hx (.nm i)) := by
  refine ⟨fun pins s σ H v u Q I r q => (pg_name hN hi hl hf).run pins s σ H v u Q I r ?_⟩
  obtain ⟨ρ, lo, hp, d, l', s, hv, hb, q⟩ := q
  rw [bindT] at hb
  split at hb
  · rename_i hlt
    cases hb
    refine q _ ⟨⟨by simp [s.rl.len], fun j d' e => ?_⟩, s.rh, ?_⟩
    · by_cases hj : j = i
      · subst hj
        simp only at e
        rw [List.getElem?_set_self hlt] at e
        cases e
        exact ⟨v, List.getElem?_set_self (by rw [← s.rl.len]; exact hlt), hv⟩
      · simp only at e
        rw [List.getElem?_set_ne (Ne.symm hj)] at e
        obtain ⟨w, e1, e2⟩ := s.rl.val j d' e
        exact ⟨w, by rw [List.getElem?_set_ne (Ne.symm hj)]; exact e1, e2⟩
    · exact HXok_set s.hx hfree
  · cases hb
theorem gs_nil : PGs X [] (tGsI Z hx []) := by
  refine ⟨fun pins s σ H vs us Q I r q => pgs_nil.run pins s σ H vs us Q I r ?_⟩
  obtain ⟨ρ, lo, hp, ds, l', s, hv, hb, q⟩ := q
  cases ds with
  | nil =>
    rw [den_l0] at hv
    rw [bindTs] at hb
    cases hb
    exact ⟨hv, q σ s⟩
  | cons d ds =>
    simp [bindTs] at hb

theorem gs_cons {e : Expr} {es : List Expr} {t : Tg} {ts : List Tg} (h1 : PG X e (tGI Z hx t)) (h2 : PGs X es (tGsI Z hx ts)) (hs : (assignEach (e :: es) X.env).map (·.2) = assign e X.env :: (assignEach es X.env).map (·.2)) : PGs X (e :: es) (tGsI Z hx (t :: ts)) := by
  refine ⟨fun pins s σ H vs us Q I r q => (pgs_cons h1 h2 hs).run pins s σ H vs us Q I r ?_⟩
  obtain ⟨ρ, lo, hp, ds, l', s, hv, hb, q⟩ := q
  cases ds with
  | nil => simp [bindTs] at hb
  | cons d ds =>
    rw [den_l1] at hv
    obtain ⟨x, xs, h3, h4, h5⟩ := hv
    subst h3
    rw [bindTs] at hb
    cases e1 : bindT hp t d lo.v with
    | none =>
      rw [e1] at hb
      cases hb
    | some l1 =>
      rw [e1] at hb
      exact ⟨x, xs, rfl, ρ, lo, hp, d, l1, s, h4, e1, fun σ1 s1 => ⟨ρ, ⟨l1, lo.x⟩, hp, ds, l', s1, h5, hb, q⟩⟩
theorem bindTs_len {hp : HP} : ∀ {ts : List Tg} {ds : List D} {l l' : List (Option D)}, bindTs hp ts ds l = some l' → ds.length = ts.length
  | [], [], _, _, _ => rfl
  | [], _ :: _, _, _, h => by simp [bindTs] at h
  | _ :: _, [], _, _, h => by simp [bindTs] at h
  | t :: ts, d :: ds, l, l', h => by
    rw [bindTs] at h
    split at h
    · rw [List.length_cons, List.length_cons, bindTs_len h]
    · cases h
theorem g_tup (hK : X.K = Z.K) (hc : X.calm = true) {es : List Expr} {ts : List Tg} {k : Nat} {p : Pos} (h : PGs X es (tGsI Z hx ts)) (hn : (assignEach es X.env).length = ts.length) (hst : (assignEach es X.env).findIdx? (·.1) = none) : PG X (.Tuple es k p) (tGI Z hx (.tp ts)) := by
  refine ⟨fun pins s σ H v u Q I r q => ?_⟩
  obtain ⟨ρ, lo, hp, d, l', st, hv, hb, q⟩ := q
  rw [bindT.eq_def] at hb
  split at hb
  · rename_i heq
    cases heq
  · rename_i heq
    cases heq
    rename_i ds
    rw [den_tup] at hv
    obtain ⟨a, vs, h1, s1, l1⟩ := hv
    exact (pg_tup hc h hn hst).run pins s σ H v u Q I r ⟨a, vs, h1, by rw [hK]; exact s1, by rw [← l1.length]; exact bindTs_len hb, ρ, lo, hp, ds, l', st, l1, hb, q⟩
  · rename_i heq
    cases heq
    rename_i m
    split at hb
    · rename_i ds e
      rw [den_ref] at hv
      obtain ⟨vs, s1, l1⟩ := st.rh.rd e
      exact (pg_lst hc h hn hst).run pins s σ H v u Q I r ⟨ρ m, vs, hv.2, by rw [hK]; exact s1, by rw [← l1.length]; exact bindTs_len hb, ρ, lo, hp, ds, l', st, l1, hb, q⟩
    · cases hb
  · cases hb
/-- target = value -/
theorem s_asg {tg : Expr} {t : Tg} (he : PE X e (tI Z W hx me)) (hg : PG X tg (tGI Z hx t)) (hs : swapsWithSole [tg] e pos.line X.env = pure false) (hw : swappedStores [tg] e X.env = pure none) (h1 : (assignEach [tg] X.env).map (·.2) = [assign tg X.env]) :
    PS X (.Assign [tg] e pos) (tSI Z W hx fun lo hp => (me lo hp).out lo fun x hp => match bindT hp t x lo.v with
      | some v => .nx ⟨v, lo.x⟩ hp
      | none => .bad) := PS.weak (ps_asg he hg hs hw h1) fun D σ H q => by
  obtain ⟨ρ, lo, hp, s, q⟩ := q
  refine ⟨ρ, lo, hp, s, (PostS.out s q).imp fun d ρ' hp' H' st q v hv => ?_⟩
  cases e1 : bindT hp' t d lo.v with
  | none =>
    rw [e1] at q
    exact q.elim
  | some l' =>
    rw [e1] at q
    exact ⟨ρ', lo, hp', d, l', s.step st, hv, e1, fun σ' s' => q ρ' H' σ' (Step.refl st.rh) s'⟩
/-- a[i] = value -/
theorem s_asx (hK : X.K = Z.K) {a i : Expr} {ma mi : Lo → HP → Res D} {tp : Pos} (hsl : isSlice i = false) (he : PE X e (tI Z W hx me)) (ha : PE X a (tI Z W hx ma)) (hi : PE X i (tI Z W hx mi)) (hs : swapsWithSole [.Subscript a i tp] e pos.line X.env = pure false) :
    PS X (.Assign [.Subscript a i tp] e pos) (tSI Z W hx fun lo hp => (me lo hp).out lo fun y h => (ma lo h).out lo fun x h => (mi lo h).out lo fun k h =>
      match x, k with
      | .ref m, .int k => (match h[m]? with
        | some (.lst xs) => (match L2.ixN xs.length k with
          | some j => .nx lo (h.set m (.lst (xs.set j y)))
          | none => .bad)
        | _ => .bad)
      | _, _ => .bad) := PS.weak (ps_asg he (pg_sub ha hi set_list (by cases i <;> first | (intro _; rfl) | (cases hsl))) hs rfl rfl) fun D σ H q => by
  obtain ⟨ρ, lo, hp, s, q⟩ := q
  refine ⟨ρ, lo, hp, s, (PostS.out s q).imp fun dy ρ1 hp1 H1 t1 q y hy => ⟨ρ1, lo, hp1, s.step t1, ?_⟩⟩
  refine (PostS.out (s.step t1) q).imp fun dx ρ2 hp2 H2 t2 q x hx' => ⟨ρ2, lo, hp2, (s.step t1).step t2, ?_⟩
  refine (PostS.out ((s.step t1).step t2) q).imp fun dk ρ3 hp3 H3 t3 q k hk => ?_
  have s3 := ((s.step t1).step t2).step t3
  split at q
  · rename_i m k0
    split at q
    · rename_i xs e3
      split at q
      · rename_i j e4
        have hx3 := t3.den hx'
        rw [den_ref] at hx3
        rw [den_int] at hk
        obtain ⟨hm, h1⟩ := hx3
        subst h1 hk
        have hy3 := t3.den (t2.den hy)
        obtain ⟨ws, w1, l1⟩ := t3.rh.lst e3
        refine ⟨_, ws, _, j, rfl, rfl, w1, by rw [← l1.length]; exact e4, ?_⟩
        have st := Step.set (Z := Z) (o' := .lst (xs.set j dy)) (u := .lst (ws.set j y)) t3.rh w1 nst_lst hm ⟨_, upd_same, (l1.set j hy3).mono (Ext.set w1 nst_lst) (Agr.refl _ _) (Nat.le_refl _)⟩
        exact q ρ3 _ σ st (s3.step st)
      · exact q.elim
    · exact q.elim
  · exact q.elim
end
end MP

end
section
set_option Elab.async false
set_option linter.all false
set_option maxRecDepth 100000
set_option maxHeartbeats 2000000
/-! MP: loops, raise, try. -/
namespace MP
open PySem L2
open PyProof.Rows hiding St
section
variable {Z : Zx} {W : WX} {hx : HX} {X : Cx} {e : Expr} {ms : Lo → HP → Out} {me : Lo → HP → Res D} {pos : Pos}
theorem drop_cons {α : Type} {l : List α} {i : Nat} {x : α} {r : List α} (h : l.drop i = x :: r) : l[i]? = some x ∧ l.drop (i + 1) = r ∧ i < l.length := by
  have hi : i < l.length := by
    refine Nat.lt_of_not_le fun q => ?_
    rw [List.drop_eq_nil_of_le q] at h
    cases h
  rw [List.drop_eq_getElem_cons hi] at h
  injection h with h1 h2
  exact ⟨by rw [List.getElem?_eq_getElem hi, h1], h2, hi⟩
theorem s_for {tg iter : Expr} {t : Tg} {mw : Lo → HP → Res (List D × List (Nat × O))} {body : List Stmt} (hp : PassesOwn (model X.prog X.w) X.A X.env X.xe) (hc : X.calm = true) (hi : PI X tg iter (tWI Z W hx mw)) (hg : PG X tg (tGI Z hx t)) (hb : PSs X body (tSI Z W hx ms))
    (hs : ∀ x, foldedSetIterable iter X.env x = pure x) : PS X (.For tg iter body [] pos) (tSI Z W hx fun lo hp => (mw lo hp).out lo fun iw hp => forGo (fun l h => ms l h) t iw.2 iw.1 lo hp) := PS.weak (ps_for hp hc hi hg hb hs) fun De σ H q => by
  obtain ⟨ρ, lo, hp, s, q⟩ := q
  refine ⟨ρ, lo, hp, s, (PostS.out s q).imp fun iw ρ0 hp0 H0 st0 q J wk => ?_⟩
  obtain ⟨items, ws⟩ := iw
  refine ⟨fun i m σ H => m = items.length - i ∧ i ≤ items.length ∧ ∃ ρ lo hp, Agr hp0.length ρ0 ρ ∧ Ext H0 H ∧ hp0.length ≤ hp.length ∧ Sst Z hx H ρ lo hp σ ∧ PostS Z W hx σ hp.length ρ H (forGo (fun l h => ms l h) t ws (items.drop i) lo hp) De,
    ⟨items.length, by simp, Nat.zero_le _, ρ0, lo, hp0, Agr.refl _ _, Ext.refl _, Nat.le_refl _, s.step st0, by rw [List.drop_zero]; exact q⟩, ?_⟩
  rintro i m σ1 H1 ⟨rfl, hil, ρ1, lo1, hp1, ag, ex, le, s1, q1⟩
  cases ed : items.drop i with
  | nil =>
    rw [ed, forGo] at q1
    split at q1
    · rename_i w
      have hi2 : i = items.length := by
        have := congrArg List.length ed
        simp at this
        omega
      exact .inl ⟨((wk i ρ1 H1 hp1 ag ex le s1.rh w).2 hi2), q1 ρ1 H1 σ1 (Step.refl s1.rh) s1⟩
    · exact q1.elim
  | cons x xs =>
    obtain ⟨hx1, hx2, hx3⟩ := drop_cons ed
    rw [ed, forGo] at q1
    split at q1
    · rename_i w
      obtain ⟨g1, g2⟩ := (wk i ρ1 H1 hp1 ag ex le s1.rh w).1 x hx1
      refine .inr ⟨g1, fun σ' H' => ∃ m', m' < items.length - i ∧ (m' = items.length - (i + 1) ∧ i + 1 ≤ items.length ∧ ∃ ρ lo hp, Agr hp0.length ρ0 ρ ∧ Ext H0 H' ∧ hp0.length ≤ hp.length ∧ Sst Z hx H' ρ lo hp σ' ∧ PostS Z W hx σ' hp.length ρ H' (forGo (fun l h => ms l h) t ws (items.drop (i + 1)) lo hp) De), fun σ' H' z => z, fun v H2 hy => ?_⟩
      obtain ⟨t1, d1⟩ := g2 v H2 hy
      cases eb : bindT hp1 t x lo1.v with
      | none =>
        rw [eb] at q1
        exact q1.elim
      | some l' =>
        rw [eb] at q1
        dsimp only at q1
        have nxt : ∀ {lo2 : Lo} {hp2 : HP} {ρ' : Nat → Addr} {H' : Hp} {σ' : St}, Step Z hp1.length ρ1 H2 ρ' hp2 H' → Sst Z hx H' ρ' lo2 hp2 σ' → PostS Z W hx σ1 hp1.length ρ1 H1 (forGo (fun l h => ms l h) t ws xs lo2 hp2) De →
            ∃ m', m' < items.length - i ∧ (m' = items.length - (i + 1) ∧ i + 1 ≤ items.length ∧ ∃ ρ lo hp, Agr hp0.length ρ0 ρ ∧ Ext H0 H' ∧ hp0.length ≤ hp.length ∧ Sst Z hx H' ρ lo hp σ' ∧ PostS Z W hx σ' hp.length ρ H' (forGo (fun l h => ms l h) t ws (items.drop (i + 1)) lo hp) De) := fun {lo2 hp2 ρ' H' σ'} st2 s2 q2 =>
          ⟨items.length - (i + 1), by omega, rfl, hx3, ρ', lo2, hp2, ag.trans st2.agr le, (ex.trans t1.ext).trans st2.ext, Nat.le_trans le st2.le, s2, by
            rw [hx2]
            exact PostS.later q2 (t1.trans st2)⟩
        refine ⟨ρ1, lo1, hp1, x, l', s1.step t1, d1, eb, fun σ2 s2 => ⟨ρ1, ⟨l', lo1.x⟩, hp1, s2, ?_⟩⟩
        cases em : ms ⟨l', lo1.x⟩ hp1 with
        | nx lo2 hp2 =>
          rw [em] at q1
          exact fun ρ' H' σ' st2 s' => nxt st2 s' q1
        | ct lo2 hp2 =>
          rw [em] at q1
          exact fun ρ' H' σ' st2 s' => nxt st2 s' q1
        | bk lo2 hp2 =>
          rw [em] at q1
          exact fun ρ' H' σ' st2 s' => q1 ρ' H' σ' (t1.trans st2) s'
        | rt d hp2 =>
          rw [em] at q1
          exact fun ρ' H' v st2 hv => q1 ρ' H' v (t1.trans st2) hv
        | ex x' lo2 hp2 =>
          rw [em] at q1
          exact fun ρ' H' σ' c d st2 s' xd => q1 ρ' H' σ' c d (t1.trans st2) s' xd
        | bad =>
          rw [em] at q1
          exact q1.elim
    · exact q1.elim
/-- while -/
theorem s_while {body : List Stmt} {wf : Nat} (hp : PassesOwn (model X.prog X.w) X.A X.env X.xe) (hc : PT X e (tTI Z W hx (tru me))) (hb : PSs X body (tSI Z W hx ms)) :
    PS X (.While e body [] pos) (tSI Z W hx fun lo hp => whGo (fun l h => (me l h).bind fun x h => lift (truthy h x) h) (fun l h => ms l h) wf lo hp) := PS.weak (ps_while hp hc hb) fun De σ H q => by
  obtain ⟨ρ0, lo0, hp0, s, q⟩ := q
  refine ⟨fun m σ H => ∃ ρ lo hp, Sst Z hx H ρ lo hp σ ∧ PostS Z W hx σ hp.length ρ H (whGo (fun l h => (me l h).bind fun x h => lift (truthy h x) h) (fun l h => ms l h) m lo hp) De, ⟨wf, ρ0, lo0, hp0, s, q⟩, ?_⟩
  rintro m σ1 H1 ⟨ρ1, lo1, hp1, s1, q1⟩
  cases m with
  | zero => exact q1.elim
  | succ m =>
    rw [whGo] at q1
    refine ⟨ρ1, lo1, hp1, s1, (PostS.out s1 q1).imp fun r ρ2 hp2 H2 st2 q2 => ?_⟩
    cases r with
    | false => exact q2 ρ2 H2 σ1 (Step.refl st2.rh) (s1.step st2)
    | true =>
      rw [if_pos rfl] at q2 ⊢
      refine ⟨fun σ' H' => ∃ m', m' < m + 1 ∧ ∃ ρ lo hp, Sst Z hx H' ρ lo hp σ' ∧ PostS Z W hx σ' hp.length ρ H' (whGo (fun l h => (me l h).bind fun x h => lift (truthy h x) h) (fun l h => ms l h) m' lo hp) De, fun σ' H' z => z, ρ2, lo1, hp2, s1.step st2, ?_⟩
      cases em : ms lo1 hp2 with
      | nx lo2 hp3 =>
        rw [em] at q2
        exact fun ρ' H' σ' st3 s' => ⟨m, Nat.lt_succ_self _, ρ', lo2, hp3, s', PostS.later (r := whGo _ _ m lo2 hp3) q2 st3⟩
      | ct lo2 hp3 =>
        rw [em] at q2
        exact fun ρ' H' σ' st3 s' => ⟨m, Nat.lt_succ_self _, ρ', lo2, hp3, s', PostS.later (r := whGo _ _ m lo2 hp3) q2 st3⟩
      | bk lo2 hp3 =>
        rw [em] at q2
        exact q2
      | rt d hp3 =>
        rw [em] at q2
        exact q2
      | ex x' lo2 hp3 =>
        rw [em] at q2
        exact q2
      | bad =>
        rw [em] at q2
        exact q2

/-! raise -/
theorem s_rse (hK : X.K = Z.K) (hc : X.calm = true) (tk : Takes X W) {c : Nat} (hn : c < Z.nc) (hf : Z.xf c = none) (P : PlainX Z.K (Z.xc c)) {x m : Str} {j : Nat} {p1 p2 p3 : Pos} (hg : Gl X x) (hm : X.mg x = some (.ref (Z.xc c))) (hdb : (x == ("__debug__" : Str)) = false) :
    PS X (.Raise (some (.Call (.Name x p1) [.Constant (.str m) j p2] [] p3)) none pos) (tSI Z W hx fun lo hp => .ex ⟨c, []⟩ lo hp) :=
  PS.weak (ps_raise hc tk (pmk_own PySem.F.excBase_ValueError (by rw [hK]; exact P.ex) hm (by rw [hK]; exact P.keep) (raises_own (by rw [hK]; exact P.sub) (by rw [hK]; exact P.ty)) hg hdb)) fun D σ H q => by
    obtain ⟨ρ, lo, hp, s, q⟩ := q
    exact q ρ H σ _ _ (Step.refl s.rh) s ⟨⟨rfl, hn⟩, by rw [hf]; exact ⟨rfl, rfl⟩⟩
/-! try -/
/-- the clauses' data -/
inductive HlI (Z : Zx) (hl : SL → Lo → HP → Out) : HL → List Hd → Prop
  | nil : HlI Z hl .nil []
  | cons {c : Nat} {n : Option Nat} {b : SL} {t : HL} {l : List Hd} (hc : c < Z.nc) (r : HlI Z hl t l) : HlI Z hl (.cons c n b t) ((.ref (Z.xc c), n, fun a cls d => tSI Z (fun _ _ _ _ => False) (some (n, a, cls, d)) (hl b)) :: l)
theorem RL.none {H : Hp} {ρ : Nat → Addr} {n : Nat} {ls : List (Option D)} {σ : St} (r : RL Z H ρ n ls σ) (i : Nat) (v : Option V) : RL Z H ρ n (ls.set i Option.none) (σ.set i v) :=
  ⟨by simp [r.len], fun j d e => by
    by_cases hj : j = i
    · subst hj
      by_cases hl : j < ls.length
      · rw [List.getElem?_set_self hl] at e
        cases e
      · rw [List.getElem?_eq_none (by simpa using hl)] at e
        cases e
    · rw [List.getElem?_set_ne (Ne.symm hj)] at e
      obtain ⟨w, e1, e2⟩ := r.val j d e
      exact ⟨w, by rw [List.getElem?_set_ne (Ne.symm hj)]; exact e1, e2⟩⟩
theorem exH_ok (hS : SubOk Z) {cf : Nat → List D → HP → Res D} {wf : Nat} {Wout : WX} {De : Ends} : ∀ {hs : HL} {l : List Hd}, HlI Z (fun b lo hp => exL cf Z.sub wf b lo hp) hs l → ∀ {x : Xn} {lo : Lo} {hp : HP} {σ0 σ : St} {ρ : Nat → Addr} {H : Hp} {cls : Value} {dd : Option Addr},
    Sst Z none H ρ lo hp σ → XDen Z H ρ hp.length x cls dd → PostS Z Wout none σ0 hp.length ρ H (exH cf Z.sub wf hs x lo hp) De → wAll Z.K Wout De l cls dd σ H := by
  intro hs l hI
  induction hI with
  | nil =>
    intro x lo hp σ0 σ ρ H cls dd s xd q
    rw [exH] at q
    exact q ρ H σ cls dd (Step.refl s.rh) s xd
  | @cons c n b t l hc r ih =>
    intro x lo hp σ0 σ ρ H cls dd s xd q
    rw [exH.eq_def] at q
    dsimp only at q
    have hx0 : lo.x = none := by
      have := s.hx
      cases e : lo.x with
      | none => rfl
      | some y =>
        rw [e] at this
        exact this.elim
    refine ⟨Z.sub x.c c, by rw [xd.1.1]; exact hS _ _ xd.1.2 hc, fun hb a ha => ?_, fun hb => ?_⟩
    · rw [if_pos hb] at q
      cases n with
      | none =>
        dsimp only at q
        refine ⟨ρ, ⟨lo.v, some x⟩, hp, ⟨s.rl, s.rh, ⟨xd, fun j hj => nomatch hj⟩⟩, ?_⟩
        have back : ∀ {H' : Hp} {ρ' : Nat → Addr} {l' : Lo} {hp' : HP} {σ' : St}, Sst Z (some (none, a, cls, dd)) H' ρ' l' hp' σ' → Sst Z none H' ρ' ⟨l'.v, lo.x⟩ hp' σ' := fun {H' ρ' l' hp' σ'} s' => ⟨s'.rl, s'.rh, by rw [hx0]; trivial⟩
        show PostS _ _ _ _ _ _ _ (exL cf Z.sub wf b ⟨lo.v, some x⟩ hp) _
        cases e : exL cf Z.sub wf b ⟨lo.v, some x⟩ hp with
        | nx l' hp' =>
          rw [e] at q
          exact fun ρ' H' σ' st s' => q ρ' H' σ' st (back s')
        | bk l' hp' =>
          rw [e] at q
          exact fun ρ' H' σ' st s' => q ρ' H' σ' st (back s')
        | ct l' hp' =>
          rw [e] at q
          exact fun ρ' H' σ' st s' => q ρ' H' σ' st (back s')
        | rt d hp' =>
          rw [e] at q
          exact q
        | ex _ _ _ =>
          rw [e] at q
          exact q.elim
        | bad =>
          rw [e] at q
          exact q.elim
      | some i =>
        dsimp only at q
        split at q
        · rename_i hi
          refine ⟨ρ, ⟨lo.v.set i none, some x⟩, hp, ⟨RL.none s.rl i _, s.rh, ⟨xd, fun j hj => by cases hj; exact List.getElem?_set_self (by rw [← s.rl.len]; exact hi)⟩⟩, ?_⟩
          have back : ∀ {H' : Hp} {ρ' : Nat → Addr} {l' : Lo} {hp' : HP} {σ' : St}, Sst Z (some (some i, a, cls, dd)) H' ρ' l' hp' σ' → Sst Z none H' ρ' ⟨l'.v.set i none, lo.x⟩ hp' (σ'.set i none) := fun {H' ρ' l' hp' σ'} s' => ⟨RL.none s'.rl i _, s'.rh, by rw [hx0]; trivial⟩
          show PostS _ _ _ _ _ _ _ (exL cf Z.sub wf b ⟨lo.v.set i none, some x⟩ hp) _
          cases e : exL cf Z.sub wf b ⟨lo.v.set i none, some x⟩ hp with
          | nx l' hp' =>
            rw [e] at q
            exact fun ρ' H' σ' st s' => q ρ' H' (σ'.set i none) st (back s')
          | bk l' hp' =>
            rw [e] at q
            exact fun ρ' H' σ' st s' => q ρ' H' (σ'.set i none) st (back s')
          | ct l' hp' =>
            rw [e] at q
            exact fun ρ' H' σ' st s' => q ρ' H' (σ'.set i none) st (back s')
          | rt d hp' =>
            rw [e] at q
            exact q
          | ex _ _ _ =>
            rw [e] at q
            exact q.elim
          | bad =>
            rw [e] at q
            exact q.elim
        · exact q.elim
    · rw [if_neg (by rw [hb]; decide)] at q
      exact ih s xd q
/-- try -/
theorem s_try (hS : SubOk Z) (hK : X.K = Z.K) {cf : Nat → List D → HP → Res D} {wf : Nat} (hs : X.stack = X.env :: X.outer) (hf : X.env.frame = some X.env.locals) (hN : X.N.Nodup) (tk : Takes X W) {body : List Stmt} {h₀ : ExceptHandler} {hds : List ExceptHandler} {hl : HL} {l : List Hd}
    (hb : ∀ (W : WX) (pn : List (Addr × Obj)) (xe : Value → Shared → Prop), Takes (X.tr pn xe) W → PassesOwn (model X.prog X.w) X.A X.env xe → PSs (X.tr pn xe) body (tSI Z W none ms))
    (hh : HdA X (h₀ :: hds) l) (hi : HlI Z (fun b lo hp => exL cf Z.sub wf b lo hp) hl l) :
    PS X (.Try body (h₀ :: hds) [] [] pos) (tSI Z W none fun lo hp => match ms lo hp with
      | .ex x lo hp => exH cf Z.sub wf hl x lo hp
      | o => o) := PS.weak (ps_try_all hs hf hN tk hb hh) fun De σ H q => by
  obtain ⟨ρ, lo, hp, s, q⟩ := q
  dsimp only at q
  refine ⟨ρ, lo, hp, s, ?_⟩
  cases e : ms lo hp with
  | ex x lo' hp' =>
    rw [e] at q
    dsimp only at q
    rw [hK]
    exact fun ρ' H' σ' cls dd st s' xd => exH_ok hS hi s' xd (PostS.later (σ2 := σ) q st)
  | nx _ _ =>
    rw [e] at q
    exact q
  | bk _ _ =>
    rw [e] at q
    exact q
  | ct _ _ =>
    rw [e] at q
    exact q
  | rt _ _ =>
    rw [e] at q
    exact q
  | bad =>
    rw [e] at q
    exact q
end
end MP

end
section
set_option Elab.async false
set_option linter.all false
set_option maxRecDepth 100000
set_option maxHeartbeats 2000000
/-! MP: from the text's statements to the evaluator's. -/
namespace MP
open PySem L2
open PyProof.Rows hiding St
def isComp : Expr → Bool
  | .ListComp _ _ _ _ => true
  | .SetComp _ _ _ _ => true
  | .DictComp _ _ _ _ _ => true
  | _ => false
def isTup : Expr → Bool
  | .Tuple _ _ _ => true
  | _ => false
def isSetE : Expr → Bool
  | .Set _ _ _ => true
  | _ => false
def isBltE (c : SC) (x : Str) (s : String) : Bool := decide (x = (s : Str)) && bltB c x
mutual
def cT : Nat → SC → Expr → Option Tg
  | 0, _, _ => none
  | n + 1, c, e => match e with
    | .Name x _ => if c.hn = some x then none else if locB c x = true then (ixOf c.N x).map .nm else none
    | .Tuple es _ _ => (cTs n c es).map .tp
    | _ => none
def cTs : Nat → SC → List Expr → Option (List Tg)
  | 0, _, _ => none
  | n + 1, c, es => match es with
    | [] => some []
    | e :: es => if isStar e = true then none else match cT n c e, cTs n c es with
      | some t, some ts => some (t :: ts)
      | _, _ => none
end
def cW (n : Nat) (c : SC) (tg iter : Expr) : Option W :=
  match iter with
  | .Call (.Name f p) es [] q =>
    if isBltE c f "range" = true then (match es with
      | [a] => (mapEL (cE n c) [a]).map (.rng 1)
      | [a, b] => (mapEL (cE n c) [a, b]).map (.rng 2)
      | _ => none)
    else if isBltE c f "enumerate" = true ∧ isTup tg = true then (match es with
      | [a] => if isStar a = true then none else (cE n c a).map .enum
      | _ => none)
    else if isBltE c f "zip" = true ∧ isTup tg = true then (match es with
      | [a, b] => if isStar a = true ∨ isStar b = true then none else (match cE n c a, cE n c b with
        | some x, some y => some (.zip x y)
        | _, _ => none)
      | _ => none)
    else (cE n c iter).map .val
  | _ => if isSetE iter = true then none else (cE n c iter).map .val
/-- the swapped stores of plain names -/
def swB (c : SC) : List Expr → List Expr → Bool
  | [.Name x px, .Name y py], [a, b] => decide (c.sc.kind = .function) && decide (c.sc.names.lookup x = some .local) && decide (c.sc.names.lookup y = some .local) && decide (x ≠ y) && (py.line == px.line) && !isStar a && !isStar b && !([a, b].all (foldedForSure 8)) && !([a, b].all (constantsAlone 8))
  | [.Name x px, .Name y py, .Name z pz], [a, b, d] => decide (c.sc.kind = .function) && decide (c.sc.names.lookup x = some .local) && decide (c.sc.names.lookup y = some .local) && decide (c.sc.names.lookup z = some .local) && decide (x ≠ y) && decide (x ≠ z) && decide (y ≠ z) && (py.line == px.line) && (pz.line == px.line) && !isStar a && !isStar b && !isStar d && !([a, b, d].all (foldedForSure 8)) && !([a, b, d].all (constantsAlone 8))
  | _, _ => false
mutual
def cS : Nat → SC → Stmt → Option S
  | 0, _, _ => none
  | n + 1, c, s => match s with
    | .Pass _ => some .pass
    | .Break _ => some .brk
    | .Continue _ => some .cont
    | .Expr e _ => if isComp e = true then none else (cE n c e).map .exp
    | .Return none _ => some (.ret (.con .non))
    | .Return (some e) _ => (cE n c e).map .ret
    | .If t a b _ => match cE n c t, cSs n c a, cSs n c b with
      | some x, some y, some z => some (.ite x y z)
      | _, _, _ => none
    | .While t b [] _ => match cE n c t, cSs n c b with
      | some x, some y => some (.whl x y)
      | _, _ => none
    | .For tg iter b [] _ => if c.hot = true then none else match cT n c tg, cW n c tg iter, cSs n c b with
      | some t, some w, some y => some (.for_ t w y)
      | _, _, _ => none
    | .Assign [tg] e _ => match tg with
      | .Subscript a i _ => if isSlice i = true ∨ isComp e = true then none else match cE n c a, cE n c i, cE n c e with
        | some x, some y, some z => some (.asx x y z)
        | _, _, _ => none
      | .Name x p => if isComp e = true then none else match cT n c (.Name x p), cE n c e with
        | some t, some y => some (.asg t y)
        | _, _ => none
      | .Tuple ts k p => if c.hot = true then none else if isComp e = true then none else match e with
        | .Tuple vs k2 p2 => if swB c ts vs = true then (match cT n c (.Tuple ts k p), cE n c (.Tuple vs k2 p2) with
          | some t, some y => some (.asg t y)
          | _, _ => none) else none
        | e => match cT n c (.Tuple ts k p), cE n c e with
          | some t, some y => some (.asg t y)
          | _, _ => none
      | _ => none
    | .Raise (some (.Call (.Name x _) [.Constant (.str _) _ _] [] _)) none _ => if c.hot = true then none else if glB c.sc x = true ∧ badName x = false then (match c.G.lookup x with
      | some (.exc j false) => some (.rse j false .nil)
      | _ => none) else none
    | .Try b (h :: hs) [] [] _ => if c.hot = true then none else match cSs n c b, cHs n c (h :: hs) with
      | some x, some y => some (.try_ x y)
      | _, _ => none
    | _ => none
def cSs : Nat → SC → List Stmt → Option SL
  | 0, _, _ => none
  | n + 1, c, ss => match ss with
    | [] => some .nil
    | s :: ss => match cS n c s, cSs n c ss with
      | some x, some y => some (.cons x y)
      | _, _ => none
def cHs : Nat → SC → List ExceptHandler → Option HL
  | 0, _, _ => none
  | n + 1, c, hs => match hs with
    | [] => some .nil
    | .ExceptHandler (some (.Name x _)) none (b :: bs) _ :: hs => if glB c.sc x = true ∧ badName x = false then (match c.G.lookup x with
      | some (.exc j _) => (match cSs n { c with hot := true, hn := none } (b :: bs), cHs n c hs with
        | some y, some z => some (.cons j none y z)
        | _, _ => none)
      | _ => none) else none
    | .ExceptHandler (some (.Name x _)) (some m) (b :: bs) _ :: hs => if glB c.sc x = true ∧ badName x = false ∧ c.sc.names.lookup m = some .local then (match c.G.lookup x, ixOf c.N m with
      | some (.exc j _), some i => (match cSs n { c with hot := true, hn := some m } (b :: bs), cHs n c hs with
        | some y, some z => some (.cons j (some i) y z)
        | _, _ => none)
      | _, _ => none) else none
    | _ => none
end
section
variable {Z : Zx} {cf : Nat → List D → HP → Res D} {wf : Nat}
structure GoodS (Z : Zx) (cf : Nat → List D → HP → Res D) (X : Cx) (c : SC) (hx : HX) : Prop where
  g : Good Z cf X c hx
  stk : X.stack = X.env :: X.outer
  frm : X.env.frame = some X.env.locals
  pown : PassesOwn (model X.prog X.w) X.A X.env X.xe
theorem not_comp {e : Expr} (h : isComp e = false) : (∀ l (env : Env) t, swapsWith e t l env = pure false) := by
  intro l env t
  cases e <;> first | rfl | (cases h)
theorem not_compS {e : Expr} (h : isComp e = false) : (∀ (tg : Expr) l (env : Env), swapsWithSole [tg] e l env = pure false) := by
  intro tg l env
  cases e <;> first | rfl | (cases h)
theorem sw_none {e : Expr} {ts : List Expr} {k : Nat} {p : Pos} {env : Env} (h : ∀ vs k p, e = .Tuple vs k p → False) : swappedStores [.Tuple ts k p] e env = pure none := by
  unfold swappedStores
  cases e <;> first | rfl | exact (h _ _ _ rfl).elim
theorem not_set {e : Expr} (h : isSetE e = false) (env : Env) : ∀ x, foldedSetIterable e env x = pure x := by
  intro x
  cases e <;> first | rfl | (cases h)
theorem locB_ok {X : Cx} {c : SC} {hx : HX} (G : Good Z cf X c hx) {x : Str} (h : locB c x = true) : Loc X.env.scope x ∧ (X.fn x = true ∨ X.env.scope.names.lookup x = some .local) := by
  unfold locB at h
  rw [G.sc]
  rcases Bool.or_eq_true_iff.mp h with q | q
  · have := of_decide_eq_true q
    exact ⟨.inl this, .inr this⟩
  · rw [Bool.and_eq_true] at q
    exact ⟨.inr (of_decide_eq_true q.1), .inl (G.fn x q.2)⟩
mutual
theorem cT_ok : ∀ (n : Nat) {c : SC} {e : Expr} {t : Tg}, cT n c e = some t → ∀ {X : Cx} {hx : HX}, Good Z cf X c hx → c.hot = false ∨ (∃ x p, e = .Name x p) → PG X e (tGI Z hx t) ∧ (assignEach [e] X.env).map (·.2) = [assign e X.env] ∧ (assignEach [e] X.env).map (·.1) = [false]
  | 0, _, _, _, h, _, _, _, _ => by cases h
  | n + 1, c, e, t, h, X, hx, G, hc => by
    unfold cT at h
    split at h
    · split at h
      · cases h
      · rename_i hne
        split at h
        · rename_i hl
          obtain ⟨i, e1, e2⟩ := Option.map_eq_some_iff.mp h
          subst e2
          obtain ⟨l1, l2⟩ := locB_ok G hl
          refine ⟨g_name G.nd (by rw [G.N]; exact ixOf_get e1) l1 l2 fun j a k d eh ej => ?_, rfl, rfl⟩
          obtain ⟨m, h1, h2⟩ := G.hnx j a k d eh
          subst ej
          rw [ixOf_get e1] at h2
          cases h2
          exact hne h1
        · cases h
    · obtain ⟨ts, e1, e2⟩ := Option.map_eq_some_iff.mp h
      subst e2
      have hc : c.hot = false := by
        rcases hc with q | ⟨x, p, q⟩
        · exact q
        · cases q
      obtain ⟨q1, q2, q3⟩ := cTs_ok n e1 G hc
      exact ⟨g_tup G.K (G.calm hc) q1 q2 q3, rfl, rfl⟩
    · cases h
theorem cTs_ok : ∀ (n : Nat) {c : SC} {es : List Expr} {ts : List Tg}, cTs n c es = some ts → ∀ {X : Cx} {hx : HX}, Good Z cf X c hx → c.hot = false → PGs X es (tGsI Z hx ts) ∧ (assignEach es X.env).length = ts.length ∧ (assignEach es X.env).findIdx? (·.1) = none
  | 0, _, _, _, h, _, _, _, _ => by cases h
  | n + 1, c, es, ts, h, X, hx, G, hc => by
    unfold cTs at h
    split at h
    · cases h
      exact ⟨gs_nil, rfl, rfl⟩
    · rename_i e es
      split at h
      · cases h
      · rename_i hs
        have hs : isStar e = false := by simpa using hs
        split at h
        · rename_i t ts e1 e2
          cases h
          obtain ⟨p1, p2, p3⟩ := cT_ok n e1 G (.inl hc)
          obtain ⟨q1, q2, q3⟩ := cTs_ok n e2 G hc
          have hea : assignEach (e :: es) X.env = (false, assign e X.env) :: assignEach es X.env := by
            cases e <;> first | rfl | (cases hs)
          refine ⟨gs_cons p1 q1 (by rw [hea]; rfl), by rw [hea, List.length_cons, List.length_cons, q2], ?_⟩
          rw [hea, List.findIdx?_cons]
          simp [q3]
        · cases h
end
theorem cW_ok {n : Nat} {c : SC} {tg iter : Expr} {w : W} (h : cW n c tg iter = some w) {X : Cx} {Wx : WX} {hx : HX} (G : Good Z cf X c hx) (tk : Takes X Wx) : PI X tg iter (tWI Z Wx hx (evW cf Z.sub w)) ∧ ∀ x, foldedSetIterable iter X.env x = pure x := by
  have ihE : ∀ e x, cE n c e = some x → PE X e (tI Z Wx hx (evE cf Z.sub x)) := fun e x q => (cE_ok n c e x q X Wx hx G tk).1
  have val : ∀ {e : Expr}, (cE n c e).map W.val = some w → PI X tg e (tWI Z Wx hx (evW cf Z.sub w)) := fun {e} h => by
    obtain ⟨x, e1, e2⟩ := Option.map_eq_some_iff.mp h
    subst e2
    rw [show evW cf Z.sub (.val x) = fun lo hp => (evE cf Z.sub x lo hp).bind fun x hp => lift (walk hp x) hp by funext lo hp; rw [evW]]
    exact n_wval G.K (ihE _ _ e1)
  unfold cW at h
  split at h
  · rename_i f p es q
    refine ⟨?_, fun _ => rfl⟩
    split at h
    · rename_i hb
      unfold isBltE at hb
      rw [Bool.and_eq_true] at hb
      have ef := of_decide_eq_true hb.1
      subst ef
      obtain ⟨g1, g2, _, _⟩ := bltB_ok G hb.2
      split at h
      · rename_i a
        obtain ⟨xs, e1, e2⟩ := Option.map_eq_some_iff.mp h
        subst e2
        obtain ⟨q1, q2⟩ := mapEL_ok ihE e1
        rw [show evW cf Z.sub (.rng 1 xs) = fun lo hp => (evL cf Z.sub xs lo hp).bind fun ds hp => if ds.length = 1 then lift ((rng ds).map fun xs => (xs, [])) hp else .bad by funext lo hp; rw [evW]]
        exact n_wrng1 g1 g2 (q2 a List.mem_cons_self) q1
      · rename_i a b
        obtain ⟨xs, e1, e2⟩ := Option.map_eq_some_iff.mp h
        subst e2
        obtain ⟨q1, q2⟩ := mapEL_ok ihE e1
        rw [show evW cf Z.sub (.rng 2 xs) = fun lo hp => (evL cf Z.sub xs lo hp).bind fun ds hp => if ds.length = 2 then lift ((rng ds).map fun xs => (xs, [])) hp else .bad by funext lo hp; rw [evW]]
        exact n_wrng2 g1 g2 (q2 a List.mem_cons_self) (q2 b (List.mem_cons_of_mem _ List.mem_cons_self)) q1
      · cases h
    split at h
    · rename_i hb
      obtain ⟨hb, ht⟩ := hb
      unfold isBltE at hb
      rw [Bool.and_eq_true] at hb
      have ef := of_decide_eq_true hb.1
      subst ef
      obtain ⟨g1, g2, _, _⟩ := bltB_ok G hb.2
      split at h
      · rename_i a
        split at h
        · cases h
        · rename_i hs
          obtain ⟨x, e1, e2⟩ := Option.map_eq_some_iff.mp h
          subst e2
          rw [show evW cf Z.sub (.enum x) = fun lo hp => (evE cf Z.sub x lo hp).bind fun x hp => lift ((walkL hp x).map fun p => (nums 0 p.1, p.2)) hp by funext lo hp; rw [evW]]
          cases tg <;> first | exact n_wenum G.K g1 g2 (by simpa using hs) (ihE _ _ e1) | (cases ht)
      · cases h
    split at h
    · rename_i hb
      obtain ⟨hb, ht⟩ := hb
      unfold isBltE at hb
      rw [Bool.and_eq_true] at hb
      have ef := of_decide_eq_true hb.1
      subst ef
      obtain ⟨g1, g2, _, _⟩ := bltB_ok G hb.2
      split at h
      · rename_i a b
        split at h
        · cases h
        · rename_i hs
          rw [not_or] at hs
          split at h
          · rename_i x y e1 e2
            cases h
            rw [show evW cf Z.sub (.zip x y) = fun lo hp => (evE cf Z.sub x lo hp).bind fun x hp => (evE cf Z.sub y lo hp).bind fun y hp => match walkL hp x, walkL hp y with
              | some p, some q => .ok (zipD p.1 q.1, p.2 ++ q.2) hp
              | _, _ => .bad by funext lo hp; rw [evW] <;> rfl]
            cases tg <;> first | exact n_wzip G.K g1 g2 (by simpa using hs.1) (by simpa using hs.2) (ihE _ _ e1) (ihE _ _ e2) | (cases ht)
          · cases h
      · cases h
    · exact val h
  · split at h
    · cases h
    · rename_i hs
      exact ⟨val h, not_set (by simpa using hs) _⟩
theorem sw2_ok {X : Cx} {c : SC} {hx : HX} (G : Good Z cf X c hx) {x y : Str} {px py pt pt2 : Pos} {kt k2 : Nat} {a b : Expr} (h : swB c [.Name x px, .Name y py] [a, b] = true) :
    swappedStores [.Tuple [.Name x px, .Name y py] kt pt] (.Tuple [a, b] k2 pt2) X.env = pure (some [x, y]) ∧ X.env.scope.names.lookup x = some .local ∧ X.env.scope.names.lookup y = some .local ∧ x ≠ y ∧ isStar a = false ∧ isStar b = false := by
  simp only [swB, Bool.and_eq_true, Bool.not_eq_true', decide_eq_true_eq] at h
  obtain ⟨⟨⟨⟨⟨⟨⟨⟨h1, h2⟩, h3⟩, h4⟩, h5⟩, h6⟩, h7⟩, h8⟩, h9⟩ := h
  have hk : (X.env.blockKind != .function) = false := by
    unfold Env.blockKind
    rw [G.sc, h1]
    rfl
  have e1 : (X.env.kindOf x == some .local) = true := by
    show (X.env.scope.names.lookup x == some .local) = true
    rw [G.sc, h2]
    rfl
  have e2 : (X.env.kindOf y == some .local) = true := by
    show (X.env.scope.names.lookup y == some .local) = true
    rw [G.sc, h3]
    rfl
  have exy : (y == x) = false := by simpa using Ne.symm h4
  refine ⟨?_, by rw [G.sc]; exact h2, by rw [G.sc]; exact h3, h4, h6, h7⟩
  unfold swappedStores
  simp only [pure_bind, hk, Expr.pos, h8, h9, h5, e1, e2, List.length_cons, List.length_nil, List.head?_cons, Option.map_some, Option.getD_some, List.filterMap_cons, List.filterMap_nil, beq_self_eq_true, Bool.true_and, if_true]
  simp [List.eraseDups_cons, exy]
  intro q
  exfalso
  rcases q with q | q
  · cases a <;> first | (cases h6; done) | (cases q; done)
  · cases b <;> first | (cases h7; done) | (cases q; done)
theorem sw3_ok {X : Cx} {c : SC} {hx : HX} (G : Good Z cf X c hx) {x y z : Str} {px py pz pt pt2 : Pos} {kt k2 : Nat} {a b d : Expr} (h : swB c [.Name x px, .Name y py, .Name z pz] [a, b, d] = true) :
    swappedStores [.Tuple [.Name x px, .Name y py, .Name z pz] kt pt] (.Tuple [a, b, d] k2 pt2) X.env = pure (some [x, y, z]) ∧ X.env.scope.names.lookup x = some .local ∧ X.env.scope.names.lookup y = some .local ∧ X.env.scope.names.lookup z = some .local ∧ x ≠ y ∧ x ≠ z ∧ y ≠ z := by
  simp only [swB, Bool.and_eq_true, Bool.not_eq_true', decide_eq_true_eq] at h
  obtain ⟨⟨⟨⟨⟨⟨⟨⟨⟨⟨⟨⟨⟨h1, h2⟩, h3⟩, h4⟩, n1⟩, n2⟩, n3⟩, h5⟩, h5'⟩, h6⟩, h7⟩, h7'⟩, h8⟩, h9⟩ := h
  have hk : (X.env.blockKind != .function) = false := by
    unfold Env.blockKind
    rw [G.sc, h1]
    rfl
  have e1 : (X.env.kindOf x == some .local) = true := by
    show (X.env.scope.names.lookup x == some .local) = true
    rw [G.sc, h2]
    rfl
  have e2 : (X.env.kindOf y == some .local) = true := by
    show (X.env.scope.names.lookup y == some .local) = true
    rw [G.sc, h3]
    rfl
  have e3 : (X.env.kindOf z == some .local) = true := by
    show (X.env.scope.names.lookup z == some .local) = true
    rw [G.sc, h4]
    rfl
  have exy : (y == x) = false := by simpa using Ne.symm n1
  have exz : (z == x) = false := by simpa using Ne.symm n2
  have eyz : (z == y) = false := by simpa using Ne.symm n3
  refine ⟨?_, by rw [G.sc]; exact h2, by rw [G.sc]; exact h3, by rw [G.sc]; exact h4, n1, n2, n3⟩
  unfold swappedStores
  simp only [pure_bind, hk, Expr.pos, h8, h9, h5, h5', e1, e2, e3, List.length_cons, List.length_nil, List.head?_cons, Option.map_some, Option.getD_some, List.filterMap_cons, List.filterMap_nil, beq_self_eq_true, Bool.true_and, if_true]
  simp [List.eraseDups_cons, exy, exz, eyz]
  intro q
  exfalso
  rcases q with q | q | q
  · cases a <;> first | (cases h6; done) | (cases q; done)
  · cases b <;> first | (cases h7; done) | (cases q; done)
  · cases d <;> first | (cases h7'; done) | (cases q; done)
theorem tI_tup {X : Cx} {n : Nat} {c : SC} {W : WX} {hx : HX} (G : Good Z cf X c hx) (tk : Takes X W) {vs : List Expr} {k : Nat} {p : Pos} {x : E} (h : cE n c (.Tuple vs k p) = some x) : ∃ xs, x = .tup xs ∧ PA X vs (tAI Z W hx (evL cf Z.sub xs)) := by
  cases n with
  | zero => cases h
  | succ n =>
    unfold cE at h
    obtain ⟨xs, e1, e2⟩ := Option.map_eq_some_iff.mp h
    exact ⟨xs, e2.symm, (mapEL_ok (fun e x q => (cE_ok n c e x q X W hx G tk).1) e1).1⟩
theorem sst_set {hx : HX} {H : Hp} {ρ : Nat → Addr} {lo : Lo} {hp : HP} {σ : St} {i : Nat} {d : D} {v : V} (s : Sst Z hx H ρ lo hp σ) (hv : Den Z H ρ hp.length d v) (hlt : i < lo.v.length) (hfree : freeOf hx i) : Sst Z hx H ρ ⟨lo.v.set i (some d), lo.x⟩ hp (σ.set i (some v)) :=
  ⟨⟨by simp [s.rl.len], fun j d' e => by
    by_cases hj : j = i
    · subst hj
      simp only at e
      rw [List.getElem?_set_self hlt] at e
      cases e
      exact ⟨v, List.getElem?_set_self (by rw [← s.rl.len]; exact hlt), hv⟩
    · simp only at e
      rw [List.getElem?_set_ne (Ne.symm hj)] at e
      obtain ⟨w, e1, e2⟩ := s.rl.val j d' e
      exact ⟨w, by rw [List.getElem?_set_ne (Ne.symm hj)]; exact e1, e2⟩⟩, s.rh, HXok_set s.hx hfree⟩
theorem tup_out {X : EL} {lo : Lo} {hp : HP} {f : D → HP → Out} : (evE cf Z.sub (.tup X) lo hp).out lo f = (evL cf Z.sub X lo hp).out lo fun ds hp => if ds.length ≤ LIM then f (.tup ds) hp else .bad := by
  rw [evE]
  cases evL cf Z.sub X lo hp with
  | bad => rfl
  | ex _ _ => rfl
  | ok ds h =>
    simp only [Res.bind_ok, Res.out_ok]
    split <;> rfl
theorem bindNm {hp : HP} {i : Nat} {d : D} {l l' : List (Option D)} (h : bindT hp (.nm i) d l = some l') : i < l.length ∧ l' = l.set i (some d) := by
  rw [bindT] at h
  split at h
  · rename_i hl
    cases h
    exact ⟨hl, rfl⟩
  · cases h
theorem bindCons {hp : HP} {t : Tg} {ts : List Tg} {ds : List D} {l l' : List (Option D)} (h : bindTs hp (t :: ts) ds l = some l') : ∃ d ds' l1, ds = d :: ds' ∧ bindT hp t d l = some l1 ∧ bindTs hp ts ds' l1 = some l' := by
  cases ds with
  | nil => simp [bindTs] at h
  | cons d ds =>
    rw [bindTs] at h
    cases e : bindT hp t d l with
    | none =>
      rw [e] at h
      cases h
    | some l1 =>
      rw [e] at h
      exact ⟨d, ds, l1, rfl, e, h⟩
theorem bindNil {hp : HP} {ds : List D} {l l' : List (Option D)} (h : bindTs hp [] ds l = some l') : ds = [] ∧ l' = l := by
  cases ds with
  | nil =>
    rw [bindTs] at h
    cases h
    exact ⟨rfl, rfl⟩
  | cons d ds => simp [bindTs] at h
theorem cTs_inv {m : Nat} {c : SC} {e : Expr} {es : List Expr} {ts : List Tg} (h : cTs m c (e :: es) = some ts) : ∃ k t ts', ts = t :: ts' ∧ cT k c e = some t ∧ cTs k c es = some ts' := by
  cases m with
  | zero => cases h
  | succ m =>
    unfold cTs at h
    dsimp only at h
    split at h
    · cases h
    · split at h
      · cases h
        exact ⟨m, _, _, rfl, ‹_›, ‹_›⟩
      · cases h
theorem cTs_inv0 {m : Nat} {c : SC} {ts : List Tg} (h : cTs m c [] = some ts) : ts = [] := by
  cases m with
  | zero => cases h
  | succ m =>
    unfold cTs at h
    cases h
    rfl
theorem cT_name {m : Nat} {c : SC} {x : Str} {p : Pos} {t : Tg} (h : cT m c (.Name x p) = some t) : ∃ i, t = .nm i ∧ c.N[i]? = some x := by
  cases m with
  | zero => cases h
  | succ m =>
    unfold cT at h
    dsimp only at h
    split at h
    · cases h
    · split at h
      · obtain ⟨i, e1, e2⟩ := Option.map_eq_some_iff.mp h
        exact ⟨i, e2.symm, ixOf_get e1⟩
      · cases h
theorem cT_tup {m : Nat} {c : SC} {es : List Expr} {k : Nat} {p : Pos} {t : Tg} (h : cT m c (.Tuple es k p) = some t) : ∃ k ts, t = .tp ts ∧ cTs k c es = some ts := by
  cases m with
  | zero => cases h
  | succ m =>
    unfold cT at h
    obtain ⟨ts, e1, e2⟩ := Option.map_eq_some_iff.mp h
    exact ⟨m, ts, e2.symm, e1⟩
theorem ix_ne {N : List Str} {i j : Nat} {x y : Str} (hi : N[i]? = some x) (hj : N[j]? = some y) (n : x ≠ y) : i ≠ j := fun e => by
  subst e
  rw [hi] at hj
  cases hj
  exact n rfl
theorem free0 {i : Nat} : freeOf none i := fun _ _ _ _ e => by cases e
/-- a, b = x, y -/
theorem par2_ok {X : Cx} {n m : Nat} {c : SC} {W : WX} (G : Good Z cf X c none) (hc : c.hot = false) (tk : Takes X W) {x y : Str} {px py pt pt2 pos : Pos} {kt k2 : Nat} {a b : Expr} {t : Tg} {e : E} (h : swB c [.Name x px, .Name y py] [a, b] = true)
    (ht : cT m c (.Tuple [.Name x px, .Name y py] kt pt) = some t) (he : cE n c (.Tuple [a, b] k2 pt2) = some e) :
    PS X (.Assign [.Tuple [.Name x px, .Name y py] kt pt] (.Tuple [a, b] k2 pt2) pos) (tSI Z W none (exS cf Z.sub wf (.asg t e))) := by
  obtain ⟨w1, l1, l2, nxy, _, _⟩ := sw2_ok (pt := pt) (pt2 := pt2) (kt := kt) (k2 := k2) G h
  obtain ⟨xs, ex, pa⟩ := tI_tup (hx := none) G tk he
  subst ex
  obtain ⟨_, ts, et, h1⟩ := cT_tup ht
  obtain ⟨_, t1, ts1, e1, h2, h3⟩ := cTs_inv h1
  obtain ⟨_, t2, ts2, e2, h4, h5⟩ := cTs_inv h3
  have e3 := cTs_inv0 h5
  obtain ⟨i, i1, hi⟩ := cT_name h2
  obtain ⟨j, j1, hj⟩ := cT_name h4
  subst et e1 e2 e3 i1 j1
  have hij := ix_ne hi hj nxy
  refine PS.weak (ps_par (G.calm hc) G.nd (by rw [G.N]; exact hi) (by rw [G.N]; exact hj) hij l1 l2 pa w1) fun De σ H q => ?_
  obtain ⟨ρ, lo, hp, s, q⟩ := q
  rw [exS, tup_out] at q
  refine ⟨ρ, lo, hp, s, (PostS.out s q).imp fun ds ρ' hp' H' t q vs hv => ?_⟩
  split at q
  rotate_left
  · exact q.elim
  split at q
  rotate_left
  · exact q.elim
  rename_i l' eb
  rw [bindT] at eb
  obtain ⟨d1, r1, m1, e1, b1, eb⟩ := bindCons eb
  obtain ⟨d2, r2, m2, e2, b2, eb⟩ := bindCons eb
  obtain ⟨e3, e4⟩ := bindNil eb
  subst e1 e2 e3 e4
  rw [den_l1] at hv
  obtain ⟨v1, us, f1, g1, hv⟩ := hv
  rw [den_l1] at hv
  obtain ⟨v2, us2, f2, g2, hv⟩ := hv
  rw [den_l0] at hv
  subst f1 f2 hv
  obtain ⟨q1, q2⟩ := bindNm b1
  subst q2
  obtain ⟨q3, q4⟩ := bindNm b2
  subst q4
  have s' := s.step t
  have s1 := sst_set s' g1 q1 (free0 (i := i))
  have s2 := sst_set s1 g2 q3 (free0 (i := j))
  exact ⟨v1, v2, rfl, q ρ' H' _ (Step.refl t.rh) s2⟩
theorem par3_ok {X : Cx} {n m : Nat} {c : SC} {W : WX} (G : Good Z cf X c none) (hc : c.hot = false) (tk : Takes X W) {x y z : Str} {px py pz pt pt2 pos : Pos} {kt k2 : Nat} {a b d : Expr} {t : Tg} {e : E} (h : swB c [.Name x px, .Name y py, .Name z pz] [a, b, d] = true)
    (ht : cT m c (.Tuple [.Name x px, .Name y py, .Name z pz] kt pt) = some t) (he : cE n c (.Tuple [a, b, d] k2 pt2) = some e) :
    PS X (.Assign [.Tuple [.Name x px, .Name y py, .Name z pz] kt pt] (.Tuple [a, b, d] k2 pt2) pos) (tSI Z W none (exS cf Z.sub wf (.asg t e))) := by
  obtain ⟨w1, l1, l2, l3, nxy, nxz, nyz⟩ := sw3_ok (pt := pt) (pt2 := pt2) (kt := kt) (k2 := k2) G h
  obtain ⟨xs, ex, pa⟩ := tI_tup (hx := none) G tk he
  subst ex
  obtain ⟨_, ts, et, h1⟩ := cT_tup ht
  obtain ⟨_, t1, ts1, e1, h2, h3⟩ := cTs_inv h1
  obtain ⟨_, t2, ts2, e2, h4, h5⟩ := cTs_inv h3
  obtain ⟨_, t3, ts3, e2', h6, h7⟩ := cTs_inv h5
  have e3 := cTs_inv0 h7
  obtain ⟨i, i1, hi⟩ := cT_name h2
  obtain ⟨j, j1, hj⟩ := cT_name h4
  obtain ⟨k, k1, hk⟩ := cT_name h6
  subst et e1 e2 e2' e3 i1 j1 k1
  refine PS.weak (ps_par3 (G.calm hc) G.nd (by rw [G.N]; exact hi) (by rw [G.N]; exact hj) (by rw [G.N]; exact hk) (ix_ne hi hj nxy) (ix_ne hi hk nxz) (ix_ne hj hk nyz) l1 l2 l3 pa w1) fun De σ H q => ?_
  obtain ⟨ρ, lo, hp, s, q⟩ := q
  rw [exS, tup_out] at q
  refine ⟨ρ, lo, hp, s, (PostS.out s q).imp fun ds ρ' hp' H' t q vs hv => ?_⟩
  split at q
  rotate_left
  · exact q.elim
  split at q
  rotate_left
  · exact q.elim
  rename_i l' eb
  rw [bindT] at eb
  obtain ⟨d1, r1, m1, e1, b1, eb⟩ := bindCons eb
  obtain ⟨d2, r2, m2, e2, b2, eb⟩ := bindCons eb
  obtain ⟨d3, r3, m3, e2', b3, eb⟩ := bindCons eb
  obtain ⟨e3, e4⟩ := bindNil eb
  subst e1 e2 e2' e3 e4
  rw [den_l1] at hv
  obtain ⟨v1, us, f1, g1, hv⟩ := hv
  rw [den_l1] at hv
  obtain ⟨v2, us2, f2, g2, hv⟩ := hv
  rw [den_l1] at hv
  obtain ⟨v3, us3, f3, g3, hv⟩ := hv
  rw [den_l0] at hv
  subst f1 f2 f3 hv
  obtain ⟨q1, q2⟩ := bindNm b1
  subst q2
  obtain ⟨q3, q4⟩ := bindNm b2
  subst q4
  obtain ⟨q5, q6⟩ := bindNm b3
  subst q6
  have s' := s.step t
  have s1 := sst_set s' g1 q1 (free0 (i := i))
  have s2 := sst_set s1 g2 q3 (free0 (i := j))
  have s3 := sst_set s2 g3 q5 (free0 (i := k))
  exact ⟨v1, v2, v3, rfl, q ρ' H' _ (Step.refl t.rh) s3⟩
/-- the context of a try's body -/
theorem GoodS.tr {X : Cx} {c : SC} (G : GoodS Z cf X c none) {pn : List (Addr × Obj)} {xe : Value → Shared → Prop} (hp : PassesOwn (model X.prog X.w) X.A X.env xe) : GoodS Z cf (X.tr pn xe) c none :=
  ⟨⟨G.g.z, G.g.K, G.g.N, G.g.nd, G.g.sc, G.g.calm, G.g.room, G.g.glb, G.g.fn, G.g.hnx, G.g.hxn, G.g.cold, fun _ _ _ _ e => nomatch e⟩, G.stk, G.frm, hp⟩
theorem takes0 {X : Cx} : Takes X (fun _ _ _ _ => False) := fun _ _ ⟨_, _, _, _, _, _, _, _, _, _, _, _, _, _, _, _, w⟩ => w.elim
/-- the context of an except suite -/
theorem GoodS.suite {X : Cx} {c : SC} (G : GoodS Z cf X c none) {i : Option Nat} {m : Option Str} (hi : ∀ n, m = some n → ∃ j, i = some j ∧ c.N[j]? = some n) (hi2 : ∀ j, i = some j → ∃ n, m = some n ∧ c.N[j]? = some n) {a : Addr} {oe : Obj} {pn : List (Addr × Obj)} {cls : Value} {dd : Option Addr} (hz : Zc cls dd oe) (hf : ∃ vs, oe.data = .fields vs) :
    GoodS Z cf (X.suite a ((a, oe) :: pn)) { c with hot := true, hn := m } (some (i, a, cls, dd)) where
  g := by
    refine ⟨G.g.z, G.g.K, G.g.N, G.g.nd, G.g.sc, (fun e => nomatch e), G.g.room, fun x g e hn => ?_, G.g.fn, fun j a' k d e => ?_, fun i' a' k d n e hn => ?_, (fun e => nomatch e), fun i' a' k d e => ?_⟩
    · have := G.g.glb x g e (fun _ => hn rfl)
      cases g with
      | fn i ps => exact absurd rfl (hn rfl i ps)
      | con d => exact this
      | exc c k => exact this
      | dic _ => exact this
      | blt => exact this
    · cases e
      exact hi2 j rfl
    · cases e
      exact hi n hn
    · cases e
      exact ⟨X, oe, pn, rfl, hz, hf⟩
  stk := G.stk
  frm := G.frm
  pown := PassesOwn.never
mutual
theorem cS_ok : ∀ (n : Nat) {c : SC} {s : Stmt} {x : S}, cS n c s = some x → ∀ {X : Cx} {W : WX} {hx : HX}, GoodS Z cf X c hx → Takes X W → PS X s (tSI Z W hx (exS cf Z.sub wf x))
  | 0, _, _, _, h, _, _, _, _, _ => by cases h
  | n + 1, c, s, x, h, X, W, hx, G, tk => by
    have ihE : ∀ e x, cE n c e = some x → PE X e (tI Z W hx (evE cf Z.sub x)) := fun e x q => (cE_ok n c e x q X W hx G.g tk).1
    have ihT : ∀ e x, cE n c e = some x → PT X e (tTI Z W hx (tru (evE cf Z.sub x))) := fun e x q => (cE_ok n c e x q X W hx G.g tk).2
    have ihL : ∀ {ss x}, cSs n c ss = some x → PSs X ss (tSI Z W hx (exL cf Z.sub wf x)) := fun {ss x} q => cSs_ok n q G tk
    have hfree : c.hot = false → hx = none := G.g.cold
    unfold cS at h
    split at h
    · cases h
      rw [show exS cf Z.sub wf .pass = fun lo hp => .nx lo hp by funext lo hp; rw [exS]]
      exact s_pass
    · cases h
      rw [show exS cf Z.sub wf .brk = fun lo hp => .bk lo hp by funext lo hp; rw [exS]]
      exact s_brk
    · cases h
      rw [show exS cf Z.sub wf .cont = fun lo hp => .ct lo hp by funext lo hp; rw [exS]]
      exact s_cont
    · split at h
      · cases h
      · rename_i hc
        obtain ⟨y, e1, e2⟩ := Option.map_eq_some_iff.mp h
        subst e2
        rw [show exS cf Z.sub wf (.exp y) = fun lo hp => (evE cf Z.sub y lo hp).out lo fun _ hp => .nx lo hp by funext lo hp; rw [exS]]
        exact s_exp (ihE _ _ e1) (not_comp (by simpa using hc) _ _ _)
    · cases h
      rw [show exS cf Z.sub wf (.ret (.con .non)) = fun lo hp => .rt .non hp by funext lo hp; rw [exS, evE] <;> rfl]
      exact s_retN
    · obtain ⟨y, e1, e2⟩ := Option.map_eq_some_iff.mp h
      subst e2
      rw [show exS cf Z.sub wf (.ret y) = fun lo hp => (evE cf Z.sub y lo hp).out lo fun d hp => .rt d hp by funext lo hp; rw [exS]]
      exact s_ret (ihE _ _ e1)
    · split at h
      · rename_i y z u e1 e2 e3
        cases h
        rw [show exS cf Z.sub wf (.ite y z u) = fun lo hp => (evE cf Z.sub y lo hp).out lo fun x h => (lift (truthy h x) h).out lo fun r h => if r = true then exL cf Z.sub wf z lo h else exL cf Z.sub wf u lo h by funext lo hp; rw [exS]]
        exact s_if (ihT _ _ e1) (ihL e2) (ihL e3)
      · cases h
    · split at h
      · rename_i y z e1 e2
        cases h
        rw [show exS cf Z.sub wf (.whl y z) = fun lo hp => whGo (fun l h => (evE cf Z.sub y l h).bind fun x h => lift (truthy h x) h) (fun l h => exL cf Z.sub wf z l h) wf lo hp by funext lo hp; rw [exS]]
        exact s_while G.pown (ihT _ _ e1) (ihL e2)
      · cases h
    · split at h
      · cases h
      rename_i hh
      have hh : c.hot = false := by simpa using hh
      split at h
      · rename_i t w y e1 e2 e3
        cases h
        obtain ⟨q1, q2⟩ := cW_ok e2 G.g tk
        rw [show exS cf Z.sub wf (.for_ t w y) = fun lo hp => (evW cf Z.sub w lo hp).out lo fun iw hp => forGo (fun l h => exL cf Z.sub wf y l h) t iw.2 iw.1 lo hp by funext lo hp; rw [exS]]
        exact s_for G.pown (G.g.calm hh) q1 (cT_ok n e1 G.g (.inl hh)).1 (ihL e3) q2
      · cases h
    · -- assignments
      split at h
      · rename_i a i p
        split at h
        · cases h
        rename_i hs
        rw [not_or] at hs
        split at h
        · rename_i y z u e1 e2 e3
          cases h
          rw [show exS cf Z.sub wf (.asx y z u) = fun lo hp => (evE cf Z.sub u lo hp).out lo fun yv h => (evE cf Z.sub y lo h).out lo fun x h => (evE cf Z.sub z lo h).out lo fun k h =>
            match x, k with
            | .ref m, .int k => (match h[m]? with
              | some (.lst xs) => (match L2.ixN xs.length k with
                | some j => .nx lo (h.set m (.lst (xs.set j yv)))
                | none => .bad)
              | _ => .bad)
            | _, _ => .bad by funext lo hp; rw [exS] <;> rfl]
          exact s_asx G.g.K (by simpa using hs.1) (ihE _ _ e3) (ihE _ _ e1) (ihE _ _ e2) (not_compS (by simpa using hs.2) _ _ _)
        · cases h
      · rename_i x p
        split at h
        · cases h
        rename_i hs
        split at h
        · rename_i t y e1 e2
          cases h
          obtain ⟨q1, q2, q3⟩ := cT_ok n e1 G.g (.inr ⟨_, _, rfl⟩)
          rw [show exS cf Z.sub wf (.asg t y) = fun lo hp => (evE cf Z.sub y lo hp).out lo fun x h => match bindT h t x lo.v with
            | some v => .nx ⟨v, lo.x⟩ h
            | none => .bad by funext lo hp; rw [exS] <;> rfl]
          exact s_asg (ihE _ _ e2) q1 (not_compS (by simpa using hs) _ _ _) rfl q2
        · cases h
      · rename_i ts k p
        split at h
        · cases h
        rename_i hh
        have hh : c.hot = false := by simpa using hh
        split at h
        · cases h
        rename_i hs
        split at h
        · rename_i vs k2 p2
          split at h
          · rename_i hw
            split at h
            · rename_i t y e1 e2
              cases h
              have := hfree hh
              subst this
              rcases ts with _ | ⟨t1, _ | ⟨t2, _ | ⟨t3, _ | ⟨t4, tr⟩⟩⟩⟩
              · cases hw
              · cases t1 <;> cases hw
              · rcases vs with _ | ⟨v1, _ | ⟨v2, _ | ⟨v3, vr⟩⟩⟩
                all_goals cases t1 <;> first | (cases hw; done) | skip
                all_goals cases t2 <;> first | (cases hw; done) | skip
                exact par2_ok G.g hh tk hw e1 e2
              · rcases vs with _ | ⟨v1, _ | ⟨v2, _ | ⟨v3, _ | ⟨v4, vr⟩⟩⟩⟩
                all_goals cases t1 <;> first | (cases hw; done) | skip
                all_goals cases t2 <;> first | (cases hw; done) | skip
                all_goals cases t3 <;> first | (cases hw; done) | skip
                exact par3_ok G.g hh tk hw e1 e2
              · simp [swB] at hw
            · cases h
          · cases h
        · rename_i e hnt
          split at h
          · rename_i t y e1 e2
            cases h
            obtain ⟨q1, q2, q3⟩ := cT_ok n e1 G.g (.inl hh)
            rw [show exS cf Z.sub wf (.asg t y) = fun lo hp => (evE cf Z.sub y lo hp).out lo fun x h => match bindT h t x lo.v with
              | some v => .nx ⟨v, lo.x⟩ h
              | none => .bad by funext lo hp; rw [exS] <;> rfl]
            exact s_asg (ihE _ _ e2) q1 (not_compS (by simpa using hs) _ _ _) (sw_none hnt) q2
          · cases h
      · cases h
    · -- raise
      split at h
      · cases h
      rename_i hh
      have hh : c.hot = false := by simpa using hh
      split at h
      · rename_i hg
        obtain ⟨b1, b2, b3⟩ := badName_of hg.2
        split at h
        · rename_i j eg
          cases h
          obtain ⟨c1, c2, c3⟩ := G.g.glb _ _ eg (fun q => by rw [hh] at q; cases q)
          rw [show exS cf Z.sub wf (.rse j false .nil) = fun lo hp => .ex ⟨j, []⟩ lo hp by funext lo hp; rw [exS, evL] <;> rfl]
          exact s_rse G.g.K (G.g.calm hh) tk c1 (c3 rfl) (G.g.z.plain j c1 (c3 rfl)).1 (glB_ok G.g.sc hg.1) c2 b1
        · cases h
      · cases h
    · -- try
      split at h
      · cases h
      rename_i hh
      have hh : c.hot = false := by simpa using hh
      have := hfree hh
      subst this
      split at h
      · rename_i y z e1 e2
        cases h
        rw [show exS cf Z.sub wf (.try_ y z) = fun lo hp => match exL cf Z.sub wf y lo hp with
          | .ex x lo hp => exH cf Z.sub wf z x lo hp
          | o => o by funext lo hp; rw [exS] <;> rfl]
        obtain ⟨l, q1, q2⟩ := cHs_ok n e2 G hh
        exact s_try (ms := exL cf Z.sub wf y) G.g.z.sub G.g.K G.stk G.frm G.g.nd tk (fun W pn xe tk' hp => cSs_ok n e1 (G.tr hp) tk') q1 q2
      · cases h
    · cases h
theorem cSs_ok : ∀ (n : Nat) {c : SC} {ss : List Stmt} {x : SL}, cSs n c ss = some x → ∀ {X : Cx} {W : WX} {hx : HX}, GoodS Z cf X c hx → Takes X W → PSs X ss (tSI Z W hx (exL cf Z.sub wf x))
  | 0, _, _, _, h, _, _, _, _, _ => by cases h
  | n + 1, c, ss, x, h, X, W, hx, G, tk => by
    unfold cSs at h
    split at h
    · cases h
      rw [show exL cf Z.sub wf .nil = fun lo hp => .nx lo hp by funext lo hp; rw [exL]]
      exact s_nil
    · split at h
      · rename_i y z e1 e2
        cases h
        rw [show exL cf Z.sub wf (.cons y z) = fun lo hp => (exS cf Z.sub wf y lo hp).then fun lo hp => exL cf Z.sub wf z lo hp by funext lo hp; rw [exL]]
        exact s_cons (cS_ok n e1 G tk) (cSs_ok n e2 G tk)
      · cases h
theorem cHs_ok : ∀ (n : Nat) {c : SC} {hs : List ExceptHandler} {x : HL}, cHs n c hs = some x → ∀ {X : Cx}, GoodS Z cf X c none → c.hot = false → ∃ l, HdA X hs l ∧ HlI Z (fun b lo hp => exL cf Z.sub wf b lo hp) x l
  | 0, _, _, _, h, _, _, _ => by cases h
  | n + 1, c, hs, x, h, X, G, hh => by
    unfold cHs at h
    split at h
    · cases h
      exact ⟨[], .nil, .nil⟩
    · rename_i nm p1 b bs p2 hs
      split at h
      · rename_i hg
        obtain ⟨b1, b2, b3⟩ := badName_of hg.2
        split at h
        · rename_i j kk eg
          obtain ⟨c1, c2, c3⟩ := G.g.glb _ _ eg (fun q => by rw [hh] at q; cases q)
          split at h
          · rename_i y z e1 e2
            cases h
            obtain ⟨l, q1, q2⟩ := cHs_ok n e2 G hh
            refine ⟨_, .anon ⟨glB_ok G.g.sc hg.1, b1, .inl c2⟩ (fun a oe cls d pn hz hf => ?_) q1, .cons c1 q2⟩
            exact cSs_ok n e1 (G.suite (i := none) (m := none) (fun _ e => nomatch e) (fun _ e => nomatch e) hz hf) takes0
          · cases h
        · cases h
      · cases h
    · rename_i nm p1 m b bs p2 hs
      split at h
      · rename_i hg
        obtain ⟨b1, b2, b3⟩ := badName_of hg.2.1
        split at h
        · rename_i j kk i eg ei
          obtain ⟨c1, c2, c3⟩ := G.g.glb _ _ eg (fun q => by rw [hh] at q; cases q)
          split at h
          · rename_i y z e1 e2
            cases h
            obtain ⟨l, q1, q2⟩ := cHs_ok n e2 G hh
            refine ⟨_, .named ⟨glB_ok G.g.sc hg.1, b1, .inl c2⟩ (by rw [G.g.N]; exact ixOf_get ei) (by show X.env.scope.names.lookup m = some .local; rw [G.g.sc]; exact hg.2.2) (fun a oe cls d pn hz hf => ?_) q1, .cons c1 q2⟩
            exact cSs_ok n e1 (G.suite (i := some i) (m := some m) (fun _ e => by cases e; exact ⟨i, rfl, ixOf_get ei⟩) (fun _ e => by cases e; exact ⟨m, rfl, ixOf_get ei⟩) hz hf) takes0
          · cases h
        · cases h
      · cases h
    · cases h
end
end
end MP

end
section
set_option Elab.async false
set_option linter.all false
set_option maxRecDepth 100000
set_option maxHeartbeats 2000000
/-! MP: defs keep to the evaluator. -/
namespace MP
open PySem L2
open PyProof.Rows hiding St
section
variable {Z : Zx} {H H' : Hp} {ρ ρ' : Nat → Addr} {h h' : HP}
theorem zip_all {α : Type} {p : α × α → Bool} : ∀ {a b : List α} {i : Nat} {x y : α}, ((a.zip b).all p) = true → a[i]? = some x → b[i]? = some y → p (x, y) = true
  | [], _, _, _, _, _, e, _ => by simp at e
  | _ :: _, [], _, _, _, _, _, e => by simp at e
  | a :: as, b :: bs, 0, x, y, h, e1, e2 => by
    simp at e1 e2
    subst e1 e2
    rw [List.zip_cons_cons, List.all_cons, Bool.and_eq_true] at h
    exact h.1
  | a :: as, b :: bs, i + 1, x, y, h, e1, e2 => by
    rw [List.zip_cons_cons, List.all_cons, Bool.and_eq_true] at h
    exact zip_all h.2 (by simpa using e1) (by simpa using e2)
/-- the old objects lead to old ones -/
theorem gc_cl (r : RH Z H ρ h) (s : Step Z h.length ρ H ρ' h' H') (g : gcOk h h' = true) {i : Nat} {o : O} (hi : i < h.length) (e : h'[i]? = some o) : o.cl h.length = true := by
  unfold gcOk at g
  rw [Bool.and_eq_true] at g
  have g := g.2
  have e1 : (h'.take h.length)[i]? = some o := by rw [List.getElem?_take_of_lt hi]; exact e
  have e2 : h[i]? = some h[i] := List.getElem?_eq_getElem hi
  have := zip_all g e1 e2
  rcases Bool.or_eq_true_iff.mp this with q | q
  · have q := of_decide_eq_true q
    dsimp only at q
    subst q
    exact (r.obj i _ e2).cl
  · exact q
theorem gc_take (r : RH Z H ρ h) (s : Step Z h.length ρ H ρ' h' H') (g : gcOk h h' = true) : RH Z H' ρ' (h'.take h.length) := by
  have hl : (h'.take h.length).length = h.length := by rw [List.length_take]; exact Nat.min_eq_left s.le
  refine ⟨fun i j hi hj e => ?_, fun i o e => ?_⟩
  · rw [hl] at hi hj
    exact s.rh.inj i j (Nat.lt_of_lt_of_le hi s.le) (Nat.lt_of_lt_of_le hj s.le) e
  · have hi : i < h.length := by
      have := (List.getElem?_eq_some_iff.mp e).1
      rw [hl] at this
      exact this
    rw [List.getElem?_take_of_lt hi] at e
    rw [hl]
    exact (s.rh.obj i o e).cut (Agr.refl _ _) (gc_cl r s g hi e)
theorem gc_step (r : RH Z H ρ h) (s : Step Z h.length ρ H ρ' h' H') (g : gcOk h h' = true) : Step Z h.length ρ H ρ' (h'.take h.length) H' :=
  ⟨s.agr, s.ext, by rw [List.length_take, Nat.min_eq_left s.le]; exact Nat.le_refl _, gc_take r s g⟩
/-- behind a call -/
theorem gc_ok {W : WX} {σ : St} {Q : D → (Nat → Addr) → HP → Hp → Prop} (r : RH Z H ρ h) {d : D} {v : V} (s : Step Z h.length ρ H ρ' h' H') (hv : Den Z H' ρ' h'.length d v) (q : Post Z W σ h.length ρ H (gc h d h') Q) :
    ∃ d2 ρ2 h2, Den Z H' ρ2 h2.length d2 v ∧ Q d2 ρ2 h2 H' := by
  have plain : Post Z W σ h.length ρ H (.ok d h') Q → ∃ d2 ρ2 h2, Den Z H' ρ2 h2.length d2 v ∧ Q d2 ρ2 h2 H' := fun q => ⟨d, ρ', h', hv, q ρ' H' s⟩
  have hl : (h'.take h.length).length = h.length := by rw [List.length_take]; exact Nat.min_eq_left s.le
  unfold gc at q
  split at q
  · rename_i g
    split at q
    · rename_i hc
      exact ⟨d, ρ', _, by rw [hl]; exact hv.cut (Agr.refl _ _) hc, q ρ' H' (gc_step r s g)⟩
    · split at q
      · rename_i m _
        split at q
        · rename_i o eo
          split at q
          · rename_i hm
            -- a new object, flat over the old ones
            have st := gc_step r s g
            have hml : m < h'.length := (List.getElem?_eq_some_iff.mp eo).1
            have ht := st.rh
            rw [den_ref] at hv
            have ao : ODen Z H' (put ρ' h.length (ρ' m)) (h.length + 1) o (ρ' m) := ((s.rh.obj m o eo).cut (Agr.refl _ _) hm.2).mono (Ext.refl _) put_agr (Nat.le_succ _) rfl
            have rh2 : RH Z H' (put ρ' h.length (ρ' m)) (h'.take h.length ++ [o]) := by
              refine ⟨fun i j hi hj e => ?_, fun i o' e => ?_⟩
              · rw [List.length_append, hl, List.length_singleton] at hi hj
                unfold put at e
                have nm : ∀ i, i < h.length → ρ' i ≠ ρ' m := fun i hi q => by
                  have := s.rh.inj i m (Nat.lt_of_lt_of_le hi s.le) hml q
                  omega
                by_cases h1 : i = h.length
                · by_cases h2 : j = h.length
                  · exact h1.trans h2.symm
                  · rw [if_pos h1, if_neg h2] at e
                    exact absurd e.symm (nm j (by omega))
                · by_cases h2 : j = h.length
                  · rw [if_neg h1, if_pos h2] at e
                    exact absurd e (nm i (by omega))
                  · rw [if_neg h1, if_neg h2] at e
                    exact ht.inj i j (by omega) (by omega) e
              · rw [List.length_append, hl, List.length_singleton]
                by_cases h1 : i < h.length
                · rw [List.getElem?_append_left (by omega)] at e
                  rw [put_agr i h1]
                  have := ht.obj i o' e
                  rw [hl] at this
                  exact this.mono (Ext.refl _) put_agr (Nat.le_succ _) rfl
                · have h2 : i = h.length := by
                    have := (List.getElem?_eq_some_iff.mp e).1
                    rw [List.length_append, hl, List.length_singleton] at this
                    omega
                  subst h2
                  rw [List.getElem?_append_right (by omega), hl, Nat.sub_self] at e
                  simp at e
                  subst e
                  rw [put_at]
                  exact ao
            have st2 : Step Z h.length ρ H (put ρ' h.length (ρ' m)) (h'.take h.length ++ [o]) H' :=
              ⟨fun i hi => (put_agr i hi).trans (s.agr i hi), s.ext, by rw [List.length_append, hl]; exact Nat.le_succ _, rh2⟩
            refine ⟨_, _, _, ?_, q _ _ st2⟩
            rw [den_ref, List.length_append, hl, put_at]
            exact ⟨Nat.lt_succ_self _, hv.2⟩
          · exact plain q
        · exact plain q
      · exact plain q
  · exact plain q
theorem gcX_ok {W : WX} {σ : St} {Q : D → (Nat → Addr) → HP → Hp → Prop} (r : RH Z H ρ h) {x : Xn} {cls : Value} {dd : Option Addr} (s : Step Z h.length ρ H ρ' h' H') (hv : XDen Z H' ρ' h'.length x cls dd) (q : Post Z W σ h.length ρ H (gcX h x h') Q) : W cls dd σ H' := by
  have hl : (h'.take h.length).length = h.length := by rw [List.length_take]; exact Nat.min_eq_left s.le
  unfold gcX at q
  split at q
  · rename_i g
    refine q ρ' H' cls dd (gc_step r s g.1) ⟨hv.1, ?_⟩
    have h2 := hv.2
    cases e : Z.xf x.c with
    | none =>
      rw [e] at h2
      exact h2
    | some f =>
      rw [e] at h2
      obtain ⟨d, da, v, h3, h4, h5, h6⟩ := h2
      refine ⟨d, da, v, h3, h4, h5, ?_⟩
      rw [hl]
      have g2 := g.2
      rw [h3, D.clL, Bool.and_eq_true] at g2
      exact h6.cut (Agr.refl _ _) g2.1
  · exact q ρ' H' cls dd s hv
end
/-- a def of the text -/
structure TF where
  x : Str
  ps : List Str
  N : List Str
  params : Arguments
  body : List Stmt
  scope : Scope
/-- a def and its translation -/
structure FnGood (Z : Zx) (mg : Str → Option Value) (pg : Pg) (G : List (Str × GI)) (i : Nat) (t : TF) (f : Addr) (fd : FuncData) : Prop where
  F : FunD Z.K t.x t.x t.params t.body t.scope [] [] f fd
  S : FnScope t.N t.ps t.scope
  pl : PlainPs t.params t.ps
  tr : ∃ n sl, cSs n ⟨t.N, t.scope, G, false, none, none⟩ t.body = some sl ∧ pg.fns[i]? = some ⟨t.ps.length, t.N.length, sl⟩
/-- what the names of the module are -/
def GlOk (Z : Zx) (mg : Str → Option Value) (pg : Pg) (G : List (Str × GI)) (T : List TF) (x : Str) : GI → Prop
  | .fn i ps => ∃ t f fd, T[i]? = some t ∧ t.ps = ps ∧ FnGood Z mg pg G i t f fd ∧ mg x = some (.ref f)
  | .con d => ∃ v u, mg x = some u ∧ RelV v u ∧ ∀ H ρ n, Den Z H ρ n d v
  | .exc c keep => c < Z.nc ∧ mg x = some (.ref (Z.xc c)) ∧ (keep = false → Z.xf c = none)
  | .dic kvs => ∃ a, mg x = some (.ref a) ∧ ∀ s d, kvs.lookup s = some d → ∃ v, KDct Z.K Z.w a (strOf s) v ∧ ∀ H ρ n, Den Z H ρ n d v
  | .blt => mg x = none
theorem FnGood.plain {Z : Zx} {mg : Str → Option Value} {pg : Pg} {G : List (Str × GI)} {i : Nat} {t : TF} {f : Addr} {fd : FuncData} (h : FnGood Z mg pg G i t f fd) : PlainPs fd.params t.ps ∧ fd.defaults = .none ∧ t.ps.Nodup := by
  obtain ⟨oc, od, dV, kV, doc, pm, an, cdv, ct, osl, e, lk, hcd, hD, hK⟩ := h.F.ex
  have nd : t.ps.Nodup := by
    rw [← h.S.pre]
    exact h.S.nd.sublist (List.take_sublist _ _)
  subst e
  rcases hD with ⟨_, e⟩ | ⟨e, _⟩
  · subst e
    exact ⟨h.pl, rfl, nd⟩
  · exact absurd rfl e
theorem run_len {pg : Pg} {wf k i : Nat} {fn : Fn} (h : pg.fns[i]? = some fn) {ds : List D} {hp : HP} (hl : ds.length ≠ fn.np) : run pg wf k i ds hp = .bad := by
  cases k with
  | zero => rfl
  | succ k =>
    rw [run, h]
    dsimp only
    rw [if_neg hl]
theorem fn_all {Z : Zx} (hz : ZOk Z) {mg : Str → Option Value} {base : Heap} {pg : Pg} {wf : Nat} {T : List TF} {G : List (Str × GI)} (hsub : pg.sub = Z.sub) (hG : ∀ x g, G.lookup x = some g → GlOk Z mg pg G T x g) :
    ∀ k i t f fd, T[i]? = some t → FnGood Z mg pg G i t f fd → FnOk Z.P Z.w Z.K mg base (L2.CX Z.P Z.w) k f fd t.ps (spOf Z t.ps.length (run pg wf k i))
  | 0, i, t, f, fd, _, _ => ⟨fun _ _ _ _ h => h.1, fun _ _ _ _ _ _ _ _ _ _ _ _ _ h => by
    obtain ⟨_, _, _, _, _, _, q⟩ := h
    exact q.elim⟩
  | k + 1, i, t, f, fd, ht, hf => by
    have ih := fn_all hz (base := base) (wf := wf) hsub hG k
    obtain ⟨n, sl, tr, ep⟩ := hf.tr
    refine hf.F.ok hf.S (fun vs H Q E h => h.1) fun cdv A outer s H vs Q E hr h => ⟨tSI Z (fun cls d _ H => E cls d H) none (exL (run pg wf k) Z.sub wf sl), ?_, ?_⟩
    · refine cSs_ok n tr ⟨⟨hz, rfl, rfl, hf.S.nd, rfl, fun _ => rfl, ?_, fun x g e _ => ?_, fun _ _ => rfl, (fun _ _ _ _ e => nomatch e), (fun _ _ _ _ _ e => nomatch e), fun _ => rfl, (fun _ _ _ _ e => nomatch e)⟩, rfl, rfl, passes_of rfl⟩ (takes_of rfl rfl rfl rfl)
      · have := hr.un
        show (A.deeper (envOfC t.x t.scope s.heap.objs.size f cdv)).units + 65 < cLine
        omega
      · have hg := hG x g e
        cases g with
        | con d => exact hg
        | exc c keep => exact hg
        | dic _ => exact hg
        | blt => exact hg
        | fn j ps =>
          obtain ⟨t', f', fd', h1, h2, hf', h3⟩ := hg
          obtain ⟨n', sl', tr', ep'⟩ := hf'.tr
          subst h2
          exact ⟨fun ds hp hl => run_len ep' hl, f', fd', k, h3, hf'.F.kp, hf'.plain, hr, ih j t' f' fd' h1 hf'⟩
    · obtain ⟨hl, ρ, hp, ds, rh, dl, q⟩ := h
      rw [run, ep] at q
      dsimp only at q
      rw [if_pos (by rw [dl.length]; exact hl), hsub] at q
      have hd := dl.length
      refine ⟨ρ, ⟨ds.map some ++ List.replicate (t.N.length - t.ps.length) none, none⟩, hp, ⟨⟨?_, fun j d e => ?_⟩, rh, trivial⟩, ?_⟩
      · unfold L2.start
        simp only [List.length_append, List.length_map, List.length_replicate, hd, hl]
      · simp only at e
        unfold L2.start
        by_cases hj : j < ds.length
        · rw [List.getElem?_append_left (by simpa using hj), List.getElem?_map] at e
          obtain ⟨d', e1, e2⟩ := Option.map_eq_some_iff.mp e
          cases e2
          obtain ⟨v, e3, e4⟩ := dl.get e1
          exact ⟨v, by rw [List.getElem?_append_left (by rw [List.length_map, ← hd]; exact hj), List.getElem?_map, e3]; rfl, e4⟩
        · rw [List.getElem?_append_right (by simpa using hj)] at e
          have := List.mem_of_getElem? e
          have := List.eq_of_mem_replicate this
          cases this
      · cases e : exL (run pg wf k) Z.sub wf sl ⟨ds.map some ++ List.replicate (t.N.length - t.ps.length) none, none⟩ hp with
        | nx lo' hp' =>
          rw [e] at q
          intro ρ' H' σ' st s'
          obtain ⟨d2, ρ2, h2, hv, qq⟩ := gc_ok rh st (v := V.non) (den_non.mpr rfl) q
          exact qq _ hv
        | rt d hp' =>
          rw [e] at q
          intro ρ' H' v st hv
          obtain ⟨d2, ρ2, h2, hv2, qq⟩ := gc_ok rh st hv q
          exact qq _ hv2
        | ex x lo' hp' =>
          rw [e] at q
          intro ρ' H' σ' cls dd st s' xd
          exact gcX_ok (σ := []) rh st xd q
        | bk _ _ =>
          rw [e] at q
          exact q.elim
        | ct _ _ =>
          rw [e] at q
          exact q.elim
        | bad =>
          rw [e] at q
          exact q.elim
end MP

end
section
set_option Elab.async false
set_option linter.all false
set_option maxRecDepth 100000
set_option maxHeartbeats 2000000
/-! MP: the head: what the module's names are, told by the written part. -/
namespace MP
open PySem L2
open PyProof.Rows hiding St
/-! constants -/
mutual
def conB (K : PySem.W.Frag) : D → Value → Bool
  | .non, .none => true
  | .bl a, .bool b => a == b
  | .int i, .int j _ => decide (i = j)
  | .str s, .str y _ => decide (strOf s = y) && okSb s
  | .tup ds, .ref a => match K.lookup a with
    | some ⟨.type c, _, .seq its _, _⟩ => decide (c = "tuple") && (decide (its.size ≤ sizeLine) && conL K ds its.toList)
    | _ => false
  | _, _ => false
def conL (K : PySem.W.Frag) : List D → List Value → Bool
  | [], [] => true
  | d :: ds, u :: us => conB K d u && conL K ds us
  | _, _ => false
end
mutual
theorem conB_ok {Z : Zx} : ∀ {d : D} {u : Value}, conB Z.K d u = true → ∃ v, RelV v u ∧ ∀ H ρ n, Den Z H ρ n d v
  | .non, u, h => by
    cases u <;> first | exact ⟨.non, rfl, fun _ _ _ => den_non.mpr rfl⟩ | (simp [conB] at h; done)
  | .bl a, u, h => by
    cases u with
    | bool b =>
      have e : a = b := by simpa [conB] using h
      exact ⟨.bl a, by rw [e]; rfl, fun _ _ _ => den_bl.mpr rfl⟩
    | _ => simp [conB] at h
  | .int i, u, h => by
    cases u with
    | int j t =>
      have e : i = j := by simpa [conB] using h
      exact ⟨.int i, ⟨t, by rw [e]⟩, fun _ _ _ => den_int.mpr rfl⟩
    | _ => simp [conB] at h
  | .str s, u, h => by
    cases u with
    | str y t =>
      rw [conB, Bool.and_eq_true] at h
      have e : strOf s = y := of_decide_eq_true h.1
      exact ⟨.str (strOf s), ⟨t, by rw [e]⟩, fun _ _ _ => den_str.mpr ⟨rfl, okSb_ok h.2⟩⟩
    | _ => simp [conB] at h
  | .tup ds, u, h => by
    cases u with
    | ref a =>
      rw [conB] at h
      split at h
      · rename_i c od its n' sl q
        rw [Bool.and_eq_true, Bool.and_eq_true] at h
        obtain ⟨h1, h2, h3⟩ := h
        obtain ⟨vs, r, l⟩ := conL_ok h3
        refine ⟨.ref a, rfl, fun H ρ n => den_tup.mpr ⟨a, vs, rfl, .inr ⟨_, its, n', q, congrArg Value.type (of_decide_eq_true h1), rfl, of_decide_eq_true h2, r⟩, l _ _ _⟩⟩
      · cases h
    | _ => simp [conB] at h
  | .ref _, u, h => by cases u <;> simp [conB] at h
  | .kd _, u, h => by cases u <;> simp [conB] at h
theorem conL_ok {Z : Zx} : ∀ {ds : List D} {us : List Value}, conL Z.K ds us = true → ∃ vs, Vals vs us ∧ ∀ H ρ n, DenL Z H ρ n ds vs
  | [], [], _ => ⟨[], .nil, fun _ _ _ => .nil⟩
  | [], _ :: _, h => by simp [conL] at h
  | _ :: _, [], h => by simp [conL] at h
  | d :: ds, u :: us, h => by
    rw [conL, Bool.and_eq_true] at h
    obtain ⟨v, r, l⟩ := conB_ok h.1
    obtain ⟨vs, r2, l2⟩ := conL_ok h.2
    exact ⟨v :: vs, .cons r r2, fun H ρ n => .cons (l H ρ n) (l2 H ρ n)⟩
end
/-! the law's data -/
structure Lw where
  T : List TF
  G : List (Str × GI)
  xn : List Str
  xf : Nat → Option Str
  sub : Nat → Nat → Bool
def Lw.z (L : Lw) (P : Program) (w : World) (K : PySem.W.Frag) : Zx := ⟨P, w, K, fun _ => 0, fun i => He.ga K (L.xn.getD i Str.empty), L.xf, L.sub, L.xn.length⟩
def TF.dd (t : TF) : He.DefD := ⟨(t.x, none), t.x, t.x, t.params, t.body, t.scope, [], []⟩
/-- the written dicts -/
def Lw.ts (L : Lw) : List He.Tab := L.G.filterMap fun p => match p.2 with
  | .dic kvs => some (fun K => He.ga K p.1, kvs.map fun q => strOf q.1)
  | _ => none
def excB (K : PySem.W.Frag) (C : Addr) : Bool := PySem.W.excIn K C He.veBase "ValueError.__new__" && (PySem.W.keepIn K (.ref C) && (decide (PySem.W.subIn K (.ref C) (.type "BaseException") = some true) && (decide (PySem.W.typeIn K (.ref C) = some (.type "type")) &&
  (decide (PySem.W.findIn K (.ref C) "__getattribute__" = some (some (.builtin "BaseException.__getattribute__"))) && (decide (PySem.W.findIn K (.ref C) "__getattr__" = some none) && (PySem.W.hasDictIn K C &&
  (decide (PySem.W.findIn K (.ref C) "__class__" = some (some (.builtin "object.__class__"))) && (decide (PySem.W.specialIn K (.builtin "object.__class__") "__get__" = some (some (.builtin "getset_descriptor.__get__"))) && (decide (PySem.W.takesIn K (.builtin "object.__class__") = some true) && decide (PySem.W.mroIn K C (.type "object") = some true)))))))))) 
def glRef (K : PySem.W.Frag) (x : Str) : Bool := He.eqO (PySem.W.nsIn K mainGlobals x) (some (some (.ref (He.ga K x))))
def gB (L : Lw) (K : PySem.W.Frag) (x : Str) : GI → Bool
  | .fn i ps => match L.T[i]? with
    | some t => decide (t.ps = ps) && He.eqO (PySem.W.nsIn K mainGlobals x) (some (some (.ref (He.ga K t.x))))
    | none => false
  | .con d => match PySem.W.nsIn K mainGlobals x with
    | some (some u) => conB K d u
    | _ => false
  | .exc c keep => decide (c < L.xn.length) && (decide (L.xn.getD c Str.empty = x) && (glRef K x && (keep || (L.xf c).isNone)))
  | .dic kvs => glRef K x && kvs.all fun q => match PySem.W.nsIn K (He.ga K x) (strOf q.1) with
    | some (some u) => conB K q.2 u
    | _ => false
  | .blt => He.eqO (PySem.W.nsIn K mainGlobals x) (some none)
def xB (L : Lw) (K : PySem.W.Frag) : Bool := (List.range L.xn.length).all fun i => ((L.xf i).isSome || excB K (He.ga K (L.xn.getD i Str.empty))) && (List.range L.xn.length).all fun j =>
  decide (PySem.W.exmOne K (.ref (He.ga K (L.xn.getD i Str.empty))) (.ref (He.ga K (L.xn.getD j Str.empty))) = some (L.sub i j)) && decide (PySem.W.kitOne K (.ref (He.ga K (L.xn.getD i Str.empty))) (.ref (He.ga K (L.xn.getD j Str.empty))) = some (L.sub i j))
def Lw.ex (L : Lw) (K : PySem.W.Frag) : Bool := L.G.all (fun p => gB L K p.1 p.2) && xB L K
/-! the Hook: no lists are among what it tells -/
def isL (o : Obj) : Bool := match o.cls with
  | .type c => decide (c = "list")
  | _ => false
def noL (K : PySem.W.Frag) : PySem.W.Frag := K.filter fun p => !isL p.2
def NoL (K : PySem.W.Frag) : Prop := ∀ a o, K.lookup a = some o → isL o = false
theorem look_mem {a : Addr} {o : Obj} : ∀ {K : PySem.W.Frag}, K.lookup a = some o → (a, o) ∈ K
  | [], h => by cases h
  | (b, u) :: K, h => by
    rw [List.lookup_cons] at h
    cases e : a == b with
    | true =>
      rw [e] at h
      cases h
      rw [beq_iff_eq.mp e]
      exact List.mem_cons_self
    | false =>
      rw [e] at h
      exact List.mem_cons_of_mem _ (look_mem h)
theorem frG_mem {g : Addr → Option Obj} {as : List Addr} {a : Addr} {o : Obj} (h : (a, o) ∈ He.frG g as) : g a = some o := by
  unfold He.frG at h
  obtain ⟨b, _, e⟩ := List.mem_filterMap.mp h
  obtain ⟨u, e1, e2⟩ := Option.map_eq_some_iff.mp e
  cases e2
  exact e1
theorem noL_in {h : Heap} {as : List Addr} : (noL (He.frG h.get? as)).In h := fun _ _ e => frG_mem (List.mem_filter.mp (look_mem e)).1
theorem noL_no {K : PySem.W.Frag} : NoL (noL K) := fun _ _ e => by simpa using (List.mem_filter.mp (look_mem e)).2
def obsM (L : Lw) (n : Nat) (g : Addr → Option Obj) : He.AlT × Bool := (He.obsT [] (L.T.map TF.dd) L.ts (noL (He.frG g (He.asD g n))), L.ex (noL (He.frG g (He.asD g n))))
def hookM (L : Lw) (n : Nat) : PySem.W.Hook where
  α := He.AlT × Bool
  obs := fun s => obsM L n s.heap.get?
  val := fun w => (He.valT (L.T.map TF.dd) L.ts w, true)
  says := fun w h => ∃ K : PySem.W.Frag, K.In h ∧ NoL K ∧ He.SaysT [] (L.T.map TF.dd) L.ts w K ∧ L.ex K = true
  of := fun _ _ e => ⟨_, noL_in, noL_no, congrArg (fun z : He.AlT × Bool => z.1) e, congrArg (fun z : He.AlT × Bool => z.2) e⟩
  keeps := fun _ _ _ ⟨K, hK, n, c, e⟩ k => ⟨K, PySem.W.Frag.In.keeps hK k, n, c, e⟩
theorem obsM_eq {L : Lw} {n : Nat} {g : Addr → Option Obj} {s : Shared} (h : ∀ a, g a = s.heap.get? a) : obsM L n g = (hookM L n).obs s := by
  have e : g = s.heap.get? := funext h
  rw [e] <;> rfl
/-! the text's checks -/
def plB (p : Arguments) (ps : List Str) : Bool := p.posonlyargs.isEmpty && (decide (p.args.map (·.arg) = ps) && (p.vararg.isNone && (p.kwonlyargs.isEmpty && p.kwarg.isNone)))
theorem plB_ok {p : Arguments} {ps : List Str} (h : plB p ps = true) : PlainPs p ps := by
  unfold plB at h
  simp only [Bool.and_eq_true, decide_eq_true_eq, List.isEmpty_iff, Option.isNone_iff_eq_none] at h
  exact ⟨h.1, h.2.1, h.2.2.1, h.2.2.2.1, h.2.2.2.2⟩
def scB (N P : List Str) (sc : Scope) : Bool :=
  decide (sc.kind = .function) && !sc.isCoroutine && !sc.isGenerator && decide N.Nodup && decide (N.take P.length = P) && P.all (fun x => decide (sc.names.lookup x = some .local) || decide (sc.names.lookup x = some .cell)) && sc.names.all (fun y => !decide (y.2 = .free))
theorem scB_ok {N P : List Str} {sc : Scope} (h : scB N P sc = true) : FnScope N P sc := by
  unfold scB at h
  simp only [Bool.and_eq_true, Bool.not_eq_true', decide_eq_true_eq, List.all_eq_true, Bool.or_eq_true, decide_eq_false_iff_not] at h
  obtain ⟨⟨⟨⟨⟨⟨h1, h2⟩, h3⟩, h4⟩, h5⟩, h6⟩, h7⟩ := h
  exact ⟨h1, h2, h3, h4, h5, h6, h7⟩
def Lw.okT (L : Lw) : Bool := L.T.all fun t => scB t.N t.ps t.scope && plB t.params t.ps
/-- the translation -/
def Lw.tr (L : Lw) (n : Nat) (t : TF) : Option Fn := (cSs n ⟨t.N, t.scope, L.G, false, none, none⟩ t.body).map fun sl => ⟨t.ps.length, t.N.length, sl⟩
section
variable {L : Lw} {P : Program} {w : World} {K : PySem.W.Frag} {h : Heap} {mg : Str → Option Value} {pg : Pg} {n : Nat}
theorem fn_good (hc : He.SaysT [] (L.T.map TF.dd) L.ts w K) (ht : L.okT = true) (htr : L.T.map (L.tr n) = pg.fns.map some) {i : Nat} {t : TF} (e : L.T[i]? = some t) : ∃ fd, FnGood (L.z P w K) mg pg L.G i t (He.ga K t.x) fd := by
  have hm := List.mem_of_getElem? e
  obtain ⟨fd, F⟩ := He.SaysD.defs hc.d (d := t.dd) (List.mem_map.mpr ⟨t, hm, rfl⟩)
  have hb := List.all_eq_true.mp ht t hm
  rw [Bool.and_eq_true] at hb
  refine ⟨fd, F, scB_ok hb.1, plB_ok hb.2, ?_⟩
  have e2 : (L.T.map (L.tr n))[i]? = (pg.fns.map some)[i]? := by rw [htr]
  rw [List.getElem?_map, List.getElem?_map, e] at e2
  cases e3 : pg.fns[i]? with
  | none =>
    rw [e3] at e2
    cases e2
  | some fn =>
    rw [e3] at e2
    have e4 : L.tr n t = some fn := by simpa using e2
    unfold Lw.tr at e4
    obtain ⟨sl, e5, e6⟩ := Option.map_eq_some_iff.mp e4
    exact ⟨n, sl, e5, by rw [← e6]⟩
theorem look_all {α : Type} {p : Str × α → Bool} {x : Str} {g : α} {l : List (Str × α)} (h : l.all p = true) (e : l.lookup x = some g) : p (x, g) = true := by
  induction l with
  | nil => cases e
  | cons y l ih =>
    obtain ⟨a, b⟩ := y
    rw [List.all_cons, Bool.and_eq_true] at h
    rw [List.lookup_cons] at e
    cases q : x == a with
    | true =>
      rw [q] at e
      cases e
      rw [beq_iff_eq.mp q]
      exact h.1
    | false =>
      rw [q] at e
      exact ih h.2 e
theorem lookN_all {α : Type} {p : List Nat × α → Bool} {x : List Nat} {g : α} {l : List (List Nat × α)} (h : l.all p = true) (e : l.lookup x = some g) : p (x, g) = true := by
  induction l with
  | nil => cases e
  | cons y l ih =>
    obtain ⟨a, b⟩ := y
    rw [List.all_cons, Bool.and_eq_true] at h
    rw [List.lookup_cons] at e
    cases q : x == a with
    | true =>
      rw [q] at e
      cases e
      rw [beq_iff_eq.mp q]
      exact h.1
    | false =>
      rw [q] at e
      exact ih h.2 e
theorem glob_ok (X : K.In h) (G : h.Ns mainGlobals mg) (hc : He.SaysT [] (L.T.map TF.dd) L.ts w K) (hx : L.ex K = true) (ht : L.okT = true) (htr : L.T.map (L.tr n) = pg.fns.map some) :
    ∀ x g, L.G.lookup x = some g → GlOk (L.z P w K) mg pg L.G L.T x g := by
  intro x g e
  unfold Lw.ex at hx
  rw [Bool.and_eq_true] at hx
  have q := look_all hx.1 e
  cases g with
  | fn i ps =>
    dsimp only [gB] at q
    split at q
    · rename_i t et
      rw [Bool.and_eq_true] at q
      obtain ⟨fd, F⟩ := fn_good (P := P) (mg := mg) hc ht htr et
      exact ⟨t, _, fd, et, of_decide_eq_true q.1, F, PySem.W.mg_of X G (He.eqO_ok q.2)⟩
    · cases q
  | con d =>
    dsimp only [gB] at q
    split at q
    · rename_i u eu
      obtain ⟨v, r, l⟩ := conB_ok (Z := L.z P w K) q
      exact ⟨v, u, PySem.W.mg_of X G eu, r, l⟩
    · cases q
  | exc c keep =>
    simp only [gB, Bool.and_eq_true, decide_eq_true_eq] at q
    obtain ⟨q1, q2, q3, q4⟩ := q
    refine ⟨q1, ?_, fun ek => ?_⟩
    · have := PySem.W.mg_of X G (He.eqO_ok q3)
      show mg x = some (.ref (He.ga K (L.xn.getD c Str.empty)))
      rw [q2]
      exact this
    · rw [ek, Bool.false_or, Option.isNone_iff_eq_none] at q4
      exact q4
  | dic kvs =>
    rw [gB, Bool.and_eq_true] at q
    refine ⟨He.ga K x, PySem.W.mg_of X G (He.eqO_ok q.1), fun s d es => ?_⟩
    have q2 := lookN_all q.2 es
    dsimp only at q2
    split at q2
    · rename_i u eu
      obtain ⟨v, r, l⟩ := conB_ok (Z := L.z P w K) q2
      have hmem : ∃ j : Nat, L.ts[j]? = some ((fun K => He.ga K x), kvs.map fun q => strOf q.1) := by
        refine List.mem_iff_getElem?.mp (List.mem_filterMap.mpr ⟨(x, .dic kvs), ?_, rfl⟩)
        have : ∀ {l : List (Str × GI)}, l.lookup x = some (.dic kvs) → (x, GI.dic kvs) ∈ l := by
          intro l
          induction l with
          | nil => intro e; cases e
          | cons y l ih =>
            intro e
            obtain ⟨a, b⟩ := y
            rw [List.lookup_cons] at e
            cases z : x == a with
            | true =>
              rw [z] at e
              cases e
              rw [beq_iff_eq.mp z]
              exact List.mem_cons_self
            | false =>
              rw [z] at e
              exact List.mem_cons_of_mem _ (ih e)
        exact this e
      obtain ⟨j, ej⟩ := hmem
      obtain ⟨es, m, kd⟩ := hc.tab j ej
      exact ⟨v, ⟨es, m, u, kd.at_, kd.lit, eu, r⟩, l⟩
    · cases q2
  | blt => exact PySem.W.mg_none_of X G (He.eqO_ok q)
theorem z_ok (hx : L.ex K = true) : ZOk (L.z P w K) := by
  unfold Lw.ex at hx
  rw [Bool.and_eq_true] at hx
  have h := hx.2
  unfold xB at h
  rw [List.all_eq_true] at h
  have key : ∀ i j, i < L.xn.length → j < L.xn.length → PySem.W.exmOne K (.ref (He.ga K (L.xn.getD i Str.empty))) (.ref (He.ga K (L.xn.getD j Str.empty))) = some (L.sub i j) ∧ PySem.W.kitOne K (.ref (He.ga K (L.xn.getD i Str.empty))) (.ref (He.ga K (L.xn.getD j Str.empty))) = some (L.sub i j) := fun i j hi hj => by
    have h1 := h i (List.mem_range.mpr hi)
    rw [Bool.and_eq_true, List.all_eq_true] at h1
    have h2 := h1.2 j (List.mem_range.mpr hj)
    rw [Bool.and_eq_true] at h2
    exact ⟨of_decide_eq_true h2.1, of_decide_eq_true h2.2⟩
  refine ⟨fun i j hi hj => (key i j hi hj).1, fun i j hi hj => (key i j hi hj).2, fun i hi hf => ?_⟩
  have h1 := h i (List.mem_range.mpr hi)
  rw [Bool.and_eq_true] at h1
  have h2 := h1.1
  have hf : L.xf i = none := hf
  rw [hf] at h2
  simp only [Option.isSome_none, Bool.false_or] at h2
  unfold excB at h2
  simp only [Bool.and_eq_true, decide_eq_true_eq] at h2
  obtain ⟨a1, a2, a3, a4, a5, a6, a7, a8, a9, a10, a11⟩ := h2
  exact ⟨⟨a1, a2, a3, a4⟩, ⟨a5, a6, a3, a7, a8, a9, a10, a11⟩⟩
end
/-- for any world -/
def CXw (P : Program) : CXT := fun outer H s E u s' => ∃ w, L2.CX P w outer H s E u s'
theorem anyw {P : Program} {w : World} {K : PySem.W.Frag} {mg : Str → Option Value} {base : Heap} {k : Nat} {f : Addr} {fd : FuncData} {ps : List Str} {sp : Sp} (F : FnOk P w K mg base (L2.CX P w) k f fd ps sp) : FnOk P w K mg base (CXw P) k f fd ps sp :=
  ⟨F.len, fun A outer s H args us vs Q E hr e0 hb r hsp => codeAny_mono (F.run A outer s H args us vs Q E hr e0 hb r hsp) fun r s' h => by
    cases r with
    | ok fl => cases fl <;> exact h
    | error e => exact ⟨w, h⟩⟩
/-- THE LAW: from the evaluator's answer -/
theorem walk_mp {l : PySem.W.OpenLaw} {L : Lw} {pg : Pg} {n m k wf i hn : Nat} {q : Program} {loose : List Str} {XP : (Str → Option Value) → Heap → Prop} {d : DefRec} {x : Str} {t : TF}
    (h1 : l.most = some n) (h2 : n ≤ sizeLine) (hdf : d.params.defaults = []) (hr : Room k callerA) (ht : L.okT = true) (htr : L.T.map (L.tr m) = pg.fns.map some) (hsub : pg.sub = L.sub) (et : L.T[i]? = some t) (ep : t.ps = [x]) (en : d.name = t.x) (eg : L.G.lookup t.x = some (.fn i t.ps))
    (hlaw : ∀ ns : List Int, ns.length ≤ n → ∃ h', run pg wf k i [.ref 0] [.frz (ns.map .int)] = .ok (.bl true) h') :
    PySem.W.WalkO q loose XP (hookM L hn).says l.row.toRowW d [] (fun f vs => PySem.call f vs) := by
  refine L2.walk_ofE (CX := CXw l.prog) (n := n) (k := k) (x := x) h1 h2 hdf hr ?_ ?_
  · intro w mg fa h Y G hmg
    obtain ⟨K, KX, hno, hc, hx⟩ := Y
    have hG := glob_ok (P := l.prog) KX G hc hx ht htr
    have hz := z_ok (P := l.prog) (w := w) hx
    obtain ⟨t', f, fd, e1, e2, F, e3⟩ := hG _ _ eg
    rw [et] at e1
    cases e1
    rw [en] at hmg
    have ef : f = fa := by
      rw [e3] at hmg
      cases hmg
      rfl
    subst ef
    refine ⟨K, fd, spOf (L.z l.prog w K) t.ps.length (run pg wf k i), KX, fun s u => ?_, fun H a ns hl hO hS => ?_, fun base hK hN => ?_⟩
    · have := binds_pos F.plain.1 F.plain.2.1 F.plain.2.2 (us := [u]) (by rw [ep]; rfl)
      rw [ep] at this
      exact .of_eq this
    · obtain ⟨h', er⟩ := hlaw ns hl
      have hfr : ∃ o, H a = some (.frz o (.lst (ns.map V.int))) := by
        rcases hS with (hS | hS) | ⟨o, its, nn, lk, oc, _⟩
        · rcases hO a with q | ⟨o, xs, q⟩
          · rw [hS] at q
            cases q
          · rw [hS] at q
            cases q
        · exact hS
        · have := hno _ _ lk
          unfold isL at this
          rw [oc] at this
          cases this
      obtain ⟨o, hfr⟩ := hfr
      have dl : ∀ (Z : Zx) (H : Hp) (ρ : Nat → Addr) (n : Nat) (l : List Int), DenL Z H ρ n (l.map .int) (l.map V.int) := fun Z H ρ n l => by
        induction l with
        | nil => exact .nil
        | cons i l ih => exact .cons (den_int.mpr rfl) ih
      refine ⟨by rw [ep]; rfl, fun _ => a, [.frz (ns.map .int)], [.ref 0], ⟨fun i j hi hj _ => by simp at hi hj; omega, fun i o' e => ?_⟩, .cons (den_ref.mpr ⟨Nat.zero_lt_one, rfl⟩) .nil, ?_⟩
      · cases i with
        | zero =>
          simp at e
          subst e
          exact ⟨o, _, hfr, dl _ _ _ _ _⟩
        | succ i => simp at e
      · rw [er]
        intro ρ' H' st v hv
        exact den_bl.mp hv
    · rw [← ep]
      exact anyw (fn_all hz hsub hG k i t f fd et F)
  · rintro H s e s' ⟨w, _, _, _, _, _, _, _, _, _, _, _, _, z⟩
    exact z
end MP

end
section
set_option Elab.async false
set_option linter.all false
set_option maxRecDepth 100000
set_option maxHeartbeats 0
namespace K01
open MP
def subT : List (List Bool) := [[true, false], [true, true]]
def sub (i j : Nat) : Bool := (subT.getD i []).getD j false
def b_is_kind : SL := (.cons (.ret (.and (.isi (.loc 0) [.str]) (.cmp .in_ (.loc 0) (.con (.tup [(.str [97, 108, 108]), (.str [115, 117, 109]), (.str [112, 114, 111, 100, 117, 99, 116]), (.str [98, 111, 116, 104]), (.str [99, 111, 118, 101, 114]), (.str [97, 98, 115, 111, 114, 98]), (.str [108, 97, 116, 116, 105, 99, 101])])))))
    .nil)
def b_check_kind : SL := (.cons (.ite (.not (.call 0 (.cons (.loc 0) .nil))) (.cons (.rse 1 false .nil)
    .nil) .nil)
    .nil)
def b_is_coarser : SL := (.cons (.exp (.call 1 (.cons (.loc 0) .nil)))
    (.cons (.exp (.call 1 (.cons (.loc 1) .nil)))
    (.cons (.ret (.cmp .in_ (.loc 1) (.kix [([97, 108, 108], (.tup [(.str [115, 117, 109]), (.str [112, 114, 111, 100, 117, 99, 116]), (.str [98, 111, 116, 104]), (.str [99, 111, 118, 101, 114]), (.str [97, 98, 115, 111, 114, 98]), (.str [108, 97, 116, 116, 105, 99, 101])])), ([115, 117, 109], (.tup [(.str [98, 111, 116, 104]), (.str [99, 111, 118, 101, 114]), (.str [97, 98, 115, 111, 114, 98]), (.str [108, 97, 116, 116, 105, 99, 101])])), ([112, 114, 111, 100, 117, 99, 116], (.tup [(.str [98, 111, 116, 104]), (.str [99, 111, 118, 101, 114]), (.str [108, 97, 116, 116, 105, 99, 101])])), ([98, 111, 116, 104], (.tup [(.str [99, 111, 118, 101, 114]), (.str [108, 97, 116, 116, 105, 99, 101])])), ([99, 111, 118, 101, 114], (.tup [(.str [108, 97, 116, 116, 105, 99, 101])])), ([97, 98, 115, 111, 114, 98], (.tup [(.str [108, 97, 116, 116, 105, 99, 101])])), ([108, 97, 116, 116, 105, 99, 101], (.tup []))] (.loc 0))))
    .nil)))
def b_identities_of : SL := (.cons (.exp (.call 1 (.cons (.loc 0) .nil)))
    (.cons (.ret (.kix [([97, 108, 108], (.tup [])), ([115, 117, 109], (.tup [(.str [115, 117, 109])])), ([112, 114, 111, 100, 117, 99, 116], (.tup [(.str [114, 111, 119, 115])])), ([98, 111, 116, 104], (.tup [(.str [115, 117, 109]), (.str [114, 111, 119, 115])])), ([99, 111, 118, 101, 114], (.tup [(.str [115, 117, 109]), (.str [115, 113, 117, 97, 114, 101])])), ([97, 98, 115, 111, 114, 98], (.tup [(.str [115, 117, 109]), (.str [97, 98, 115, 111, 114, 98])])), ([108, 97, 116, 116, 105, 99, 101], (.tup [(.str [115, 117, 109]), (.str [97, 98, 115, 111, 114, 98]), (.str [114, 111, 119, 115])]))] (.loc 0)))
    .nil))
def b__law_pool : SL := (.cons (.asg (.nm 2) (.con (.int (1))))
    (.cons (.for_ (.tp [(.nm 3), (.nm 4)]) (.enum (.slc (.loc 0) false true (.con .non) (.con (.int (63))))) (.cons (.asg (.nm 2) (.bin .mod (.blt .int1 (.cons (.bin .add (.bin .add (.bin .mul (.loc 2) (.con (.int (31)))) (.bin .mul (.loc 4) (.bin .add (.bin .mul (.con (.int (2))) (.loc 3)) (.con (.int (3)))))) (.loc 3)) .nil)) (.con (.int (2147483587)))))
    .nil))
    (.cons (.asg (.nm 4) (.bin .add (.bin .mul (.loc 2) (.con (.int (7)))) (.loc 1)))
    (.cons (.ite (.cmp .lt (.loc 1) (.blt .len (.cons (.loc 0) .nil))) (.cons (.asg (.nm 4) (.blt .abs (.cons (.ix (.loc 0) (.loc 1)) .nil)))
    .nil) .nil)
    (.cons (.asg (.nm 5) (.bin .mod (.blt .int1 (.cons (.bin .add (.bin .add (.bin .add (.bin .mul (.loc 4) (.con (.int (48271)))) (.bin .mul (.loc 2) (.con (.int (69621))))) (.bin .mul (.loc 1) (.con (.int (7919))))) (.con (.int (5)))) .nil)) (.con (.int (2147483647)))))
    (.cons (.ite (.cmp .lt (.loc 4) (.bin .pow (.con (.int (10))) (.con (.int (18))))) (.cons (.asg (.nm 4) (.con (.int (0))))
    .nil) .nil)
    (.cons (.ret (.lst (.cons (.loc 4) (.cons (.loc 5) (.cons (.loc 1) .nil)))))
    .nil)))))))
def b__law_pull : SL := (.cons (.asx (.loc 0) (.con (.int (2))) (.bin .add (.ix (.loc 0) (.con (.int (2)))) (.con (.int (1)))))
    (.cons (.ite (.cmp .gt (.ix (.loc 0) (.con (.int (0)))) (.con (.int (0)))) (.cons (.asg (.nm 2) (.bin .mod (.blt .int1 (.cons (.ix (.loc 0) (.con (.int (0)))) .nil)) (.loc 1)))
    (.cons (.asx (.loc 0) (.con (.int (0))) (.bin .fdiv (.blt .int1 (.cons (.ix (.loc 0) (.con (.int (0)))) .nil)) (.loc 1)))
    (.cons (.ret (.loc 2))
    .nil))) .nil)
    (.cons (.asx (.loc 0) (.con (.int (1))) (.bin .mod (.blt .int1 (.cons (.bin .add (.bin .add (.bin .mul (.ix (.loc 0) (.con (.int (1)))) (.con (.int (16807)))) (.bin .mul (.bin .mul (.ix (.loc 0) (.con (.int (2)))) (.ix (.loc 0) (.con (.int (2))))) (.con (.int (40692))))) (.con (.int (977)))) .nil)) (.con (.int (2147483629)))))
    (.cons (.ret (.bin .mod (.bin .fdiv (.blt .int1 (.cons (.bin .mod (.bin .mul (.ix (.loc 0) (.con (.int (1)))) (.con (.int (1583458089)))) (.con (.int (2147483587)))) .nil)) (.con (.int (11)))) (.loc 1)))
    .nil))))
def b__law_words : SL := (.cons (.ret (.lst (.cons (.con (.str [97, 108, 108])) (.cons (.con (.str [115, 117, 109])) (.cons (.con (.str [112, 114, 111, 100, 117, 99, 116])) (.cons (.con (.str [98, 111, 116, 104])) (.cons (.con (.str [99, 111, 118, 101, 114])) (.cons (.con (.str [97, 98, 115, 111, 114, 98])) (.cons (.con (.str [108, 97, 116, 116, 105, 99, 101])) .nil)))))))))
    .nil)
def b__law_steps : SL := (.cons (.asg (.nm 0) (.lst (.cons (.tup (.cons (.con (.str [97, 108, 108])) (.cons (.con (.str [115, 117, 109])) .nil))) (.cons (.tup (.cons (.con (.str [97, 108, 108])) (.cons (.con (.str [112, 114, 111, 100, 117, 99, 116])) .nil))) (.cons (.tup (.cons (.con (.str [115, 117, 109])) (.cons (.con (.str [98, 111, 116, 104])) .nil))) (.cons (.tup (.cons (.con (.str [115, 117, 109])) (.cons (.con (.str [97, 98, 115, 111, 114, 98])) .nil))) (.cons (.tup (.cons (.con (.str [112, 114, 111, 100, 117, 99, 116])) (.cons (.con (.str [98, 111, 116, 104])) .nil))) .nil)))))))
    (.cons (.ret (.bin .add (.loc 0) (.lst (.cons (.tup (.cons (.con (.str [98, 111, 116, 104])) (.cons (.con (.str [99, 111, 118, 101, 114])) .nil))) (.cons (.tup (.cons (.con (.str [99, 111, 118, 101, 114])) (.cons (.con (.str [108, 97, 116, 116, 105, 99, 101])) .nil))) (.cons (.tup (.cons (.con (.str [97, 98, 115, 111, 114, 98])) (.cons (.con (.str [108, 97, 116, 116, 105, 99, 101])) .nil))) .nil))))))
    .nil))
def b__law_above : SL := (.cons (.asg (.nm 1) (.lst (.cons (.loc 0) .nil)))
    (.cons (.for_ (.nm 2) (.rng 1 (.cons (.con (.int (7))) .nil)) (.cons (.for_ (.tp [(.nm 3), (.nm 4)]) (.val (.call 7 .nil)) (.cons (.ite (.and (.cmp .in_ (.loc 3) (.loc 1)) (.cmp .notIn (.loc 4) (.loc 1))) (.cons (.exp (.mth .append (.loc 1) (.cons (.loc 4) .nil)))
    .nil) .nil)
    .nil))
    .nil))
    (.cons (.ret (.slc (.loc 1) true false (.con (.int (1))) (.con .non)))
    .nil)))
def b__law_identities : SL := (.cons (.asg (.nm 1) (.lst .nil))
    (.cons (.ite (.cmp .notIn (.loc 0) (.lst (.cons (.con (.str [97, 108, 108])) (.cons (.con (.str [112, 114, 111, 100, 117, 99, 116])) .nil)))) (.cons (.exp (.mth .append (.loc 1) (.cons (.con (.str [115, 117, 109])) .nil)))
    .nil) .nil)
    (.cons (.ite (.cmp .eq (.loc 0) (.con (.str [99, 111, 118, 101, 114]))) (.cons (.exp (.mth .append (.loc 1) (.cons (.con (.str [115, 113, 117, 97, 114, 101])) .nil)))
    .nil) .nil)
    (.cons (.ite (.cmp .in_ (.loc 0) (.lst (.cons (.con (.str [97, 98, 115, 111, 114, 98])) (.cons (.con (.str [108, 97, 116, 116, 105, 99, 101])) .nil)))) (.cons (.exp (.mth .append (.loc 1) (.cons (.con (.str [97, 98, 115, 111, 114, 98])) .nil)))
    .nil) .nil)
    (.cons (.ite (.cmp .in_ (.loc 0) (.lst (.cons (.con (.str [112, 114, 111, 100, 117, 99, 116])) (.cons (.con (.str [98, 111, 116, 104])) (.cons (.con (.str [108, 97, 116, 116, 105, 99, 101])) .nil))))) (.cons (.exp (.mth .append (.loc 1) (.cons (.con (.str [114, 111, 119, 115])) .nil)))
    .nil) .nil)
    (.cons (.ret (.loc 1))
    .nil))))))
def b__law_odd : SL := (.cons (.asg (.nm 1) (.ix (.call 6 .nil) (.call 5 (.cons (.loc 0) (.cons (.con (.int (7))) .nil)))))
    (.cons (.asg (.nm 2) (.call 5 (.cons (.loc 0) (.cons (.con (.int (10))) .nil))))
    (.cons (.ite (.cmp .eq (.loc 2) (.con (.int (0)))) (.cons (.ret (.bin .add (.loc 1) (.con (.str [32]))))
    .nil) .nil)
    (.cons (.ite (.cmp .eq (.loc 2) (.con (.int (1)))) (.cons (.ret (.slc (.loc 1) true false (.con (.int (1))) (.con .non)))
    .nil) .nil)
    (.cons (.ite (.cmp .eq (.loc 2) (.con (.int (2)))) (.cons (.ret (.mth .upper (.loc 1) .nil))
    .nil) .nil)
    (.cons (.ite (.cmp .eq (.loc 2) (.con (.int (3)))) (.cons (.ret (.bin .add (.loc 1) (.loc 1)))
    .nil) .nil)
    (.cons (.ite (.cmp .eq (.loc 2) (.con (.int (4)))) (.cons (.ret (.call 5 (.cons (.loc 0) (.cons (.con (.int (7))) .nil))))
    .nil) .nil)
    (.cons (.ite (.cmp .eq (.loc 2) (.con (.int (5)))) (.cons (.ret (.con .non))
    .nil) .nil)
    (.cons (.ite (.cmp .eq (.loc 2) (.con (.int (6)))) (.cons (.ret (.tup (.cons (.loc 1) .nil)))
    .nil) .nil)
    (.cons (.ite (.cmp .eq (.loc 2) (.con (.int (7)))) (.cons (.ret (.lst (.cons (.loc 1) (.cons (.loc 1) .nil))))
    .nil) .nil)
    (.cons (.ite (.cmp .eq (.loc 2) (.con (.int (8)))) (.cons (.ret .emp)
    .nil) .nil)
    (.cons (.ret (.cmp .eq (.call 5 (.cons (.loc 0) (.cons (.con (.int (2))) .nil))) (.con (.int (1)))))
    .nil))))))))))))
def b__law_asked : SL := (.cons (.asg (.nm 2) (.con .non))
    (.cons (.try_ (.cons (.asg (.nm 2) (.call 2 (.cons (.loc 0) (.cons (.loc 1) .nil))))
    .nil) (.cons 1 (some 3) (.cons (.asg (.nm 2) (.tup (.cons (.con (.str [114, 101, 102, 117, 115, 101, 100])) (.cons (.xis 0) .nil))))
    .nil) .nil))
    (.cons (.ret (.loc 2))
    .nil)))
def b__law_identities_told : SL := (.cons (.asg (.nm 1) (.con .non))
    (.cons (.try_ (.cons (.asg (.nm 1) (.call 3 (.cons (.loc 0) .nil)))
    .nil) (.cons 1 none (.cons (.asg (.nm 1) (.con (.str [114, 101, 102, 117, 115, 101, 100])))
    .nil) .nil))
    (.cons (.ret (.loc 1))
    .nil)))
def b_law : SL := (.cons (.ite (.or (.not (.isi (.con (.tup [(.str [97, 108, 108]), (.str [115, 117, 109]), (.str [112, 114, 111, 100, 117, 99, 116]), (.str [98, 111, 116, 104]), (.str [99, 111, 118, 101, 114]), (.str [97, 98, 115, 111, 114, 98]), (.str [108, 97, 116, 116, 105, 99, 101])])) [.tuple])) (.cmp .ne (.blt .list1 (.cons (.con (.tup [(.str [97, 108, 108]), (.str [115, 117, 109]), (.str [112, 114, 111, 100, 117, 99, 116]), (.str [98, 111, 116, 104]), (.str [99, 111, 118, 101, 114]), (.str [97, 98, 115, 111, 114, 98]), (.str [108, 97, 116, 116, 105, 99, 101])])) .nil)) (.call 6 .nil))) (.cons (.ret (.con (.bl false)))
    .nil) .nil)
    (.cons (.for_ (.nm 1) (.rng 1 (.cons (.blt .max2 (.cons (.con (.int (1))) (.cons (.blt .min2 (.cons (.blt .len (.cons (.loc 0) .nil)) (.cons (.con (.int (12))) .nil))) .nil))) .nil)) (.cons (.asg (.nm 2) (.call 4 (.cons (.loc 0) (.cons (.loc 1) .nil))))
    (.cons (.asg (.nm 3) (.lst .nil))
    (.cons (.asg (.nm 4) (.con (.bl true)))
    (.cons (.for_ (.nm 5) (.rng 1 (.cons (.con (.int (2))) .nil)) (.cons (.ite (.cmp .eq (.call 5 (.cons (.loc 2) (.cons (.con (.int (4))) .nil))) (.con (.int (3)))) (.cons (.exp (.mth .append (.loc 3) (.cons (.call 10 (.cons (.loc 2) .nil)) .nil)))
    (.cons (.asg (.nm 4) (.con (.bl false)))
    .nil)) (.cons (.exp (.mth .append (.loc 3) (.cons (.ix (.call 6 .nil) (.call 5 (.cons (.loc 2) (.cons (.con (.int (7))) .nil)))) .nil)))
    .nil))
    .nil))
    (.cons (.asg (.nm 6) (.call 11 (.cons (.ix (.loc 3) (.con (.int (0)))) (.cons (.ix (.loc 3) (.con (.int (1)))) .nil))))
    (.cons (.ite (.loc 4) (.cons (.ite (.or (.not (.isi (.loc 6) [.bool])) (.cmp .ne (.loc 6) (.cmp .in_ (.ix (.loc 3) (.con (.int (1)))) (.call 8 (.cons (.ix (.loc 3) (.con (.int (0)))) .nil))))) (.cons (.ret (.con (.bl false)))
    .nil) .nil)
    (.cons (.asg (.nm 6) (.call 3 (.cons (.ix (.loc 3) (.con (.int (0)))) .nil)))
    (.cons (.ite (.or (.not (.isi (.loc 6) [.tuple])) (.cmp .ne (.blt .list1 (.cons (.loc 6) .nil)) (.call 9 (.cons (.ix (.loc 3) (.con (.int (0)))) .nil)))) (.cons (.ret (.con (.bl false)))
    .nil) .nil)
    (.cons (.ite (.cmp .ne (.kcall 2 [0, 1] .nil (.cons (.ix (.loc 3) (.con (.int (1)))) (.cons (.ix (.loc 3) (.con (.int (0)))) .nil))) (.cmp .in_ (.ix (.loc 3) (.con (.int (0)))) (.call 8 (.cons (.ix (.loc 3) (.con (.int (1)))) .nil)))) (.cons (.ret (.con (.bl false)))
    .nil) .nil)
    .nil)))) (.cons (.ite (.or (.not (.isi (.loc 6) [.tuple])) (.cmp .ne (.loc 6) (.tup (.cons (.con (.str [114, 101, 102, 117, 115, 101, 100])) (.cons (.con (.bl true)) .nil))))) (.cons (.ret (.con (.bl false)))
    .nil) .nil)
    .nil))
    (.cons (.asg (.nm 7) (.call 10 (.cons (.loc 2) .nil)))
    (.cons (.ite (.or (.not (.isi (.call 12 (.cons (.loc 7) .nil)) [.str])) (.cmp .ne (.call 12 (.cons (.loc 7) .nil)) (.con (.str [114, 101, 102, 117, 115, 101, 100])))) (.cons (.ret (.con (.bl false)))
    .nil) .nil)
    .nil)))))))))
    (.cons (.ret (.con (.bl true)))
    .nil)))
def pg : Pg := ⟨[⟨1, 1, b_is_kind⟩, ⟨1, 1, b_check_kind⟩, ⟨2, 2, b_is_coarser⟩, ⟨1, 1, b_identities_of⟩, ⟨2, 6, b__law_pool⟩, ⟨2, 3, b__law_pull⟩, ⟨0, 0, b__law_words⟩, ⟨0, 1, b__law_steps⟩, ⟨1, 5, b__law_above⟩, ⟨1, 2, b__law_identities⟩, ⟨1, 3, b__law_odd⟩, ⟨2, 4, b__law_asked⟩, ⟨1, 2, b__law_identities_told⟩, ⟨1, 8, b_law⟩], sub⟩
end K01

end
section
set_option Elab.async false
set_option linter.all false
set_option maxRecDepth 100000
set_option maxHeartbeats 0
namespace K01
open MP
def kk : Nat := 30
def wf : Nat := 1000
theorem nr : pg.nr = true := by decide +kernel
/-! closed calls -/
def isOk (r : Res D) (d : D) (h : HP) : Bool := match r with
  | .ok x g => decide (x = d) && decide (g = h)
  | _ => false
theorem isOk_iff {r : Res D} {d : D} {h : HP} (e : isOk r d h = true) : r = .ok d h := by
  unfold isOk at e
  split at e
  · rw [Bool.and_eq_true, decide_eq_true_eq, decide_eq_true_eq] at e
    rw [e.1, e.2]
  · cases e
/-! rows -/
theorem r1 (k : Nat) (d : D) (h : HP) : MP.run pg wf (k+1) 1 [d] h = (exL (MP.run pg wf k) sub wf b_check_kind ⟨[some d], none⟩ h).fin h := rfl
theorem r2 (k : Nat) (d e : D) (h : HP) : MP.run pg wf (k+1) 2 [d, e] h = (exL (MP.run pg wf k) sub wf b_is_coarser ⟨[some d, some e], none⟩ h).fin h := rfl
theorem r3 (k : Nat) (d : D) (h : HP) : MP.run pg wf (k+1) 3 [d] h = (exL (MP.run pg wf k) sub wf b_identities_of ⟨[some d], none⟩ h).fin h := rfl
theorem r4 (k : Nat) (d e : D) (h : HP) : MP.run pg wf (k+1) 4 [d, e] h = (exL (MP.run pg wf k) sub wf b__law_pool ⟨[some d, some e, none, none, none, none], none⟩ h).fin h := rfl
theorem r5 (k : Nat) (d e : D) (h : HP) : MP.run pg wf (k+1) 5 [d, e] h = (exL (MP.run pg wf k) sub wf b__law_pull ⟨[some d, some e, none], none⟩ h).fin h := rfl
theorem r10 (k : Nat) (d : D) (h : HP) : MP.run pg wf (k+1) 10 [d] h = (exL (MP.run pg wf k) sub wf b__law_odd ⟨[some d, none, none], none⟩ h).fin h := rfl
theorem r11 (k : Nat) (d e : D) (h : HP) : MP.run pg wf (k+1) 11 [d, e] h = (exL (MP.run pg wf k) sub wf b__law_asked ⟨[some d, some e, none, none], none⟩ h).fin h := rfl
theorem r12 (k : Nat) (d : D) (h : HP) : MP.run pg wf (k+1) 12 [d] h = (exL (MP.run pg wf k) sub wf b__law_identities_told ⟨[some d, none], none⟩ h).fin h := rfl
theorem r13 (k : Nat) (d : D) (h : HP) : MP.run pg wf (k+1) 13 [d] h = (exL (MP.run pg wf k) sub wf b_law ⟨[some d, none, none, none, none, none, none, none], none⟩ h).fin h := rfl
/-! no kind -/
def Nk (h : HP) (d : D) : Prop := ∀ k, MP.run pg wf (k+1) 0 [d] h = .ok (.bl false) h
def Yk (h : HP) (d : D) : Prop := ∀ k, MP.run pg wf (k+1) 0 [d] h = .ok (.bl true) h
theorem ck_bad {h : HP} {d : D} (hk : Nk h d) (k : Nat) : MP.run pg wf (k+2) 1 [d] h = .ex ⟨1, []⟩ h := by
  rw [r1]
  simp only [e_con, e_loc, e_bin, e_neg, e_cmp, e_chain, e_and, e_or, e_not, e_ite, e_call, e_kcall, e_kix, e_blt, e_mth, e_tup, e_lst, e_emp, e_ix, e_slc, e_isi, e_xis, e_xf, e_lc, l_nil, l_cons, t_nil, t_cons, w_val, w_rng, w_enum, w_zip, x_asg, x_asx, x_exp, x_ret, x_ite, x_for, x_whl, x_rse, x_try, x_pass, x_brk, x_cont, x_nil, x_cons, fB_ap, fTs_ap, fE_ap, exH_none, exH_some, exH_nil, gL_some, kN_ok, kN_ex, kB2_ok, kB2_ex, kB1_ok, kB1_ex, kC3_some, kC2_ok, kC2_ex, kC1_ok, kC1_ex, kH3_t, kH3_f, kH2_ok, kH2_ex, kH1_ok, kH1_ex, kA2_t, kA2_f, kA_ok, kA_ex, kO2_t, kO2_f, kO_ok, kO_ex, kNt2_some, kNt_ok, kNt_ex, kI2_t, kI2_f, kI_ok, kI_ex, kCa_ok, kCa_ex, kK2_ok, kK2_ex, kK1_ok, kK1_ex, kX_ok, kX_ex, kBl_ok, kBl_ex, kM3_ok, kM3_ex, kM1_ok, kM1_ex, kT_ok, kT_ex, kLs_ok, kLs_ex, kIx2_ok, kIx2_ex, kIx1_ok, kIx1_ex, kS5_some, kS4_ok, kS4_ex, kS3_some, kS2_ok, kS2_ex, kS1_ok, kS1_ex, kIs_ok, kIs_ex, gXi_some, gXf_some, kE2_ok, kE2_ex, kE1_ok, kE1_ex, kTs2_t, kTs2_f, kTs_ok, kTs_ex, kW_ok, kW_ex, kWr_ok, kWr_ex, kWe_ok, kWe_ex, wz_some, kWz2_ok, kWz2_ex, kWz1_ok, kWz1_ex, kLc2_ok, kLc2_ex, kLc_ok, kLc_ex, kAs2_some, kAs_ok, kAs_ex, kAx3_ok, kAx3_ex, kAx2_ok, kAx2_ex, kAx1_ok, kAx1_ex, kEx_ok, kEx_ex, kRt_ok, kRt_ex, kIt2_t, kIt2_f, kIt_ok, kIt_ex, kFo_ok, kFo_ex, kRs_ok, kRs_ex, kF1_some, kWh1_t, kWh1_f, kWh1_ex, kSq_nx, kSq_ct, kSq_bk, kSq_rt, kSq_ex, kTr_nx, kTr_ct, kTr_bk, kTr_rt, kTr_ex, kF2_nx, kF2_ct, kF2_bk, kF2_rt, kF2_ex, kWh2_nx, kWh2_ct, kWh2_bk, kWh2_rt, kWh2_ex, fin_nx, fin_nx, fin_rt, fin_ex, su_nx, su_bk, su_ct, su_rt, Res.bind_ok, Res.bind_ex, Res.out_ok, Res.out_ex, lift_some, truthy, bindT, bindTs, List.getElem?_cons_zero, List.getElem?_cons_succ, List.length_cons, List.length_nil, List.set_cons_zero, List.set_cons_succ, Nat.zero_add, Nat.reduceAdd, Nat.reduceLT, Nat.reduceLeDiff, ↓reduceIte, Bool.false_eq_true, Bool.not_true, Bool.not_false, Option.map_some, Option.bind_some, gc_same, gcX_same, LIM, b_add, b_sub, b_mulr, b_mull, b_fdiv, b_mod, b_pow, b_adds, b_addt, c_eq, c_ne, c_lt, c_le, c_gt, c_ge, c_int, c_nint, f_int1, f_abs, f_min2, f_max2, f_lens, f_lent, eqD_int, eqD_str, eqD_bl, P64, and_self, and_true, true_and, or_true, true_or, Int.reduceLT, Int.reduceEq, Int.reduceLE, Int.reduceNeg, Int.reduceToNat, decide_eq_true_eq, decide_true, decide_false, if_true, if_false, ite_true, ite_false, b_check_kind, hk k]
theorem ck_ok {h : HP} {d : D} (hk : Yk h d) (k : Nat) : MP.run pg wf (k+2) 1 [d] h = .ok .non h := by
  rw [r1]
  simp only [e_con, e_loc, e_bin, e_neg, e_cmp, e_chain, e_and, e_or, e_not, e_ite, e_call, e_kcall, e_kix, e_blt, e_mth, e_tup, e_lst, e_emp, e_ix, e_slc, e_isi, e_xis, e_xf, e_lc, l_nil, l_cons, t_nil, t_cons, w_val, w_rng, w_enum, w_zip, x_asg, x_asx, x_exp, x_ret, x_ite, x_for, x_whl, x_rse, x_try, x_pass, x_brk, x_cont, x_nil, x_cons, fB_ap, fTs_ap, fE_ap, exH_none, exH_some, exH_nil, gL_some, kN_ok, kN_ex, kB2_ok, kB2_ex, kB1_ok, kB1_ex, kC3_some, kC2_ok, kC2_ex, kC1_ok, kC1_ex, kH3_t, kH3_f, kH2_ok, kH2_ex, kH1_ok, kH1_ex, kA2_t, kA2_f, kA_ok, kA_ex, kO2_t, kO2_f, kO_ok, kO_ex, kNt2_some, kNt_ok, kNt_ex, kI2_t, kI2_f, kI_ok, kI_ex, kCa_ok, kCa_ex, kK2_ok, kK2_ex, kK1_ok, kK1_ex, kX_ok, kX_ex, kBl_ok, kBl_ex, kM3_ok, kM3_ex, kM1_ok, kM1_ex, kT_ok, kT_ex, kLs_ok, kLs_ex, kIx2_ok, kIx2_ex, kIx1_ok, kIx1_ex, kS5_some, kS4_ok, kS4_ex, kS3_some, kS2_ok, kS2_ex, kS1_ok, kS1_ex, kIs_ok, kIs_ex, gXi_some, gXf_some, kE2_ok, kE2_ex, kE1_ok, kE1_ex, kTs2_t, kTs2_f, kTs_ok, kTs_ex, kW_ok, kW_ex, kWr_ok, kWr_ex, kWe_ok, kWe_ex, wz_some, kWz2_ok, kWz2_ex, kWz1_ok, kWz1_ex, kLc2_ok, kLc2_ex, kLc_ok, kLc_ex, kAs2_some, kAs_ok, kAs_ex, kAx3_ok, kAx3_ex, kAx2_ok, kAx2_ex, kAx1_ok, kAx1_ex, kEx_ok, kEx_ex, kRt_ok, kRt_ex, kIt2_t, kIt2_f, kIt_ok, kIt_ex, kFo_ok, kFo_ex, kRs_ok, kRs_ex, kF1_some, kWh1_t, kWh1_f, kWh1_ex, kSq_nx, kSq_ct, kSq_bk, kSq_rt, kSq_ex, kTr_nx, kTr_ct, kTr_bk, kTr_rt, kTr_ex, kF2_nx, kF2_ct, kF2_bk, kF2_rt, kF2_ex, kWh2_nx, kWh2_ct, kWh2_bk, kWh2_rt, kWh2_ex, fin_nx, fin_nx, fin_rt, fin_ex, su_nx, su_bk, su_ct, su_rt, Res.bind_ok, Res.bind_ex, Res.out_ok, Res.out_ex, lift_some, truthy, bindT, bindTs, List.getElem?_cons_zero, List.getElem?_cons_succ, List.length_cons, List.length_nil, List.set_cons_zero, List.set_cons_succ, Nat.zero_add, Nat.reduceAdd, Nat.reduceLT, Nat.reduceLeDiff, ↓reduceIte, Bool.false_eq_true, Bool.not_true, Bool.not_false, Option.map_some, Option.bind_some, gc_same, gcX_same, LIM, b_add, b_sub, b_mulr, b_mull, b_fdiv, b_mod, b_pow, b_adds, b_addt, c_eq, c_ne, c_lt, c_le, c_gt, c_ge, c_int, c_nint, f_int1, f_abs, f_min2, f_max2, f_lens, f_lent, eqD_int, eqD_str, eqD_bl, P64, and_self, and_true, true_and, or_true, true_or, Int.reduceLT, Int.reduceEq, Int.reduceLE, Int.reduceNeg, Int.reduceToNat, decide_eq_true_eq, decide_true, decide_false, if_true, if_false, ite_true, ite_false, b_check_kind, hk k]
theorem asked1 {h : HP} {d e : D} (hk : Nk h d) (k : Nat) : MP.run pg wf (k+4) 11 [d, e] h = .ok (.tup [.str [114, 101, 102, 117, 115, 101, 100], .bl true]) h := by
  have s11 : sub 1 1 = true := rfl
  have s10 : sub 1 0 = true := rfl
  have c2 : MP.run pg wf (k+3) 2 [d, e] h = .ex ⟨1, []⟩ h := by
    rw [r2]
    simp only [e_con, e_loc, e_bin, e_neg, e_cmp, e_chain, e_and, e_or, e_not, e_ite, e_call, e_kcall, e_kix, e_blt, e_mth, e_tup, e_lst, e_emp, e_ix, e_slc, e_isi, e_xis, e_xf, e_lc, l_nil, l_cons, t_nil, t_cons, w_val, w_rng, w_enum, w_zip, x_asg, x_asx, x_exp, x_ret, x_ite, x_for, x_whl, x_rse, x_try, x_pass, x_brk, x_cont, x_nil, x_cons, fB_ap, fTs_ap, fE_ap, exH_none, exH_some, exH_nil, gL_some, kN_ok, kN_ex, kB2_ok, kB2_ex, kB1_ok, kB1_ex, kC3_some, kC2_ok, kC2_ex, kC1_ok, kC1_ex, kH3_t, kH3_f, kH2_ok, kH2_ex, kH1_ok, kH1_ex, kA2_t, kA2_f, kA_ok, kA_ex, kO2_t, kO2_f, kO_ok, kO_ex, kNt2_some, kNt_ok, kNt_ex, kI2_t, kI2_f, kI_ok, kI_ex, kCa_ok, kCa_ex, kK2_ok, kK2_ex, kK1_ok, kK1_ex, kX_ok, kX_ex, kBl_ok, kBl_ex, kM3_ok, kM3_ex, kM1_ok, kM1_ex, kT_ok, kT_ex, kLs_ok, kLs_ex, kIx2_ok, kIx2_ex, kIx1_ok, kIx1_ex, kS5_some, kS4_ok, kS4_ex, kS3_some, kS2_ok, kS2_ex, kS1_ok, kS1_ex, kIs_ok, kIs_ex, gXi_some, gXf_some, kE2_ok, kE2_ex, kE1_ok, kE1_ex, kTs2_t, kTs2_f, kTs_ok, kTs_ex, kW_ok, kW_ex, kWr_ok, kWr_ex, kWe_ok, kWe_ex, wz_some, kWz2_ok, kWz2_ex, kWz1_ok, kWz1_ex, kLc2_ok, kLc2_ex, kLc_ok, kLc_ex, kAs2_some, kAs_ok, kAs_ex, kAx3_ok, kAx3_ex, kAx2_ok, kAx2_ex, kAx1_ok, kAx1_ex, kEx_ok, kEx_ex, kRt_ok, kRt_ex, kIt2_t, kIt2_f, kIt_ok, kIt_ex, kFo_ok, kFo_ex, kRs_ok, kRs_ex, kF1_some, kWh1_t, kWh1_f, kWh1_ex, kSq_nx, kSq_ct, kSq_bk, kSq_rt, kSq_ex, kTr_nx, kTr_ct, kTr_bk, kTr_rt, kTr_ex, kF2_nx, kF2_ct, kF2_bk, kF2_rt, kF2_ex, kWh2_nx, kWh2_ct, kWh2_bk, kWh2_rt, kWh2_ex, fin_nx, fin_nx, fin_rt, fin_ex, su_nx, su_bk, su_ct, su_rt, Res.bind_ok, Res.bind_ex, Res.out_ok, Res.out_ex, lift_some, truthy, bindT, bindTs, List.getElem?_cons_zero, List.getElem?_cons_succ, List.length_cons, List.length_nil, List.set_cons_zero, List.set_cons_succ, Nat.zero_add, Nat.reduceAdd, Nat.reduceLT, Nat.reduceLeDiff, ↓reduceIte, Bool.false_eq_true, Bool.not_true, Bool.not_false, Option.map_some, Option.bind_some, gc_same, gcX_same, LIM, b_add, b_sub, b_mulr, b_mull, b_fdiv, b_mod, b_pow, b_adds, b_addt, c_eq, c_ne, c_lt, c_le, c_gt, c_ge, c_int, c_nint, f_int1, f_abs, f_min2, f_max2, f_lens, f_lent, eqD_int, eqD_str, eqD_bl, P64, and_self, and_true, true_and, or_true, true_or, Int.reduceLT, Int.reduceEq, Int.reduceLE, Int.reduceNeg, Int.reduceToNat, decide_eq_true_eq, decide_true, decide_false, if_true, if_false, ite_true, ite_false, b_is_coarser, ck_bad hk k]
  rw [r11]
  simp only [e_con, e_loc, e_bin, e_neg, e_cmp, e_chain, e_and, e_or, e_not, e_ite, e_call, e_kcall, e_kix, e_blt, e_mth, e_tup, e_lst, e_emp, e_ix, e_slc, e_isi, e_xis, e_xf, e_lc, l_nil, l_cons, t_nil, t_cons, w_val, w_rng, w_enum, w_zip, x_asg, x_asx, x_exp, x_ret, x_ite, x_for, x_whl, x_rse, x_try, x_pass, x_brk, x_cont, x_nil, x_cons, fB_ap, fTs_ap, fE_ap, exH_none, exH_some, exH_nil, gL_some, kN_ok, kN_ex, kB2_ok, kB2_ex, kB1_ok, kB1_ex, kC3_some, kC2_ok, kC2_ex, kC1_ok, kC1_ex, kH3_t, kH3_f, kH2_ok, kH2_ex, kH1_ok, kH1_ex, kA2_t, kA2_f, kA_ok, kA_ex, kO2_t, kO2_f, kO_ok, kO_ex, kNt2_some, kNt_ok, kNt_ex, kI2_t, kI2_f, kI_ok, kI_ex, kCa_ok, kCa_ex, kK2_ok, kK2_ex, kK1_ok, kK1_ex, kX_ok, kX_ex, kBl_ok, kBl_ex, kM3_ok, kM3_ex, kM1_ok, kM1_ex, kT_ok, kT_ex, kLs_ok, kLs_ex, kIx2_ok, kIx2_ex, kIx1_ok, kIx1_ex, kS5_some, kS4_ok, kS4_ex, kS3_some, kS2_ok, kS2_ex, kS1_ok, kS1_ex, kIs_ok, kIs_ex, gXi_some, gXf_some, kE2_ok, kE2_ex, kE1_ok, kE1_ex, kTs2_t, kTs2_f, kTs_ok, kTs_ex, kW_ok, kW_ex, kWr_ok, kWr_ex, kWe_ok, kWe_ex, wz_some, kWz2_ok, kWz2_ex, kWz1_ok, kWz1_ex, kLc2_ok, kLc2_ex, kLc_ok, kLc_ex, kAs2_some, kAs_ok, kAs_ex, kAx3_ok, kAx3_ex, kAx2_ok, kAx2_ex, kAx1_ok, kAx1_ex, kEx_ok, kEx_ex, kRt_ok, kRt_ex, kIt2_t, kIt2_f, kIt_ok, kIt_ex, kFo_ok, kFo_ex, kRs_ok, kRs_ex, kF1_some, kWh1_t, kWh1_f, kWh1_ex, kSq_nx, kSq_ct, kSq_bk, kSq_rt, kSq_ex, kTr_nx, kTr_ct, kTr_bk, kTr_rt, kTr_ex, kF2_nx, kF2_ct, kF2_bk, kF2_rt, kF2_ex, kWh2_nx, kWh2_ct, kWh2_bk, kWh2_rt, kWh2_ex, fin_nx, fin_nx, fin_rt, fin_ex, su_nx, su_bk, su_ct, su_rt, Res.bind_ok, Res.bind_ex, Res.out_ok, Res.out_ex, lift_some, truthy, bindT, bindTs, List.getElem?_cons_zero, List.getElem?_cons_succ, List.length_cons, List.length_nil, List.set_cons_zero, List.set_cons_succ, Nat.zero_add, Nat.reduceAdd, Nat.reduceLT, Nat.reduceLeDiff, ↓reduceIte, Bool.false_eq_true, Bool.not_true, Bool.not_false, Option.map_some, Option.bind_some, gc_same, gcX_same, LIM, b_add, b_sub, b_mulr, b_mull, b_fdiv, b_mod, b_pow, b_adds, b_addt, c_eq, c_ne, c_lt, c_le, c_gt, c_ge, c_int, c_nint, f_int1, f_abs, f_min2, f_max2, f_lens, f_lent, eqD_int, eqD_str, eqD_bl, P64, and_self, and_true, true_and, or_true, true_or, Int.reduceLT, Int.reduceEq, Int.reduceLE, Int.reduceNeg, Int.reduceToNat, decide_eq_true_eq, decide_true, decide_false, if_true, if_false, ite_true, ite_false, b__law_asked, c2, s11, s10, List.isEmpty_nil]
theorem asked2 {h : HP} {d e : D} (hy : Yk h d) (hk : Nk h e) (k : Nat) : MP.run pg wf (k+4) 11 [d, e] h = .ok (.tup [.str [114, 101, 102, 117, 115, 101, 100], .bl true]) h := by
  have s11 : sub 1 1 = true := rfl
  have s10 : sub 1 0 = true := rfl
  have c2 : MP.run pg wf (k+3) 2 [d, e] h = .ex ⟨1, []⟩ h := by
    rw [r2]
    simp only [e_con, e_loc, e_bin, e_neg, e_cmp, e_chain, e_and, e_or, e_not, e_ite, e_call, e_kcall, e_kix, e_blt, e_mth, e_tup, e_lst, e_emp, e_ix, e_slc, e_isi, e_xis, e_xf, e_lc, l_nil, l_cons, t_nil, t_cons, w_val, w_rng, w_enum, w_zip, x_asg, x_asx, x_exp, x_ret, x_ite, x_for, x_whl, x_rse, x_try, x_pass, x_brk, x_cont, x_nil, x_cons, fB_ap, fTs_ap, fE_ap, exH_none, exH_some, exH_nil, gL_some, kN_ok, kN_ex, kB2_ok, kB2_ex, kB1_ok, kB1_ex, kC3_some, kC2_ok, kC2_ex, kC1_ok, kC1_ex, kH3_t, kH3_f, kH2_ok, kH2_ex, kH1_ok, kH1_ex, kA2_t, kA2_f, kA_ok, kA_ex, kO2_t, kO2_f, kO_ok, kO_ex, kNt2_some, kNt_ok, kNt_ex, kI2_t, kI2_f, kI_ok, kI_ex, kCa_ok, kCa_ex, kK2_ok, kK2_ex, kK1_ok, kK1_ex, kX_ok, kX_ex, kBl_ok, kBl_ex, kM3_ok, kM3_ex, kM1_ok, kM1_ex, kT_ok, kT_ex, kLs_ok, kLs_ex, kIx2_ok, kIx2_ex, kIx1_ok, kIx1_ex, kS5_some, kS4_ok, kS4_ex, kS3_some, kS2_ok, kS2_ex, kS1_ok, kS1_ex, kIs_ok, kIs_ex, gXi_some, gXf_some, kE2_ok, kE2_ex, kE1_ok, kE1_ex, kTs2_t, kTs2_f, kTs_ok, kTs_ex, kW_ok, kW_ex, kWr_ok, kWr_ex, kWe_ok, kWe_ex, wz_some, kWz2_ok, kWz2_ex, kWz1_ok, kWz1_ex, kLc2_ok, kLc2_ex, kLc_ok, kLc_ex, kAs2_some, kAs_ok, kAs_ex, kAx3_ok, kAx3_ex, kAx2_ok, kAx2_ex, kAx1_ok, kAx1_ex, kEx_ok, kEx_ex, kRt_ok, kRt_ex, kIt2_t, kIt2_f, kIt_ok, kIt_ex, kFo_ok, kFo_ex, kRs_ok, kRs_ex, kF1_some, kWh1_t, kWh1_f, kWh1_ex, kSq_nx, kSq_ct, kSq_bk, kSq_rt, kSq_ex, kTr_nx, kTr_ct, kTr_bk, kTr_rt, kTr_ex, kF2_nx, kF2_ct, kF2_bk, kF2_rt, kF2_ex, kWh2_nx, kWh2_ct, kWh2_bk, kWh2_rt, kWh2_ex, fin_nx, fin_nx, fin_rt, fin_ex, su_nx, su_bk, su_ct, su_rt, Res.bind_ok, Res.bind_ex, Res.out_ok, Res.out_ex, lift_some, truthy, bindT, bindTs, List.getElem?_cons_zero, List.getElem?_cons_succ, List.length_cons, List.length_nil, List.set_cons_zero, List.set_cons_succ, Nat.zero_add, Nat.reduceAdd, Nat.reduceLT, Nat.reduceLeDiff, ↓reduceIte, Bool.false_eq_true, Bool.not_true, Bool.not_false, Option.map_some, Option.bind_some, gc_same, gcX_same, LIM, b_add, b_sub, b_mulr, b_mull, b_fdiv, b_mod, b_pow, b_adds, b_addt, c_eq, c_ne, c_lt, c_le, c_gt, c_ge, c_int, c_nint, f_int1, f_abs, f_min2, f_max2, f_lens, f_lent, eqD_int, eqD_str, eqD_bl, P64, and_self, and_true, true_and, or_true, true_or, Int.reduceLT, Int.reduceEq, Int.reduceLE, Int.reduceNeg, Int.reduceToNat, decide_eq_true_eq, decide_true, decide_false, if_true, if_false, ite_true, ite_false, b_is_coarser, ck_ok hy k, ck_bad hk k]
  rw [r11]
  simp only [e_con, e_loc, e_bin, e_neg, e_cmp, e_chain, e_and, e_or, e_not, e_ite, e_call, e_kcall, e_kix, e_blt, e_mth, e_tup, e_lst, e_emp, e_ix, e_slc, e_isi, e_xis, e_xf, e_lc, l_nil, l_cons, t_nil, t_cons, w_val, w_rng, w_enum, w_zip, x_asg, x_asx, x_exp, x_ret, x_ite, x_for, x_whl, x_rse, x_try, x_pass, x_brk, x_cont, x_nil, x_cons, fB_ap, fTs_ap, fE_ap, exH_none, exH_some, exH_nil, gL_some, kN_ok, kN_ex, kB2_ok, kB2_ex, kB1_ok, kB1_ex, kC3_some, kC2_ok, kC2_ex, kC1_ok, kC1_ex, kH3_t, kH3_f, kH2_ok, kH2_ex, kH1_ok, kH1_ex, kA2_t, kA2_f, kA_ok, kA_ex, kO2_t, kO2_f, kO_ok, kO_ex, kNt2_some, kNt_ok, kNt_ex, kI2_t, kI2_f, kI_ok, kI_ex, kCa_ok, kCa_ex, kK2_ok, kK2_ex, kK1_ok, kK1_ex, kX_ok, kX_ex, kBl_ok, kBl_ex, kM3_ok, kM3_ex, kM1_ok, kM1_ex, kT_ok, kT_ex, kLs_ok, kLs_ex, kIx2_ok, kIx2_ex, kIx1_ok, kIx1_ex, kS5_some, kS4_ok, kS4_ex, kS3_some, kS2_ok, kS2_ex, kS1_ok, kS1_ex, kIs_ok, kIs_ex, gXi_some, gXf_some, kE2_ok, kE2_ex, kE1_ok, kE1_ex, kTs2_t, kTs2_f, kTs_ok, kTs_ex, kW_ok, kW_ex, kWr_ok, kWr_ex, kWe_ok, kWe_ex, wz_some, kWz2_ok, kWz2_ex, kWz1_ok, kWz1_ex, kLc2_ok, kLc2_ex, kLc_ok, kLc_ex, kAs2_some, kAs_ok, kAs_ex, kAx3_ok, kAx3_ex, kAx2_ok, kAx2_ex, kAx1_ok, kAx1_ex, kEx_ok, kEx_ex, kRt_ok, kRt_ex, kIt2_t, kIt2_f, kIt_ok, kIt_ex, kFo_ok, kFo_ex, kRs_ok, kRs_ex, kF1_some, kWh1_t, kWh1_f, kWh1_ex, kSq_nx, kSq_ct, kSq_bk, kSq_rt, kSq_ex, kTr_nx, kTr_ct, kTr_bk, kTr_rt, kTr_ex, kF2_nx, kF2_ct, kF2_bk, kF2_rt, kF2_ex, kWh2_nx, kWh2_ct, kWh2_bk, kWh2_rt, kWh2_ex, fin_nx, fin_nx, fin_rt, fin_ex, su_nx, su_bk, su_ct, su_rt, Res.bind_ok, Res.bind_ex, Res.out_ok, Res.out_ex, lift_some, truthy, bindT, bindTs, List.getElem?_cons_zero, List.getElem?_cons_succ, List.length_cons, List.length_nil, List.set_cons_zero, List.set_cons_succ, Nat.zero_add, Nat.reduceAdd, Nat.reduceLT, Nat.reduceLeDiff, ↓reduceIte, Bool.false_eq_true, Bool.not_true, Bool.not_false, Option.map_some, Option.bind_some, gc_same, gcX_same, LIM, b_add, b_sub, b_mulr, b_mull, b_fdiv, b_mod, b_pow, b_adds, b_addt, c_eq, c_ne, c_lt, c_le, c_gt, c_ge, c_int, c_nint, f_int1, f_abs, f_min2, f_max2, f_lens, f_lent, eqD_int, eqD_str, eqD_bl, P64, and_self, and_true, true_and, or_true, true_or, Int.reduceLT, Int.reduceEq, Int.reduceLE, Int.reduceNeg, Int.reduceToNat, decide_eq_true_eq, decide_true, decide_false, if_true, if_false, ite_true, ite_false, b__law_asked, c2, s11, s10, List.isEmpty_nil]
theorem told_bad {h : HP} {d : D} (hk : Nk h d) (k : Nat) : MP.run pg wf (k+4) 12 [d] h = .ok (.str [114, 101, 102, 117, 115, 101, 100]) h := by
  have s11 : sub 1 1 = true := rfl
  have c2 : MP.run pg wf (k+3) 3 [d] h = .ex ⟨1, []⟩ h := by
    rw [r3]
    simp only [e_con, e_loc, e_bin, e_neg, e_cmp, e_chain, e_and, e_or, e_not, e_ite, e_call, e_kcall, e_kix, e_blt, e_mth, e_tup, e_lst, e_emp, e_ix, e_slc, e_isi, e_xis, e_xf, e_lc, l_nil, l_cons, t_nil, t_cons, w_val, w_rng, w_enum, w_zip, x_asg, x_asx, x_exp, x_ret, x_ite, x_for, x_whl, x_rse, x_try, x_pass, x_brk, x_cont, x_nil, x_cons, fB_ap, fTs_ap, fE_ap, exH_none, exH_some, exH_nil, gL_some, kN_ok, kN_ex, kB2_ok, kB2_ex, kB1_ok, kB1_ex, kC3_some, kC2_ok, kC2_ex, kC1_ok, kC1_ex, kH3_t, kH3_f, kH2_ok, kH2_ex, kH1_ok, kH1_ex, kA2_t, kA2_f, kA_ok, kA_ex, kO2_t, kO2_f, kO_ok, kO_ex, kNt2_some, kNt_ok, kNt_ex, kI2_t, kI2_f, kI_ok, kI_ex, kCa_ok, kCa_ex, kK2_ok, kK2_ex, kK1_ok, kK1_ex, kX_ok, kX_ex, kBl_ok, kBl_ex, kM3_ok, kM3_ex, kM1_ok, kM1_ex, kT_ok, kT_ex, kLs_ok, kLs_ex, kIx2_ok, kIx2_ex, kIx1_ok, kIx1_ex, kS5_some, kS4_ok, kS4_ex, kS3_some, kS2_ok, kS2_ex, kS1_ok, kS1_ex, kIs_ok, kIs_ex, gXi_some, gXf_some, kE2_ok, kE2_ex, kE1_ok, kE1_ex, kTs2_t, kTs2_f, kTs_ok, kTs_ex, kW_ok, kW_ex, kWr_ok, kWr_ex, kWe_ok, kWe_ex, wz_some, kWz2_ok, kWz2_ex, kWz1_ok, kWz1_ex, kLc2_ok, kLc2_ex, kLc_ok, kLc_ex, kAs2_some, kAs_ok, kAs_ex, kAx3_ok, kAx3_ex, kAx2_ok, kAx2_ex, kAx1_ok, kAx1_ex, kEx_ok, kEx_ex, kRt_ok, kRt_ex, kIt2_t, kIt2_f, kIt_ok, kIt_ex, kFo_ok, kFo_ex, kRs_ok, kRs_ex, kF1_some, kWh1_t, kWh1_f, kWh1_ex, kSq_nx, kSq_ct, kSq_bk, kSq_rt, kSq_ex, kTr_nx, kTr_ct, kTr_bk, kTr_rt, kTr_ex, kF2_nx, kF2_ct, kF2_bk, kF2_rt, kF2_ex, kWh2_nx, kWh2_ct, kWh2_bk, kWh2_rt, kWh2_ex, fin_nx, fin_nx, fin_rt, fin_ex, su_nx, su_bk, su_ct, su_rt, Res.bind_ok, Res.bind_ex, Res.out_ok, Res.out_ex, lift_some, truthy, bindT, bindTs, List.getElem?_cons_zero, List.getElem?_cons_succ, List.length_cons, List.length_nil, List.set_cons_zero, List.set_cons_succ, Nat.zero_add, Nat.reduceAdd, Nat.reduceLT, Nat.reduceLeDiff, ↓reduceIte, Bool.false_eq_true, Bool.not_true, Bool.not_false, Option.map_some, Option.bind_some, gc_same, gcX_same, LIM, b_add, b_sub, b_mulr, b_mull, b_fdiv, b_mod, b_pow, b_adds, b_addt, c_eq, c_ne, c_lt, c_le, c_gt, c_ge, c_int, c_nint, f_int1, f_abs, f_min2, f_max2, f_lens, f_lent, eqD_int, eqD_str, eqD_bl, P64, and_self, and_true, true_and, or_true, true_or, Int.reduceLT, Int.reduceEq, Int.reduceLE, Int.reduceNeg, Int.reduceToNat, decide_eq_true_eq, decide_true, decide_false, if_true, if_false, ite_true, ite_false, b_identities_of, ck_bad hk k]
  rw [r12]
  simp only [e_con, e_loc, e_bin, e_neg, e_cmp, e_chain, e_and, e_or, e_not, e_ite, e_call, e_kcall, e_kix, e_blt, e_mth, e_tup, e_lst, e_emp, e_ix, e_slc, e_isi, e_xis, e_xf, e_lc, l_nil, l_cons, t_nil, t_cons, w_val, w_rng, w_enum, w_zip, x_asg, x_asx, x_exp, x_ret, x_ite, x_for, x_whl, x_rse, x_try, x_pass, x_brk, x_cont, x_nil, x_cons, fB_ap, fTs_ap, fE_ap, exH_none, exH_some, exH_nil, gL_some, kN_ok, kN_ex, kB2_ok, kB2_ex, kB1_ok, kB1_ex, kC3_some, kC2_ok, kC2_ex, kC1_ok, kC1_ex, kH3_t, kH3_f, kH2_ok, kH2_ex, kH1_ok, kH1_ex, kA2_t, kA2_f, kA_ok, kA_ex, kO2_t, kO2_f, kO_ok, kO_ex, kNt2_some, kNt_ok, kNt_ex, kI2_t, kI2_f, kI_ok, kI_ex, kCa_ok, kCa_ex, kK2_ok, kK2_ex, kK1_ok, kK1_ex, kX_ok, kX_ex, kBl_ok, kBl_ex, kM3_ok, kM3_ex, kM1_ok, kM1_ex, kT_ok, kT_ex, kLs_ok, kLs_ex, kIx2_ok, kIx2_ex, kIx1_ok, kIx1_ex, kS5_some, kS4_ok, kS4_ex, kS3_some, kS2_ok, kS2_ex, kS1_ok, kS1_ex, kIs_ok, kIs_ex, gXi_some, gXf_some, kE2_ok, kE2_ex, kE1_ok, kE1_ex, kTs2_t, kTs2_f, kTs_ok, kTs_ex, kW_ok, kW_ex, kWr_ok, kWr_ex, kWe_ok, kWe_ex, wz_some, kWz2_ok, kWz2_ex, kWz1_ok, kWz1_ex, kLc2_ok, kLc2_ex, kLc_ok, kLc_ex, kAs2_some, kAs_ok, kAs_ex, kAx3_ok, kAx3_ex, kAx2_ok, kAx2_ex, kAx1_ok, kAx1_ex, kEx_ok, kEx_ex, kRt_ok, kRt_ex, kIt2_t, kIt2_f, kIt_ok, kIt_ex, kFo_ok, kFo_ex, kRs_ok, kRs_ex, kF1_some, kWh1_t, kWh1_f, kWh1_ex, kSq_nx, kSq_ct, kSq_bk, kSq_rt, kSq_ex, kTr_nx, kTr_ct, kTr_bk, kTr_rt, kTr_ex, kF2_nx, kF2_ct, kF2_bk, kF2_rt, kF2_ex, kWh2_nx, kWh2_ct, kWh2_bk, kWh2_rt, kWh2_ex, fin_nx, fin_nx, fin_rt, fin_ex, su_nx, su_bk, su_ct, su_rt, Res.bind_ok, Res.bind_ex, Res.out_ok, Res.out_ex, lift_some, truthy, bindT, bindTs, List.getElem?_cons_zero, List.getElem?_cons_succ, List.length_cons, List.length_nil, List.set_cons_zero, List.set_cons_succ, Nat.zero_add, Nat.reduceAdd, Nat.reduceLT, Nat.reduceLeDiff, ↓reduceIte, Bool.false_eq_true, Bool.not_true, Bool.not_false, Option.map_some, Option.bind_some, gc_same, gcX_same, LIM, b_add, b_sub, b_mulr, b_mull, b_fdiv, b_mod, b_pow, b_adds, b_addt, c_eq, c_ne, c_lt, c_le, c_gt, c_ge, c_int, c_nint, f_int1, f_abs, f_min2, f_max2, f_lens, f_lent, eqD_int, eqD_str, eqD_bl, P64, and_self, and_true, true_and, or_true, true_or, Int.reduceLT, Int.reduceEq, Int.reduceLE, Int.reduceNeg, Int.reduceToNat, decide_eq_true_eq, decide_true, decide_false, if_true, if_false, ite_true, ite_false, b__law_identities_told, c2, s11]
/-! the pool -/
theorem pull_small (k : Nat) {a b c L : Int} (h0 : 0 < L) (h1 : L < 1073741824) (hc : 0 ≤ c) (hc2 : c < 1000000) : ∃ v a' b', MP.run pg wf (k+1) 5 [.ref 0, .int L] [.lst [.int a, .int b, .int c]] = .ok (.int v) [.lst [.int a', .int b', .int (c + 1)]] ∧ 0 ≤ v ∧ v < L := by
  rw [r5]
  have e2 : L2.ixN 3 2 = some 2 := rfl
  have e1 : L2.ixN 3 1 = some 1 := rfl
  have e0 : L2.ixN 3 0 = some 0 := rfl
  have g : ∀ x : List D, D.clL 1 x = true → gcOk [O.lst [.int a, .int b, .int c]] [O.lst x] = true := fun x hx => gcOk_set (h := [O.lst [.int a, .int b, .int c]]) (m := 0) (l := []) (o := .lst x) hx
  have hL : (-18446744073709551616 < L ∧ L < 18446744073709551616) := by omega
  have cc : (-18446744073709551616 < c + 1 ∧ c + 1 < 18446744073709551616) := by omega
  by_cases ha : 0 < a
  · refine ⟨a % L, a / L, b, ?_, Int.emod_nonneg _ (by omega), Int.emod_lt_of_pos _ h0⟩
    simp only [e_con, e_loc, e_bin, e_neg, e_cmp, e_chain, e_and, e_or, e_not, e_ite, e_call, e_kcall, e_kix, e_blt, e_mth, e_tup, e_lst, e_emp, e_ix, e_slc, e_isi, e_xis, e_xf, e_lc, l_nil, l_cons, t_nil, t_cons, w_val, w_rng, w_enum, w_zip, x_asg, x_asx, x_exp, x_ret, x_ite, x_for, x_whl, x_rse, x_try, x_pass, x_brk, x_cont, x_nil, x_cons, fB_ap, fTs_ap, fE_ap, exH_none, exH_some, exH_nil, gL_some, kN_ok, kN_ex, kB2_ok, kB2_ex, kB1_ok, kB1_ex, kC3_some, kC2_ok, kC2_ex, kC1_ok, kC1_ex, kH3_t, kH3_f, kH2_ok, kH2_ex, kH1_ok, kH1_ex, kA2_t, kA2_f, kA_ok, kA_ex, kO2_t, kO2_f, kO_ok, kO_ex, kNt2_some, kNt_ok, kNt_ex, kI2_t, kI2_f, kI_ok, kI_ex, kCa_ok, kCa_ex, kK2_ok, kK2_ex, kK1_ok, kK1_ex, kX_ok, kX_ex, kBl_ok, kBl_ex, kM3_ok, kM3_ex, kM1_ok, kM1_ex, kT_ok, kT_ex, kLs_ok, kLs_ex, kIx2_ok, kIx2_ex, kIx1_ok, kIx1_ex, kS5_some, kS4_ok, kS4_ex, kS3_some, kS2_ok, kS2_ex, kS1_ok, kS1_ex, kIs_ok, kIs_ex, gXi_some, gXf_some, kE2_ok, kE2_ex, kE1_ok, kE1_ex, kTs2_t, kTs2_f, kTs_ok, kTs_ex, kW_ok, kW_ex, kWr_ok, kWr_ex, kWe_ok, kWe_ex, wz_some, kWz2_ok, kWz2_ex, kWz1_ok, kWz1_ex, kLc2_ok, kLc2_ex, kLc_ok, kLc_ex, kAs2_some, kAs_ok, kAs_ex, kAx3_ok, kAx3_ex, kAx2_ok, kAx2_ex, kAx1_ok, kAx1_ex, kEx_ok, kEx_ex, kRt_ok, kRt_ex, kIt2_t, kIt2_f, kIt_ok, kIt_ex, kFo_ok, kFo_ex, kRs_ok, kRs_ex, kF1_some, kWh1_t, kWh1_f, kWh1_ex, kSq_nx, kSq_ct, kSq_bk, kSq_rt, kSq_ex, kTr_nx, kTr_ct, kTr_bk, kTr_rt, kTr_ex, kF2_nx, kF2_ct, kF2_bk, kF2_rt, kF2_ex, kWh2_nx, kWh2_ct, kWh2_bk, kWh2_rt, kWh2_ex, fin_nx, fin_nx, fin_rt, fin_ex, su_nx, su_bk, su_ct, su_rt, Res.bind_ok, Res.bind_ex, Res.out_ok, Res.out_ex, lift_some, truthy, bindT, bindTs, List.getElem?_cons_zero, List.getElem?_cons_succ, List.length_cons, List.length_nil, List.set_cons_zero, List.set_cons_succ, Nat.zero_add, Nat.reduceAdd, Nat.reduceLT, Nat.reduceLeDiff, ↓reduceIte, Bool.false_eq_true, Bool.not_true, Bool.not_false, Option.map_some, Option.bind_some, gc_same, gcX_same, LIM, b_add, b_sub, b_mulr, b_mull, b_fdiv, b_mod, b_pow, b_adds, b_addt, c_eq, c_ne, c_lt, c_le, c_gt, c_ge, c_int, c_nint, f_int1, f_abs, f_min2, f_max2, f_lens, f_lent, eqD_int, eqD_str, eqD_bl, P64, and_self, and_true, true_and, or_true, true_or, Int.reduceLT, Int.reduceEq, Int.reduceLE, Int.reduceNeg, Int.reduceToNat, decide_eq_true_eq, decide_true, decide_false, if_true, if_false, ite_true, ite_false, b__law_pull, opIx, rdL, stO, e2, e1, e0, ha, h0, h1, and_self]
    unfold gc
    rw [if_pos (g _ rfl)]
    rfl
  · refine ⟨(b * 16807 + (c + 1) * (c + 1) * 40692 + 977) % 2147483629 * 1583458089 % 2147483587 / 11 % L, a, (b * 16807 + (c + 1) * (c + 1) * 40692 + 977) % 2147483629, ?_, Int.emod_nonneg _ (by omega), Int.emod_lt_of_pos _ h0⟩
    have q1 : (-P64 < 16807 ∧ (16807 : Int) < P64) := by unfold P64; omega
    have q2 : (-P64 < 40692 ∧ (40692 : Int) < P64) := by unfold P64; omega
    have q3 : (-P64 < 1583458089 ∧ (1583458089 : Int) < P64) := by unfold P64; omega
    have q4 : (0 < (2147483629 : Int)) := by omega
    have q5 : (0 < (2147483587 : Int)) := by omega
    have q6 : (0 < (11 : Int) ∧ (11 : Int) < 1073741824) := by omega
    simp only [e_con, e_loc, e_bin, e_neg, e_cmp, e_chain, e_and, e_or, e_not, e_ite, e_call, e_kcall, e_kix, e_blt, e_mth, e_tup, e_lst, e_emp, e_ix, e_slc, e_isi, e_xis, e_xf, e_lc, l_nil, l_cons, t_nil, t_cons, w_val, w_rng, w_enum, w_zip, x_asg, x_asx, x_exp, x_ret, x_ite, x_for, x_whl, x_rse, x_try, x_pass, x_brk, x_cont, x_nil, x_cons, fB_ap, fTs_ap, fE_ap, exH_none, exH_some, exH_nil, gL_some, kN_ok, kN_ex, kB2_ok, kB2_ex, kB1_ok, kB1_ex, kC3_some, kC2_ok, kC2_ex, kC1_ok, kC1_ex, kH3_t, kH3_f, kH2_ok, kH2_ex, kH1_ok, kH1_ex, kA2_t, kA2_f, kA_ok, kA_ex, kO2_t, kO2_f, kO_ok, kO_ex, kNt2_some, kNt_ok, kNt_ex, kI2_t, kI2_f, kI_ok, kI_ex, kCa_ok, kCa_ex, kK2_ok, kK2_ex, kK1_ok, kK1_ex, kX_ok, kX_ex, kBl_ok, kBl_ex, kM3_ok, kM3_ex, kM1_ok, kM1_ex, kT_ok, kT_ex, kLs_ok, kLs_ex, kIx2_ok, kIx2_ex, kIx1_ok, kIx1_ex, kS5_some, kS4_ok, kS4_ex, kS3_some, kS2_ok, kS2_ex, kS1_ok, kS1_ex, kIs_ok, kIs_ex, gXi_some, gXf_some, kE2_ok, kE2_ex, kE1_ok, kE1_ex, kTs2_t, kTs2_f, kTs_ok, kTs_ex, kW_ok, kW_ex, kWr_ok, kWr_ex, kWe_ok, kWe_ex, wz_some, kWz2_ok, kWz2_ex, kWz1_ok, kWz1_ex, kLc2_ok, kLc2_ex, kLc_ok, kLc_ex, kAs2_some, kAs_ok, kAs_ex, kAx3_ok, kAx3_ex, kAx2_ok, kAx2_ex, kAx1_ok, kAx1_ex, kEx_ok, kEx_ex, kRt_ok, kRt_ex, kIt2_t, kIt2_f, kIt_ok, kIt_ex, kFo_ok, kFo_ex, kRs_ok, kRs_ex, kF1_some, kWh1_t, kWh1_f, kWh1_ex, kSq_nx, kSq_ct, kSq_bk, kSq_rt, kSq_ex, kTr_nx, kTr_ct, kTr_bk, kTr_rt, kTr_ex, kF2_nx, kF2_ct, kF2_bk, kF2_rt, kF2_ex, kWh2_nx, kWh2_ct, kWh2_bk, kWh2_rt, kWh2_ex, fin_nx, fin_nx, fin_rt, fin_ex, su_nx, su_bk, su_ct, su_rt, Res.bind_ok, Res.bind_ex, Res.out_ok, Res.out_ex, lift_some, truthy, bindT, bindTs, List.getElem?_cons_zero, List.getElem?_cons_succ, List.length_cons, List.length_nil, List.set_cons_zero, List.set_cons_succ, Nat.zero_add, Nat.reduceAdd, Nat.reduceLT, Nat.reduceLeDiff, ↓reduceIte, Bool.false_eq_true, Bool.not_true, Bool.not_false, Option.map_some, Option.bind_some, gc_same, gcX_same, LIM, b_add, b_sub, b_mulr, b_mull, b_fdiv, b_mod, b_pow, b_adds, b_addt, c_eq, c_ne, c_lt, c_le, c_gt, c_ge, c_int, c_nint, f_int1, f_abs, f_min2, f_max2, f_lens, f_lent, eqD_int, eqD_str, eqD_bl, P64, and_self, and_true, true_and, or_true, true_or, Int.reduceLT, Int.reduceEq, Int.reduceLE, Int.reduceNeg, Int.reduceToNat, decide_eq_true_eq, decide_true, decide_false, if_true, if_false, ite_true, ite_false, b__law_pull, opIx, rdL, stO, e2, e1, e0, ha, h0, h1, and_self, q1, q2, q3, q4, q5, q6, cc, or_true, true_or]
    unfold gc
    rw [if_pos (g _ rfl)]
    rfl

theorem pool_loop (cf : Nat → List D → HP → Res D) (h : HP) (dk : D) (ys : List D) (hw : h[1]? = some (.lst ys)) : ∀ (xs : List Int) (i : Nat) (t : Int) (x3 x4 : Option D), i + xs.length ≤ 63 → ∃ t' y3 y4,
    forGo (fB cf sub wf (.cons (.asg (.nm 2) (.bin .mod (.blt .int1 (.cons (.bin .add (.bin .add (.bin .mul (.loc 2) (.con (.int (31)))) (.bin .mul (.loc 4) (.bin .add (.bin .mul (.con (.int (2))) (.loc 3)) (.con (.int (3)))))) (.loc 3)) .nil)) (.con (.int (2147483587))))) .nil)) (.tp [(.nm 3), (.nm 4)]) [(1, .lst ys)] (nums i (xs.map .int)) ⟨[some (.ref 0), some dk, some (.int t), x3, x4, none], none⟩ h =
      .nx ⟨[some (.ref 0), some dk, some (.int t'), y3, y4, none], none⟩ h
  | [], i, t, x3, x4, _ => ⟨t, x3, x4, by
    rw [List.map_nil, nums, forGo_nil, if_pos (by unfold watchOk; simp [hw])]⟩
  | x :: xs, i, t, x3, x4, hi => by
    rw [List.length_cons] at hi
    have q1 : (-P64 < 31 ∧ (31 : Int) < P64) := by unfold P64; omega
    have q2 : (-18446744073709551616 < 2 * (i : Int) + 3 ∧ 2 * (i : Int) + 3 < 18446744073709551616) := by omega
    have q3 : (-P64 < 2 ∧ (2 : Int) < P64) := by unfold P64; omega
    have q5 : (0 < (2147483587 : Int)) := by omega
    obtain ⟨t', y3, y4, e⟩ := pool_loop cf h dk ys hw xs (i + 1) ((t * 31 + x * (2 * (i : Int) + 3) + (i : Int)) % 2147483587) (some (.int i)) (some (.int x)) (by omega)
    refine ⟨t', y3, y4, ?_⟩
    rw [List.map_cons, nums, forGo_cons, if_pos (by unfold watchOk; simp [hw])]
    simp only [e_con, e_loc, e_bin, e_neg, e_cmp, e_chain, e_and, e_or, e_not, e_ite, e_call, e_kcall, e_kix, e_blt, e_mth, e_tup, e_lst, e_emp, e_ix, e_slc, e_isi, e_xis, e_xf, e_lc, l_nil, l_cons, t_nil, t_cons, w_val, w_rng, w_enum, w_zip, x_asg, x_asx, x_exp, x_ret, x_ite, x_for, x_whl, x_rse, x_try, x_pass, x_brk, x_cont, x_nil, x_cons, fB_ap, fTs_ap, fE_ap, exH_none, exH_some, exH_nil, gL_some, kN_ok, kN_ex, kB2_ok, kB2_ex, kB1_ok, kB1_ex, kC3_some, kC2_ok, kC2_ex, kC1_ok, kC1_ex, kH3_t, kH3_f, kH2_ok, kH2_ex, kH1_ok, kH1_ex, kA2_t, kA2_f, kA_ok, kA_ex, kO2_t, kO2_f, kO_ok, kO_ex, kNt2_some, kNt_ok, kNt_ex, kI2_t, kI2_f, kI_ok, kI_ex, kCa_ok, kCa_ex, kK2_ok, kK2_ex, kK1_ok, kK1_ex, kX_ok, kX_ex, kBl_ok, kBl_ex, kM3_ok, kM3_ex, kM1_ok, kM1_ex, kT_ok, kT_ex, kLs_ok, kLs_ex, kIx2_ok, kIx2_ex, kIx1_ok, kIx1_ex, kS5_some, kS4_ok, kS4_ex, kS3_some, kS2_ok, kS2_ex, kS1_ok, kS1_ex, kIs_ok, kIs_ex, gXi_some, gXf_some, kE2_ok, kE2_ex, kE1_ok, kE1_ex, kTs2_t, kTs2_f, kTs_ok, kTs_ex, kW_ok, kW_ex, kWr_ok, kWr_ex, kWe_ok, kWe_ex, wz_some, kWz2_ok, kWz2_ex, kWz1_ok, kWz1_ex, kLc2_ok, kLc2_ex, kLc_ok, kLc_ex, kAs2_some, kAs_ok, kAs_ex, kAx3_ok, kAx3_ex, kAx2_ok, kAx2_ex, kAx1_ok, kAx1_ex, kEx_ok, kEx_ex, kRt_ok, kRt_ex, kIt2_t, kIt2_f, kIt_ok, kIt_ex, kFo_ok, kFo_ex, kRs_ok, kRs_ex, kF1_some, kWh1_t, kWh1_f, kWh1_ex, kSq_nx, kSq_ct, kSq_bk, kSq_rt, kSq_ex, kTr_nx, kTr_ct, kTr_bk, kTr_rt, kTr_ex, kF2_nx, kF2_ct, kF2_bk, kF2_rt, kF2_ex, kWh2_nx, kWh2_ct, kWh2_bk, kWh2_rt, kWh2_ex, fin_nx, fin_nx, fin_rt, fin_ex, su_nx, su_bk, su_ct, su_rt, Res.bind_ok, Res.bind_ex, Res.out_ok, Res.out_ex, lift_some, truthy, bindT, bindTs, List.getElem?_cons_zero, List.getElem?_cons_succ, List.length_cons, List.length_nil, List.set_cons_zero, List.set_cons_succ, Nat.zero_add, Nat.reduceAdd, Nat.reduceLT, Nat.reduceLeDiff, ↓reduceIte, Bool.false_eq_true, Bool.not_true, Bool.not_false, Option.map_some, Option.bind_some, gc_same, gcX_same, LIM, b_add, b_sub, b_mulr, b_mull, b_fdiv, b_mod, b_pow, b_adds, b_addt, c_eq, c_ne, c_lt, c_le, c_gt, c_ge, c_int, c_nint, f_int1, f_abs, f_min2, f_max2, f_lens, f_lent, eqD_int, eqD_str, eqD_bl, P64, and_self, and_true, true_and, or_true, true_or, Int.reduceLT, Int.reduceEq, Int.reduceLE, Int.reduceNeg, Int.reduceToNat, decide_eq_true_eq, decide_true, decide_false, if_true, if_false, ite_true, ite_false, q1, q2, q3, q5, or_true, true_or, e]
theorem pool_small (k : Nat) (ns : List Int) (hn : ns.length ≤ 63) (kv : Int) (h0 : 0 ≤ kv) (h1 : kv < 1000) : ∃ a b, MP.run pg wf (k+1) 4 [.ref 0, .int kv] [.frz (ns.map .int)] = .ok (.ref 1) [.frz (ns.map .int), .lst [.int a, .int b, .int kv]] := by
  obtain ⟨t', y3, y4, e⟩ := pool_loop (MP.run pg wf k) [.frz (ns.map .int), .lst (cut (ns.map .int) none (some 63))] (.int kv) _ rfl (cut ns none (some 63)) 0 1 none none (by
    unfold cut
    simp only [List.length_take, List.length_drop]
    omega)
  have ec : cut (ns.map D.int) none (some 63) = (cut ns none (some 63)).map D.int := by
    unfold cut
    simp [List.map_take, List.map_drop]
  rw [ec] at e
  have q1 : (-P64 < 7 ∧ (7 : Int) < P64) := by unfold P64; omega
  have q2 : (-P64 < 48271 ∧ (48271 : Int) < P64) := by unfold P64; omega
  have q3 : (-P64 < 69621 ∧ (69621 : Int) < P64) := by unfold P64; omega
  have q4 : (-P64 < 7919 ∧ (7919 : Int) < P64) := by unfold P64; omega
  have q5 : (0 < (2147483647 : Int)) := by omega
  have q6 : (0 ≤ (18 : Int) ∧ (18 : Int) ≤ 1000000 ∧ (10 : Int).natAbs < 18446744073709551616) := by omega
  have fin : ∀ (x y : Int) (l : HP), gc [.frz (ns.map .int)] (.ref 2) ([.frz (ns.map .int)] ++ [.lst ((cut ns none (some 63)).map D.int)] ++ [.lst [.int x, .int y, .int kv]]) = .ok (.ref 1) [.frz (ns.map .int), .lst [.int x, .int y, .int kv]] := fun x y l => by
    rw [List.append_assoc]
    exact gc_new (h := [.frz (ns.map .int)]) rfl (by simp) rfl
  have fin2 : ∀ (x y : Int), gc [.frz (ns.map .int)] (.ref 2) [.frz (ns.map .int), .lst ((cut ns none (some 63)).map D.int), .lst [.int x, .int y, .int kv]] = .ok (.ref 1) [.frz (ns.map .int), .lst [.int x, .int y, .int kv]] := fun x y => fin x y []
  by_cases hk : kv < ns.length
  · have hix : L2.ixN ns.length kv = some kv.toNat := by
      unfold L2.ixN
      rw [if_pos h0, if_pos hk]
    have hlt : kv.toNat < ns.length := by omega
    by_cases hx : (if ns[kv.toNat] < 0 then -ns[kv.toNat] else ns[kv.toNat]) < 10 ^ 18
    · refine ⟨0, ((if ns[kv.toNat] < 0 then -ns[kv.toNat] else ns[kv.toNat]) * 48271 + t' * 69621 + kv * 7919 + 5) % 2147483647, ?_⟩
      rw [r4]
      simp only [e_con, e_loc, e_bin, e_neg, e_cmp, e_chain, e_and, e_or, e_not, e_ite, e_call, e_kcall, e_kix, e_blt, e_mth, e_tup, e_lst, e_emp, e_ix, e_slc, e_isi, e_xis, e_xf, e_lc, l_nil, l_cons, t_nil, t_cons, w_val, w_rng, w_enum, w_zip, x_asg, x_asx, x_exp, x_ret, x_ite, x_for, x_whl, x_rse, x_try, x_pass, x_brk, x_cont, x_nil, x_cons, fB_ap, fTs_ap, fE_ap, exH_none, exH_some, exH_nil, gL_some, kN_ok, kN_ex, kB2_ok, kB2_ex, kB1_ok, kB1_ex, kC3_some, kC2_ok, kC2_ex, kC1_ok, kC1_ex, kH3_t, kH3_f, kH2_ok, kH2_ex, kH1_ok, kH1_ex, kA2_t, kA2_f, kA_ok, kA_ex, kO2_t, kO2_f, kO_ok, kO_ex, kNt2_some, kNt_ok, kNt_ex, kI2_t, kI2_f, kI_ok, kI_ex, kCa_ok, kCa_ex, kK2_ok, kK2_ex, kK1_ok, kK1_ex, kX_ok, kX_ex, kBl_ok, kBl_ex, kM3_ok, kM3_ex, kM1_ok, kM1_ex, kT_ok, kT_ex, kLs_ok, kLs_ex, kIx2_ok, kIx2_ex, kIx1_ok, kIx1_ex, kS5_some, kS4_ok, kS4_ex, kS3_some, kS2_ok, kS2_ex, kS1_ok, kS1_ex, kIs_ok, kIs_ex, gXi_some, gXf_some, kE2_ok, kE2_ex, kE1_ok, kE1_ex, kTs2_t, kTs2_f, kTs_ok, kTs_ex, kW_ok, kW_ex, kWr_ok, kWr_ex, kWe_ok, kWe_ex, wz_some, kWz2_ok, kWz2_ex, kWz1_ok, kWz1_ex, kLc2_ok, kLc2_ex, kLc_ok, kLc_ex, kAs2_some, kAs_ok, kAs_ex, kAx3_ok, kAx3_ex, kAx2_ok, kAx2_ex, kAx1_ok, kAx1_ex, kEx_ok, kEx_ex, kRt_ok, kRt_ex, kIt2_t, kIt2_f, kIt_ok, kIt_ex, kFo_ok, kFo_ex, kRs_ok, kRs_ex, kF1_some, kWh1_t, kWh1_f, kWh1_ex, kSq_nx, kSq_ct, kSq_bk, kSq_rt, kSq_ex, kTr_nx, kTr_ct, kTr_bk, kTr_rt, kTr_ex, kF2_nx, kF2_ct, kF2_bk, kF2_rt, kF2_ex, kWh2_nx, kWh2_ct, kWh2_bk, kWh2_rt, kWh2_ex, fin_nx, fin_nx, fin_rt, fin_ex, su_nx, su_bk, su_ct, su_rt, Res.bind_ok, Res.bind_ex, Res.out_ok, Res.out_ex, lift_some, truthy, bindT, bindTs, List.getElem?_cons_zero, List.getElem?_cons_succ, List.length_cons, List.length_nil, List.set_cons_zero, List.set_cons_succ, Nat.zero_add, Nat.reduceAdd, Nat.reduceLT, Nat.reduceLeDiff, ↓reduceIte, Bool.false_eq_true, Bool.not_true, Bool.not_false, Option.map_some, Option.bind_some, gc_same, gcX_same, LIM, b_add, b_sub, b_mulr, b_mull, b_fdiv, b_mod, b_pow, b_adds, b_addt, c_eq, c_ne, c_lt, c_le, c_gt, c_ge, c_int, c_nint, f_int1, f_abs, f_min2, f_max2, f_lens, f_lent, eqD_int, eqD_str, eqD_bl, P64, and_self, and_true, true_and, or_true, true_or, Int.reduceLT, Int.reduceEq, Int.reduceLE, Int.reduceNeg, Int.reduceToNat, decide_eq_true_eq, decide_true, decide_false, if_true, if_false, ite_true, ite_false, b__law_pool, sPart, opSl, rdL, f_lenr, walkL, ec, e, opIx, q1, q6, hx, List.length_map, hk, hix, List.getElem?_map, List.getElem?_eq_getElem hlt, List.cons_append, List.nil_append]
      exact fin2 _ _
    · refine ⟨(if ns[kv.toNat] < 0 then -ns[kv.toNat] else ns[kv.toNat]), ((if ns[kv.toNat] < 0 then -ns[kv.toNat] else ns[kv.toNat]) * 48271 + t' * 69621 + kv * 7919 + 5) % 2147483647, ?_⟩
      rw [r4]
      simp only [e_con, e_loc, e_bin, e_neg, e_cmp, e_chain, e_and, e_or, e_not, e_ite, e_call, e_kcall, e_kix, e_blt, e_mth, e_tup, e_lst, e_emp, e_ix, e_slc, e_isi, e_xis, e_xf, e_lc, l_nil, l_cons, t_nil, t_cons, w_val, w_rng, w_enum, w_zip, x_asg, x_asx, x_exp, x_ret, x_ite, x_for, x_whl, x_rse, x_try, x_pass, x_brk, x_cont, x_nil, x_cons, fB_ap, fTs_ap, fE_ap, exH_none, exH_some, exH_nil, gL_some, kN_ok, kN_ex, kB2_ok, kB2_ex, kB1_ok, kB1_ex, kC3_some, kC2_ok, kC2_ex, kC1_ok, kC1_ex, kH3_t, kH3_f, kH2_ok, kH2_ex, kH1_ok, kH1_ex, kA2_t, kA2_f, kA_ok, kA_ex, kO2_t, kO2_f, kO_ok, kO_ex, kNt2_some, kNt_ok, kNt_ex, kI2_t, kI2_f, kI_ok, kI_ex, kCa_ok, kCa_ex, kK2_ok, kK2_ex, kK1_ok, kK1_ex, kX_ok, kX_ex, kBl_ok, kBl_ex, kM3_ok, kM3_ex, kM1_ok, kM1_ex, kT_ok, kT_ex, kLs_ok, kLs_ex, kIx2_ok, kIx2_ex, kIx1_ok, kIx1_ex, kS5_some, kS4_ok, kS4_ex, kS3_some, kS2_ok, kS2_ex, kS1_ok, kS1_ex, kIs_ok, kIs_ex, gXi_some, gXf_some, kE2_ok, kE2_ex, kE1_ok, kE1_ex, kTs2_t, kTs2_f, kTs_ok, kTs_ex, kW_ok, kW_ex, kWr_ok, kWr_ex, kWe_ok, kWe_ex, wz_some, kWz2_ok, kWz2_ex, kWz1_ok, kWz1_ex, kLc2_ok, kLc2_ex, kLc_ok, kLc_ex, kAs2_some, kAs_ok, kAs_ex, kAx3_ok, kAx3_ex, kAx2_ok, kAx2_ex, kAx1_ok, kAx1_ex, kEx_ok, kEx_ex, kRt_ok, kRt_ex, kIt2_t, kIt2_f, kIt_ok, kIt_ex, kFo_ok, kFo_ex, kRs_ok, kRs_ex, kF1_some, kWh1_t, kWh1_f, kWh1_ex, kSq_nx, kSq_ct, kSq_bk, kSq_rt, kSq_ex, kTr_nx, kTr_ct, kTr_bk, kTr_rt, kTr_ex, kF2_nx, kF2_ct, kF2_bk, kF2_rt, kF2_ex, kWh2_nx, kWh2_ct, kWh2_bk, kWh2_rt, kWh2_ex, fin_nx, fin_nx, fin_rt, fin_ex, su_nx, su_bk, su_ct, su_rt, Res.bind_ok, Res.bind_ex, Res.out_ok, Res.out_ex, lift_some, truthy, bindT, bindTs, List.getElem?_cons_zero, List.getElem?_cons_succ, List.length_cons, List.length_nil, List.set_cons_zero, List.set_cons_succ, Nat.zero_add, Nat.reduceAdd, Nat.reduceLT, Nat.reduceLeDiff, ↓reduceIte, Bool.false_eq_true, Bool.not_true, Bool.not_false, Option.map_some, Option.bind_some, gc_same, gcX_same, LIM, b_add, b_sub, b_mulr, b_mull, b_fdiv, b_mod, b_pow, b_adds, b_addt, c_eq, c_ne, c_lt, c_le, c_gt, c_ge, c_int, c_nint, f_int1, f_abs, f_min2, f_max2, f_lens, f_lent, eqD_int, eqD_str, eqD_bl, P64, and_self, and_true, true_and, or_true, true_or, Int.reduceLT, Int.reduceEq, Int.reduceLE, Int.reduceNeg, Int.reduceToNat, decide_eq_true_eq, decide_true, decide_false, if_true, if_false, ite_true, ite_false, b__law_pool, sPart, opSl, rdL, f_lenr, walkL, ec, e, opIx, q1, q6, hx, List.length_map, hk, hix, List.getElem?_map, List.getElem?_eq_getElem hlt, List.cons_append, List.nil_append]
      exact fin2 _ _
  · by_cases hx : t' * 7 + kv < 10 ^ 18
    · refine ⟨0, ((t' * 7 + kv) * 48271 + t' * 69621 + kv * 7919 + 5) % 2147483647, ?_⟩
      rw [r4]
      simp only [e_con, e_loc, e_bin, e_neg, e_cmp, e_chain, e_and, e_or, e_not, e_ite, e_call, e_kcall, e_kix, e_blt, e_mth, e_tup, e_lst, e_emp, e_ix, e_slc, e_isi, e_xis, e_xf, e_lc, l_nil, l_cons, t_nil, t_cons, w_val, w_rng, w_enum, w_zip, x_asg, x_asx, x_exp, x_ret, x_ite, x_for, x_whl, x_rse, x_try, x_pass, x_brk, x_cont, x_nil, x_cons, fB_ap, fTs_ap, fE_ap, exH_none, exH_some, exH_nil, gL_some, kN_ok, kN_ex, kB2_ok, kB2_ex, kB1_ok, kB1_ex, kC3_some, kC2_ok, kC2_ex, kC1_ok, kC1_ex, kH3_t, kH3_f, kH2_ok, kH2_ex, kH1_ok, kH1_ex, kA2_t, kA2_f, kA_ok, kA_ex, kO2_t, kO2_f, kO_ok, kO_ex, kNt2_some, kNt_ok, kNt_ex, kI2_t, kI2_f, kI_ok, kI_ex, kCa_ok, kCa_ex, kK2_ok, kK2_ex, kK1_ok, kK1_ex, kX_ok, kX_ex, kBl_ok, kBl_ex, kM3_ok, kM3_ex, kM1_ok, kM1_ex, kT_ok, kT_ex, kLs_ok, kLs_ex, kIx2_ok, kIx2_ex, kIx1_ok, kIx1_ex, kS5_some, kS4_ok, kS4_ex, kS3_some, kS2_ok, kS2_ex, kS1_ok, kS1_ex, kIs_ok, kIs_ex, gXi_some, gXf_some, kE2_ok, kE2_ex, kE1_ok, kE1_ex, kTs2_t, kTs2_f, kTs_ok, kTs_ex, kW_ok, kW_ex, kWr_ok, kWr_ex, kWe_ok, kWe_ex, wz_some, kWz2_ok, kWz2_ex, kWz1_ok, kWz1_ex, kLc2_ok, kLc2_ex, kLc_ok, kLc_ex, kAs2_some, kAs_ok, kAs_ex, kAx3_ok, kAx3_ex, kAx2_ok, kAx2_ex, kAx1_ok, kAx1_ex, kEx_ok, kEx_ex, kRt_ok, kRt_ex, kIt2_t, kIt2_f, kIt_ok, kIt_ex, kFo_ok, kFo_ex, kRs_ok, kRs_ex, kF1_some, kWh1_t, kWh1_f, kWh1_ex, kSq_nx, kSq_ct, kSq_bk, kSq_rt, kSq_ex, kTr_nx, kTr_ct, kTr_bk, kTr_rt, kTr_ex, kF2_nx, kF2_ct, kF2_bk, kF2_rt, kF2_ex, kWh2_nx, kWh2_ct, kWh2_bk, kWh2_rt, kWh2_ex, fin_nx, fin_nx, fin_rt, fin_ex, su_nx, su_bk, su_ct, su_rt, Res.bind_ok, Res.bind_ex, Res.out_ok, Res.out_ex, lift_some, truthy, bindT, bindTs, List.getElem?_cons_zero, List.getElem?_cons_succ, List.length_cons, List.length_nil, List.set_cons_zero, List.set_cons_succ, Nat.zero_add, Nat.reduceAdd, Nat.reduceLT, Nat.reduceLeDiff, ↓reduceIte, Bool.false_eq_true, Bool.not_true, Bool.not_false, Option.map_some, Option.bind_some, gc_same, gcX_same, LIM, b_add, b_sub, b_mulr, b_mull, b_fdiv, b_mod, b_pow, b_adds, b_addt, c_eq, c_ne, c_lt, c_le, c_gt, c_ge, c_int, c_nint, f_int1, f_abs, f_min2, f_max2, f_lens, f_lent, eqD_int, eqD_str, eqD_bl, P64, and_self, and_true, true_and, or_true, true_or, Int.reduceLT, Int.reduceEq, Int.reduceLE, Int.reduceNeg, Int.reduceToNat, decide_eq_true_eq, decide_true, decide_false, if_true, if_false, ite_true, ite_false, b__law_pool, sPart, opSl, rdL, f_lenr, walkL, ec, e, opIx, q1, q6, hx, List.length_map, hk, List.cons_append, List.nil_append]
      exact fin2 _ _
    · refine ⟨t' * 7 + kv, ((t' * 7 + kv) * 48271 + t' * 69621 + kv * 7919 + 5) % 2147483647, ?_⟩
      rw [r4]
      simp only [e_con, e_loc, e_bin, e_neg, e_cmp, e_chain, e_and, e_or, e_not, e_ite, e_call, e_kcall, e_kix, e_blt, e_mth, e_tup, e_lst, e_emp, e_ix, e_slc, e_isi, e_xis, e_xf, e_lc, l_nil, l_cons, t_nil, t_cons, w_val, w_rng, w_enum, w_zip, x_asg, x_asx, x_exp, x_ret, x_ite, x_for, x_whl, x_rse, x_try, x_pass, x_brk, x_cont, x_nil, x_cons, fB_ap, fTs_ap, fE_ap, exH_none, exH_some, exH_nil, gL_some, kN_ok, kN_ex, kB2_ok, kB2_ex, kB1_ok, kB1_ex, kC3_some, kC2_ok, kC2_ex, kC1_ok, kC1_ex, kH3_t, kH3_f, kH2_ok, kH2_ex, kH1_ok, kH1_ex, kA2_t, kA2_f, kA_ok, kA_ex, kO2_t, kO2_f, kO_ok, kO_ex, kNt2_some, kNt_ok, kNt_ex, kI2_t, kI2_f, kI_ok, kI_ex, kCa_ok, kCa_ex, kK2_ok, kK2_ex, kK1_ok, kK1_ex, kX_ok, kX_ex, kBl_ok, kBl_ex, kM3_ok, kM3_ex, kM1_ok, kM1_ex, kT_ok, kT_ex, kLs_ok, kLs_ex, kIx2_ok, kIx2_ex, kIx1_ok, kIx1_ex, kS5_some, kS4_ok, kS4_ex, kS3_some, kS2_ok, kS2_ex, kS1_ok, kS1_ex, kIs_ok, kIs_ex, gXi_some, gXf_some, kE2_ok, kE2_ex, kE1_ok, kE1_ex, kTs2_t, kTs2_f, kTs_ok, kTs_ex, kW_ok, kW_ex, kWr_ok, kWr_ex, kWe_ok, kWe_ex, wz_some, kWz2_ok, kWz2_ex, kWz1_ok, kWz1_ex, kLc2_ok, kLc2_ex, kLc_ok, kLc_ex, kAs2_some, kAs_ok, kAs_ex, kAx3_ok, kAx3_ex, kAx2_ok, kAx2_ex, kAx1_ok, kAx1_ex, kEx_ok, kEx_ex, kRt_ok, kRt_ex, kIt2_t, kIt2_f, kIt_ok, kIt_ex, kFo_ok, kFo_ex, kRs_ok, kRs_ex, kF1_some, kWh1_t, kWh1_f, kWh1_ex, kSq_nx, kSq_ct, kSq_bk, kSq_rt, kSq_ex, kTr_nx, kTr_ct, kTr_bk, kTr_rt, kTr_ex, kF2_nx, kF2_ct, kF2_bk, kF2_rt, kF2_ex, kWh2_nx, kWh2_ct, kWh2_bk, kWh2_rt, kWh2_ex, fin_nx, fin_nx, fin_rt, fin_ex, su_nx, su_bk, su_ct, su_rt, Res.bind_ok, Res.bind_ex, Res.out_ok, Res.out_ex, lift_some, truthy, bindT, bindTs, List.getElem?_cons_zero, List.getElem?_cons_succ, List.length_cons, List.length_nil, List.set_cons_zero, List.set_cons_succ, Nat.zero_add, Nat.reduceAdd, Nat.reduceLT, Nat.reduceLeDiff, ↓reduceIte, Bool.false_eq_true, Bool.not_true, Bool.not_false, Option.map_some, Option.bind_some, gc_same, gcX_same, LIM, b_add, b_sub, b_mulr, b_mull, b_fdiv, b_mod, b_pow, b_adds, b_addt, c_eq, c_ne, c_lt, c_le, c_gt, c_ge, c_int, c_nint, f_int1, f_abs, f_min2, f_max2, f_lens, f_lent, eqD_int, eqD_str, eqD_bl, P64, and_self, and_true, true_and, or_true, true_or, Int.reduceLT, Int.reduceEq, Int.reduceLE, Int.reduceNeg, Int.reduceToNat, decide_eq_true_eq, decide_true, decide_false, if_true, if_false, ite_true, ite_false, b__law_pool, sPart, opSl, rdL, f_lenr, walkL, ec, e, opIx, q1, q6, hx, List.length_map, hk, List.cons_append, List.nil_append]
      exact fin2 _ _

def W7 : List (List Nat) := [[97, 108, 108], [115, 117, 109], [112, 114, 111, 100, 117, 99, 116], [98, 111, 116, 104], [99, 111, 118, 101, 114], [97, 98, 115, 111, 114, 98], [108, 97, 116, 116, 105, 99, 101]]
theorem words_big (k : Nat) (h : HP) : MP.run pg wf (k+1) 6 [] h = .ok (.ref h.length) (h ++ [.lst (W7.map .str)]) := call_list nr rfl (by decide +kernel) rfl h
theorem pull_big (k : Nat) {h : HP} {p : Nat} {a b c L : Int} (hp : h[p]? = some (.lst [.int a, .int b, .int c])) (h0 : 0 < L) (h1 : L < 1073741824) (hc : 0 ≤ c) (hc2 : c < 1000000) : ∃ v a' b', MP.run pg wf (k+1) 5 [.ref p, .int L] h = .ok (.int v) (h.set p (.lst [.int a', .int b', .int (c + 1)])) ∧ 0 ≤ v ∧ v < L := by
  obtain ⟨v, a', b', e, v0, v1⟩ := pull_small k (a := a) (b := b) h0 h1 hc hc2
  exact ⟨v, a', b', call_set nr hp (fun r => by simp [rO]) (fun r => by simp [rO]) rfl e rfl, v0, v1⟩
theorem pool_big (k : Nat) {h : HP} {p : Nat} (ns : List Int) (hn : ns.length ≤ 63) (kv : Int) (h0 : 0 ≤ kv) (h1 : kv < 1000) (hp : h[p]? = some (.frz (ns.map .int))) : ∃ a b, MP.run pg wf (k+1) 4 [.ref p, .int kv] h = .ok (.ref h.length) (h ++ [.lst [.int a, .int b, .int kv]]) := by
  obtain ⟨a, b, e⟩ := pool_small k ns hn kv h0 h1
  have hlt := (List.getElem?_eq_some_iff.mp hp).1
  have r0 : rAt [p] h.length 0 = p := rfl
  have r1 : rAt [p] h.length 1 = h.length := rfl
  have ni : ∀ r : Nat → Nat, (ns.map D.int).map (rD r) = ns.map D.int := fun r => by
    rw [List.map_map]
    exact List.map_congr_left fun x _ => rD_int
  obtain ⟨h', e1, e2, _, e3, e4⟩ := call_at (h := h) nr [p] rfl (fun k hk => by rw [List.mem_singleton] at hk; omega) (by simp) (fun i o' e => by
    cases i with
    | zero =>
      simp at e
      subst e
      rw [r0]
      simp only [rO, ni]
      exact hp
    | succ i => simp at e) e
  simp only [List.map_cons, List.map_nil, rD_ref, r0, r1, rD_int] at e1
  have e5 := e3 0 _ rfl
  have e6 := e3 1 _ rfl
  simp only [r0, r1, rO, ni, List.map_cons, List.map_nil, rD_int] at e5 e6
  refine ⟨a, b, ?_⟩
  have : h' = h ++ [.lst [.int a, .int b, .int kv]] := by
    refine List.ext_getElem? fun m => ?_
    simp only [List.length_cons, List.length_nil] at e2
    by_cases hm : m < h.length
    · rw [List.getElem?_append_left hm]
      by_cases hmp : m = p
      · subst hmp
        rw [e5, hp]
      · exact e4 m hm (by simpa using hmp)
    · by_cases hm2 : m = h.length
      · subst hm2
        rw [e6, app_at]
        rfl
      · rw [List.getElem?_eq_none (by omega), List.getElem?_eq_none (by rw [List.length_append, List.length_singleton]; omega)]
  rw [e1, this]
/-! odd values -/
def sodd : D → Bool
  | .str s => !(W7.contains s)
  | .ref _ => false
  | .kd _ => false
  | _ => true
def Odd (d : D) (l : HP) (n : Nat) : Prop := (l = [] ∧ sodd d = true ∧ d.nr = true) ∨ (d = .ref n ∧ ∃ o, l = [o] ∧ ((∃ w, o = .lst [.str w, .str w]) ∨ o = .dct []))
theorem ixW {v : Int} (h0 : 0 ≤ v) (h1 : v < 7) : ∃ s, s ∈ W7 ∧ ((L2.ixN (W7.map D.str).length v).bind fun k => (W7.map D.str)[k]?) = some (.str s) := by
  have hc : v = 0 ∨ v = 1 ∨ v = 2 ∨ v = 3 ∨ v = 4 ∨ v = 5 ∨ v = 6 := by omega
  rcases hc with e | e | e | e | e | e | e <;> subst e <;> exact ⟨_, by decide +kernel, rfl⟩
theorem odd_big (k : Nat) {h : HP} {p : Nat} {a b c : Int} (hp : h[p]? = some (.lst [.int a, .int b, .int c])) (hc : 0 ≤ c) (hc2 : c < 900000) : ∃ d a' b' c' l, MP.run pg wf (k+2) 10 [.ref p] h = .ok d (h.set p (.lst [.int a', .int b', .int c']) ++ l) ∧ 0 ≤ c' ∧ c' ≤ c + 3 ∧ Odd d l h.length := by
  have hlt := (List.getElem?_eq_some_iff.mp hp).1
  have hp1 : (h ++ [.lst (W7.map .str)])[p]? = some (.lst [.int a, .int b, .int c]) := by rw [List.getElem?_append_left hlt]; exact hp
  obtain ⟨v, a1, b1, e1, v0, v1⟩ := pull_big k hp1 (L := 7) (by omega) (by omega) hc (by omega)
  rw [set_app hlt] at e1
  obtain ⟨s, hs, es⟩ := ixW v0 v1
  have hp2 : (h.set p (.lst [.int a1, .int b1, .int (c + 1)]) ++ [.lst (W7.map .str)])[p]? = some (.lst [.int a1, .int b1, .int (c + 1)]) := by
    rw [List.getElem?_append_left (by rw [List.length_set]; exact hlt), List.getElem?_set_self hlt]
  obtain ⟨u, a2, b2, e2, u0, u1⟩ := pull_big k hp2 (L := 10) (by omega) (by omega) (by omega) (by omega)
  rw [set_app (by rw [List.length_set]; exact hlt), set_set] at e2
  have hp3 : (h.set p (.lst [.int a2, .int b2, .int (c + 1 + 1)]) ++ [.lst (W7.map .str)])[p]? = some (.lst [.int a2, .int b2, .int (c + 1 + 1)]) := by
    rw [List.getElem?_append_left (by rw [List.length_set]; exact hlt), List.getElem?_set_self hlt]
  have rd : ∀ x, rdL (h.set p x ++ [.lst (W7.map .str)]) h.length = some (W7.map .str) := fun x => rdL_lst sapp_at
  have cl : ∀ x y z : Int, (O.lst [.int x, .int y, .int z]).cl h.length = true := fun _ _ _ => rfl
  have sl : s.length ≤ 7 := by
    have : ∀ s ∈ W7, s.length ≤ 7 := by decide +kernel
    exact this s hs
  have l1 : s.length + 1 ≤ 16777216 := by omega
  have l2 : s.length + s.length ≤ 16777216 := by omega
  have hasc : ascii s = true := by
    have : ∀ s ∈ W7, ascii s = true := by decide +kernel
    exact this s hs
  have l3 : s.length ≤ 5592405 := by omega
  have hu : u = 0 ∨ u = 1 ∨ u = 2 ∨ u = 3 ∨ u = 4 ∨ u = 5 ∨ u = 6 ∨ u = 7 ∨ u = 8 ∨ u = 9 := by omega
  have o1 : ∀ s ∈ W7, sodd (.str (s ++ [32])) = true := by decide +kernel
  have o2 : ∀ s ∈ W7, sodd (.str (cut s (some 1) none)) = true := by decide +kernel
  have o3 : ∀ s ∈ W7, sodd (.str (s.map upC)) = true := by decide +kernel
  have o4 : ∀ s ∈ W7, sodd (.str (s ++ s)) = true := by decide +kernel
  have scal : ∀ {d : D} {a' b' c' : Int} {l : HP}, sodd d = true → d.nr = true → d.cl h.length = true → 0 ≤ c' → c' ≤ c + 3 → ∃ d2 a2 b2 c2 l2, gc h d (h.set p (.lst [.int a', .int b', .int c']) ++ l) = .ok d2 (h.set p (.lst [.int a2, .int b2, .int c2]) ++ l2) ∧ 0 ≤ c2 ∧ c2 ≤ c + 3 ∧ Odd d2 l2 h.length := fun {d a' b' c' l} h1 h2 h3 h4 h5 =>
    ⟨d, a', b', c', [], by rw [List.append_nil]; exact gc_set (cl _ _ _) h3, h4, h5, .inl ⟨rfl, h1, h2⟩⟩
  rcases hu with e | e | e | e | e | e | e | e | e | e <;> subst e
  · rw [r10]
    simp only [e_con, e_loc, e_bin, e_neg, e_cmp, e_chain, e_and, e_or, e_not, e_ite, e_call, e_kcall, e_kix, e_blt, e_mth, e_tup, e_lst, e_emp, e_ix, e_slc, e_isi, e_xis, e_xf, e_lc, l_nil, l_cons, t_nil, t_cons, w_val, w_rng, w_enum, w_zip, x_asg, x_asx, x_exp, x_ret, x_ite, x_for, x_whl, x_rse, x_try, x_pass, x_brk, x_cont, x_nil, x_cons, fB_ap, fTs_ap, fE_ap, exH_none, exH_some, exH_nil, gL_some, kN_ok, kN_ex, kB2_ok, kB2_ex, kB1_ok, kB1_ex, kC3_some, kC2_ok, kC2_ex, kC1_ok, kC1_ex, kH3_t, kH3_f, kH2_ok, kH2_ex, kH1_ok, kH1_ex, kA2_t, kA2_f, kA_ok, kA_ex, kO2_t, kO2_f, kO_ok, kO_ex, kNt2_some, kNt_ok, kNt_ex, kI2_t, kI2_f, kI_ok, kI_ex, kCa_ok, kCa_ex, kK2_ok, kK2_ex, kK1_ok, kK1_ex, kX_ok, kX_ex, kBl_ok, kBl_ex, kM3_ok, kM3_ex, kM1_ok, kM1_ex, kT_ok, kT_ex, kLs_ok, kLs_ex, kIx2_ok, kIx2_ex, kIx1_ok, kIx1_ex, kS5_some, kS4_ok, kS4_ex, kS3_some, kS2_ok, kS2_ex, kS1_ok, kS1_ex, kIs_ok, kIs_ex, gXi_some, gXf_some, kE2_ok, kE2_ex, kE1_ok, kE1_ex, kTs2_t, kTs2_f, kTs_ok, kTs_ex, kW_ok, kW_ex, kWr_ok, kWr_ex, kWe_ok, kWe_ex, wz_some, kWz2_ok, kWz2_ex, kWz1_ok, kWz1_ex, kLc2_ok, kLc2_ex, kLc_ok, kLc_ex, kAs2_some, kAs_ok, kAs_ex, kAx3_ok, kAx3_ex, kAx2_ok, kAx2_ex, kAx1_ok, kAx1_ex, kEx_ok, kEx_ex, kRt_ok, kRt_ex, kIt2_t, kIt2_f, kIt_ok, kIt_ex, kFo_ok, kFo_ex, kRs_ok, kRs_ex, kF1_some, kWh1_t, kWh1_f, kWh1_ex, kSq_nx, kSq_ct, kSq_bk, kSq_rt, kSq_ex, kTr_nx, kTr_ct, kTr_bk, kTr_rt, kTr_ex, kF2_nx, kF2_ct, kF2_bk, kF2_rt, kF2_ex, kWh2_nx, kWh2_ct, kWh2_bk, kWh2_rt, kWh2_ex, fin_nx, fin_nx, fin_rt, fin_ex, su_nx, su_bk, su_ct, su_rt, Res.bind_ok, Res.bind_ex, Res.out_ok, Res.out_ex, lift_some, truthy, bindT, bindTs, List.getElem?_cons_zero, List.getElem?_cons_succ, List.length_cons, List.length_nil, List.set_cons_zero, List.set_cons_succ, Nat.zero_add, Nat.reduceAdd, Nat.reduceLT, Nat.reduceLeDiff, ↓reduceIte, Bool.false_eq_true, Bool.not_true, Bool.not_false, Option.map_some, Option.bind_some, gc_same, gcX_same, LIM, b_add, b_sub, b_mulr, b_mull, b_fdiv, b_mod, b_pow, b_adds, b_addt, c_eq, c_ne, c_lt, c_le, c_gt, c_ge, c_int, c_nint, f_int1, f_abs, f_min2, f_max2, f_lens, f_lent, eqD_int, eqD_str, eqD_bl, P64, and_self, and_true, true_and, or_true, true_or, Int.reduceLT, Int.reduceEq, Int.reduceLE, Int.reduceNeg, Int.reduceToNat, decide_eq_true_eq, decide_true, decide_false, if_true, if_false, ite_true, ite_false, b__law_odd, words_big, e1, e2, ix_r, rd, es, l1]
    exact scal (o1 s hs) rfl rfl (by omega) (by omega)
  · rw [r10]
    simp only [e_con, e_loc, e_bin, e_neg, e_cmp, e_chain, e_and, e_or, e_not, e_ite, e_call, e_kcall, e_kix, e_blt, e_mth, e_tup, e_lst, e_emp, e_ix, e_slc, e_isi, e_xis, e_xf, e_lc, l_nil, l_cons, t_nil, t_cons, w_val, w_rng, w_enum, w_zip, x_asg, x_asx, x_exp, x_ret, x_ite, x_for, x_whl, x_rse, x_try, x_pass, x_brk, x_cont, x_nil, x_cons, fB_ap, fTs_ap, fE_ap, exH_none, exH_some, exH_nil, gL_some, kN_ok, kN_ex, kB2_ok, kB2_ex, kB1_ok, kB1_ex, kC3_some, kC2_ok, kC2_ex, kC1_ok, kC1_ex, kH3_t, kH3_f, kH2_ok, kH2_ex, kH1_ok, kH1_ex, kA2_t, kA2_f, kA_ok, kA_ex, kO2_t, kO2_f, kO_ok, kO_ex, kNt2_some, kNt_ok, kNt_ex, kI2_t, kI2_f, kI_ok, kI_ex, kCa_ok, kCa_ex, kK2_ok, kK2_ex, kK1_ok, kK1_ex, kX_ok, kX_ex, kBl_ok, kBl_ex, kM3_ok, kM3_ex, kM1_ok, kM1_ex, kT_ok, kT_ex, kLs_ok, kLs_ex, kIx2_ok, kIx2_ex, kIx1_ok, kIx1_ex, kS5_some, kS4_ok, kS4_ex, kS3_some, kS2_ok, kS2_ex, kS1_ok, kS1_ex, kIs_ok, kIs_ex, gXi_some, gXf_some, kE2_ok, kE2_ex, kE1_ok, kE1_ex, kTs2_t, kTs2_f, kTs_ok, kTs_ex, kW_ok, kW_ex, kWr_ok, kWr_ex, kWe_ok, kWe_ex, wz_some, kWz2_ok, kWz2_ex, kWz1_ok, kWz1_ex, kLc2_ok, kLc2_ex, kLc_ok, kLc_ex, kAs2_some, kAs_ok, kAs_ex, kAx3_ok, kAx3_ex, kAx2_ok, kAx2_ex, kAx1_ok, kAx1_ex, kEx_ok, kEx_ex, kRt_ok, kRt_ex, kIt2_t, kIt2_f, kIt_ok, kIt_ex, kFo_ok, kFo_ex, kRs_ok, kRs_ex, kF1_some, kWh1_t, kWh1_f, kWh1_ex, kSq_nx, kSq_ct, kSq_bk, kSq_rt, kSq_ex, kTr_nx, kTr_ct, kTr_bk, kTr_rt, kTr_ex, kF2_nx, kF2_ct, kF2_bk, kF2_rt, kF2_ex, kWh2_nx, kWh2_ct, kWh2_bk, kWh2_rt, kWh2_ex, fin_nx, fin_nx, fin_rt, fin_ex, su_nx, su_bk, su_ct, su_rt, Res.bind_ok, Res.bind_ex, Res.out_ok, Res.out_ex, lift_some, truthy, bindT, bindTs, List.getElem?_cons_zero, List.getElem?_cons_succ, List.length_cons, List.length_nil, List.set_cons_zero, List.set_cons_succ, Nat.zero_add, Nat.reduceAdd, Nat.reduceLT, Nat.reduceLeDiff, ↓reduceIte, Bool.false_eq_true, Bool.not_true, Bool.not_false, Option.map_some, Option.bind_some, gc_same, gcX_same, LIM, b_add, b_sub, b_mulr, b_mull, b_fdiv, b_mod, b_pow, b_adds, b_addt, c_eq, c_ne, c_lt, c_le, c_gt, c_ge, c_int, c_nint, f_int1, f_abs, f_min2, f_max2, f_lens, f_lent, eqD_int, eqD_str, eqD_bl, P64, and_self, and_true, true_and, or_true, true_or, Int.reduceLT, Int.reduceEq, Int.reduceLE, Int.reduceNeg, Int.reduceToNat, decide_eq_true_eq, decide_true, decide_false, if_true, if_false, ite_true, ite_false, b__law_odd, words_big, e1, e2, ix_r, rd, es, sPart, opSl]
    exact scal (o2 s hs) rfl rfl (by omega) (by omega)
  · rw [r10]
    have hm : ∀ g, hasM .upper g (.str s) = true := fun _ => rfl
    have em : ∀ g, evM .upper (.str s) [] g = .ok (.str (s.map upC)) g := fun g => if_pos ⟨hasc, l3⟩
    simp only [e_con, e_loc, e_bin, e_neg, e_cmp, e_chain, e_and, e_or, e_not, e_ite, e_call, e_kcall, e_kix, e_blt, e_mth, e_tup, e_lst, e_emp, e_ix, e_slc, e_isi, e_xis, e_xf, e_lc, l_nil, l_cons, t_nil, t_cons, w_val, w_rng, w_enum, w_zip, x_asg, x_asx, x_exp, x_ret, x_ite, x_for, x_whl, x_rse, x_try, x_pass, x_brk, x_cont, x_nil, x_cons, fB_ap, fTs_ap, fE_ap, exH_none, exH_some, exH_nil, gL_some, kN_ok, kN_ex, kB2_ok, kB2_ex, kB1_ok, kB1_ex, kC3_some, kC2_ok, kC2_ex, kC1_ok, kC1_ex, kH3_t, kH3_f, kH2_ok, kH2_ex, kH1_ok, kH1_ex, kA2_t, kA2_f, kA_ok, kA_ex, kO2_t, kO2_f, kO_ok, kO_ex, kNt2_some, kNt_ok, kNt_ex, kI2_t, kI2_f, kI_ok, kI_ex, kCa_ok, kCa_ex, kK2_ok, kK2_ex, kK1_ok, kK1_ex, kX_ok, kX_ex, kBl_ok, kBl_ex, kM3_ok, kM3_ex, kM1_ok, kM1_ex, kT_ok, kT_ex, kLs_ok, kLs_ex, kIx2_ok, kIx2_ex, kIx1_ok, kIx1_ex, kS5_some, kS4_ok, kS4_ex, kS3_some, kS2_ok, kS2_ex, kS1_ok, kS1_ex, kIs_ok, kIs_ex, gXi_some, gXf_some, kE2_ok, kE2_ex, kE1_ok, kE1_ex, kTs2_t, kTs2_f, kTs_ok, kTs_ex, kW_ok, kW_ex, kWr_ok, kWr_ex, kWe_ok, kWe_ex, wz_some, kWz2_ok, kWz2_ex, kWz1_ok, kWz1_ex, kLc2_ok, kLc2_ex, kLc_ok, kLc_ex, kAs2_some, kAs_ok, kAs_ex, kAx3_ok, kAx3_ex, kAx2_ok, kAx2_ex, kAx1_ok, kAx1_ex, kEx_ok, kEx_ex, kRt_ok, kRt_ex, kIt2_t, kIt2_f, kIt_ok, kIt_ex, kFo_ok, kFo_ex, kRs_ok, kRs_ex, kF1_some, kWh1_t, kWh1_f, kWh1_ex, kSq_nx, kSq_ct, kSq_bk, kSq_rt, kSq_ex, kTr_nx, kTr_ct, kTr_bk, kTr_rt, kTr_ex, kF2_nx, kF2_ct, kF2_bk, kF2_rt, kF2_ex, kWh2_nx, kWh2_ct, kWh2_bk, kWh2_rt, kWh2_ex, fin_nx, fin_nx, fin_rt, fin_ex, su_nx, su_bk, su_ct, su_rt, Res.bind_ok, Res.bind_ex, Res.out_ok, Res.out_ex, lift_some, truthy, bindT, bindTs, List.getElem?_cons_zero, List.getElem?_cons_succ, List.length_cons, List.length_nil, List.set_cons_zero, List.set_cons_succ, Nat.zero_add, Nat.reduceAdd, Nat.reduceLT, Nat.reduceLeDiff, ↓reduceIte, Bool.false_eq_true, Bool.not_true, Bool.not_false, Option.map_some, Option.bind_some, gc_same, gcX_same, LIM, b_add, b_sub, b_mulr, b_mull, b_fdiv, b_mod, b_pow, b_adds, b_addt, c_eq, c_ne, c_lt, c_le, c_gt, c_ge, c_int, c_nint, f_int1, f_abs, f_min2, f_max2, f_lens, f_lent, eqD_int, eqD_str, eqD_bl, P64, and_self, and_true, true_and, or_true, true_or, Int.reduceLT, Int.reduceEq, Int.reduceLE, Int.reduceNeg, Int.reduceToNat, decide_eq_true_eq, decide_true, decide_false, if_true, if_false, ite_true, ite_false, b__law_odd, words_big, e1, e2, ix_r, rd, es, hm, em]
    exact scal (o3 s hs) rfl rfl (by omega) (by omega)
  · rw [r10]
    simp only [e_con, e_loc, e_bin, e_neg, e_cmp, e_chain, e_and, e_or, e_not, e_ite, e_call, e_kcall, e_kix, e_blt, e_mth, e_tup, e_lst, e_emp, e_ix, e_slc, e_isi, e_xis, e_xf, e_lc, l_nil, l_cons, t_nil, t_cons, w_val, w_rng, w_enum, w_zip, x_asg, x_asx, x_exp, x_ret, x_ite, x_for, x_whl, x_rse, x_try, x_pass, x_brk, x_cont, x_nil, x_cons, fB_ap, fTs_ap, fE_ap, exH_none, exH_some, exH_nil, gL_some, kN_ok, kN_ex, kB2_ok, kB2_ex, kB1_ok, kB1_ex, kC3_some, kC2_ok, kC2_ex, kC1_ok, kC1_ex, kH3_t, kH3_f, kH2_ok, kH2_ex, kH1_ok, kH1_ex, kA2_t, kA2_f, kA_ok, kA_ex, kO2_t, kO2_f, kO_ok, kO_ex, kNt2_some, kNt_ok, kNt_ex, kI2_t, kI2_f, kI_ok, kI_ex, kCa_ok, kCa_ex, kK2_ok, kK2_ex, kK1_ok, kK1_ex, kX_ok, kX_ex, kBl_ok, kBl_ex, kM3_ok, kM3_ex, kM1_ok, kM1_ex, kT_ok, kT_ex, kLs_ok, kLs_ex, kIx2_ok, kIx2_ex, kIx1_ok, kIx1_ex, kS5_some, kS4_ok, kS4_ex, kS3_some, kS2_ok, kS2_ex, kS1_ok, kS1_ex, kIs_ok, kIs_ex, gXi_some, gXf_some, kE2_ok, kE2_ex, kE1_ok, kE1_ex, kTs2_t, kTs2_f, kTs_ok, kTs_ex, kW_ok, kW_ex, kWr_ok, kWr_ex, kWe_ok, kWe_ex, wz_some, kWz2_ok, kWz2_ex, kWz1_ok, kWz1_ex, kLc2_ok, kLc2_ex, kLc_ok, kLc_ex, kAs2_some, kAs_ok, kAs_ex, kAx3_ok, kAx3_ex, kAx2_ok, kAx2_ex, kAx1_ok, kAx1_ex, kEx_ok, kEx_ex, kRt_ok, kRt_ex, kIt2_t, kIt2_f, kIt_ok, kIt_ex, kFo_ok, kFo_ex, kRs_ok, kRs_ex, kF1_some, kWh1_t, kWh1_f, kWh1_ex, kSq_nx, kSq_ct, kSq_bk, kSq_rt, kSq_ex, kTr_nx, kTr_ct, kTr_bk, kTr_rt, kTr_ex, kF2_nx, kF2_ct, kF2_bk, kF2_rt, kF2_ex, kWh2_nx, kWh2_ct, kWh2_bk, kWh2_rt, kWh2_ex, fin_nx, fin_nx, fin_rt, fin_ex, su_nx, su_bk, su_ct, su_rt, Res.bind_ok, Res.bind_ex, Res.out_ok, Res.out_ex, lift_some, truthy, bindT, bindTs, List.getElem?_cons_zero, List.getElem?_cons_succ, List.length_cons, List.length_nil, List.set_cons_zero, List.set_cons_succ, Nat.zero_add, Nat.reduceAdd, Nat.reduceLT, Nat.reduceLeDiff, ↓reduceIte, Bool.false_eq_true, Bool.not_true, Bool.not_false, Option.map_some, Option.bind_some, gc_same, gcX_same, LIM, b_add, b_sub, b_mulr, b_mull, b_fdiv, b_mod, b_pow, b_adds, b_addt, c_eq, c_ne, c_lt, c_le, c_gt, c_ge, c_int, c_nint, f_int1, f_abs, f_min2, f_max2, f_lens, f_lent, eqD_int, eqD_str, eqD_bl, P64, and_self, and_true, true_and, or_true, true_or, Int.reduceLT, Int.reduceEq, Int.reduceLE, Int.reduceNeg, Int.reduceToNat, decide_eq_true_eq, decide_true, decide_false, if_true, if_false, ite_true, ite_false, b__law_odd, words_big, e1, e2, ix_r, rd, es, l2]
    exact scal (o4 s hs) rfl rfl (by omega) (by omega)
  · obtain ⟨v3, a3, b3, e3, _, _⟩ := pull_big k hp3 (L := 7) (by omega) (by omega) (by omega) (by omega)
    rw [set_app (by rw [List.length_set]; exact hlt), set_set] at e3
    rw [r10]
    simp only [e_con, e_loc, e_bin, e_neg, e_cmp, e_chain, e_and, e_or, e_not, e_ite, e_call, e_kcall, e_kix, e_blt, e_mth, e_tup, e_lst, e_emp, e_ix, e_slc, e_isi, e_xis, e_xf, e_lc, l_nil, l_cons, t_nil, t_cons, w_val, w_rng, w_enum, w_zip, x_asg, x_asx, x_exp, x_ret, x_ite, x_for, x_whl, x_rse, x_try, x_pass, x_brk, x_cont, x_nil, x_cons, fB_ap, fTs_ap, fE_ap, exH_none, exH_some, exH_nil, gL_some, kN_ok, kN_ex, kB2_ok, kB2_ex, kB1_ok, kB1_ex, kC3_some, kC2_ok, kC2_ex, kC1_ok, kC1_ex, kH3_t, kH3_f, kH2_ok, kH2_ex, kH1_ok, kH1_ex, kA2_t, kA2_f, kA_ok, kA_ex, kO2_t, kO2_f, kO_ok, kO_ex, kNt2_some, kNt_ok, kNt_ex, kI2_t, kI2_f, kI_ok, kI_ex, kCa_ok, kCa_ex, kK2_ok, kK2_ex, kK1_ok, kK1_ex, kX_ok, kX_ex, kBl_ok, kBl_ex, kM3_ok, kM3_ex, kM1_ok, kM1_ex, kT_ok, kT_ex, kLs_ok, kLs_ex, kIx2_ok, kIx2_ex, kIx1_ok, kIx1_ex, kS5_some, kS4_ok, kS4_ex, kS3_some, kS2_ok, kS2_ex, kS1_ok, kS1_ex, kIs_ok, kIs_ex, gXi_some, gXf_some, kE2_ok, kE2_ex, kE1_ok, kE1_ex, kTs2_t, kTs2_f, kTs_ok, kTs_ex, kW_ok, kW_ex, kWr_ok, kWr_ex, kWe_ok, kWe_ex, wz_some, kWz2_ok, kWz2_ex, kWz1_ok, kWz1_ex, kLc2_ok, kLc2_ex, kLc_ok, kLc_ex, kAs2_some, kAs_ok, kAs_ex, kAx3_ok, kAx3_ex, kAx2_ok, kAx2_ex, kAx1_ok, kAx1_ex, kEx_ok, kEx_ex, kRt_ok, kRt_ex, kIt2_t, kIt2_f, kIt_ok, kIt_ex, kFo_ok, kFo_ex, kRs_ok, kRs_ex, kF1_some, kWh1_t, kWh1_f, kWh1_ex, kSq_nx, kSq_ct, kSq_bk, kSq_rt, kSq_ex, kTr_nx, kTr_ct, kTr_bk, kTr_rt, kTr_ex, kF2_nx, kF2_ct, kF2_bk, kF2_rt, kF2_ex, kWh2_nx, kWh2_ct, kWh2_bk, kWh2_rt, kWh2_ex, fin_nx, fin_nx, fin_rt, fin_ex, su_nx, su_bk, su_ct, su_rt, Res.bind_ok, Res.bind_ex, Res.out_ok, Res.out_ex, lift_some, truthy, bindT, bindTs, List.getElem?_cons_zero, List.getElem?_cons_succ, List.length_cons, List.length_nil, List.set_cons_zero, List.set_cons_succ, Nat.zero_add, Nat.reduceAdd, Nat.reduceLT, Nat.reduceLeDiff, ↓reduceIte, Bool.false_eq_true, Bool.not_true, Bool.not_false, Option.map_some, Option.bind_some, gc_same, gcX_same, LIM, b_add, b_sub, b_mulr, b_mull, b_fdiv, b_mod, b_pow, b_adds, b_addt, c_eq, c_ne, c_lt, c_le, c_gt, c_ge, c_int, c_nint, f_int1, f_abs, f_min2, f_max2, f_lens, f_lent, eqD_int, eqD_str, eqD_bl, P64, and_self, and_true, true_and, or_true, true_or, Int.reduceLT, Int.reduceEq, Int.reduceLE, Int.reduceNeg, Int.reduceToNat, decide_eq_true_eq, decide_true, decide_false, if_true, if_false, ite_true, ite_false, b__law_odd, words_big, e1, e2, e3, ix_r, rd, es]
    exact scal rfl rfl rfl (by omega) (by omega)
  · rw [r10]
    simp only [e_con, e_loc, e_bin, e_neg, e_cmp, e_chain, e_and, e_or, e_not, e_ite, e_call, e_kcall, e_kix, e_blt, e_mth, e_tup, e_lst, e_emp, e_ix, e_slc, e_isi, e_xis, e_xf, e_lc, l_nil, l_cons, t_nil, t_cons, w_val, w_rng, w_enum, w_zip, x_asg, x_asx, x_exp, x_ret, x_ite, x_for, x_whl, x_rse, x_try, x_pass, x_brk, x_cont, x_nil, x_cons, fB_ap, fTs_ap, fE_ap, exH_none, exH_some, exH_nil, gL_some, kN_ok, kN_ex, kB2_ok, kB2_ex, kB1_ok, kB1_ex, kC3_some, kC2_ok, kC2_ex, kC1_ok, kC1_ex, kH3_t, kH3_f, kH2_ok, kH2_ex, kH1_ok, kH1_ex, kA2_t, kA2_f, kA_ok, kA_ex, kO2_t, kO2_f, kO_ok, kO_ex, kNt2_some, kNt_ok, kNt_ex, kI2_t, kI2_f, kI_ok, kI_ex, kCa_ok, kCa_ex, kK2_ok, kK2_ex, kK1_ok, kK1_ex, kX_ok, kX_ex, kBl_ok, kBl_ex, kM3_ok, kM3_ex, kM1_ok, kM1_ex, kT_ok, kT_ex, kLs_ok, kLs_ex, kIx2_ok, kIx2_ex, kIx1_ok, kIx1_ex, kS5_some, kS4_ok, kS4_ex, kS3_some, kS2_ok, kS2_ex, kS1_ok, kS1_ex, kIs_ok, kIs_ex, gXi_some, gXf_some, kE2_ok, kE2_ex, kE1_ok, kE1_ex, kTs2_t, kTs2_f, kTs_ok, kTs_ex, kW_ok, kW_ex, kWr_ok, kWr_ex, kWe_ok, kWe_ex, wz_some, kWz2_ok, kWz2_ex, kWz1_ok, kWz1_ex, kLc2_ok, kLc2_ex, kLc_ok, kLc_ex, kAs2_some, kAs_ok, kAs_ex, kAx3_ok, kAx3_ex, kAx2_ok, kAx2_ex, kAx1_ok, kAx1_ex, kEx_ok, kEx_ex, kRt_ok, kRt_ex, kIt2_t, kIt2_f, kIt_ok, kIt_ex, kFo_ok, kFo_ex, kRs_ok, kRs_ex, kF1_some, kWh1_t, kWh1_f, kWh1_ex, kSq_nx, kSq_ct, kSq_bk, kSq_rt, kSq_ex, kTr_nx, kTr_ct, kTr_bk, kTr_rt, kTr_ex, kF2_nx, kF2_ct, kF2_bk, kF2_rt, kF2_ex, kWh2_nx, kWh2_ct, kWh2_bk, kWh2_rt, kWh2_ex, fin_nx, fin_nx, fin_rt, fin_ex, su_nx, su_bk, su_ct, su_rt, Res.bind_ok, Res.bind_ex, Res.out_ok, Res.out_ex, lift_some, truthy, bindT, bindTs, List.getElem?_cons_zero, List.getElem?_cons_succ, List.length_cons, List.length_nil, List.set_cons_zero, List.set_cons_succ, Nat.zero_add, Nat.reduceAdd, Nat.reduceLT, Nat.reduceLeDiff, ↓reduceIte, Bool.false_eq_true, Bool.not_true, Bool.not_false, Option.map_some, Option.bind_some, gc_same, gcX_same, LIM, b_add, b_sub, b_mulr, b_mull, b_fdiv, b_mod, b_pow, b_adds, b_addt, c_eq, c_ne, c_lt, c_le, c_gt, c_ge, c_int, c_nint, f_int1, f_abs, f_min2, f_max2, f_lens, f_lent, eqD_int, eqD_str, eqD_bl, P64, and_self, and_true, true_and, or_true, true_or, Int.reduceLT, Int.reduceEq, Int.reduceLE, Int.reduceNeg, Int.reduceToNat, decide_eq_true_eq, decide_true, decide_false, if_true, if_false, ite_true, ite_false, b__law_odd, words_big, e1, e2, ix_r, rd, es]
    exact scal rfl rfl rfl (by omega) (by omega)
  · rw [r10]
    simp only [e_con, e_loc, e_bin, e_neg, e_cmp, e_chain, e_and, e_or, e_not, e_ite, e_call, e_kcall, e_kix, e_blt, e_mth, e_tup, e_lst, e_emp, e_ix, e_slc, e_isi, e_xis, e_xf, e_lc, l_nil, l_cons, t_nil, t_cons, w_val, w_rng, w_enum, w_zip, x_asg, x_asx, x_exp, x_ret, x_ite, x_for, x_whl, x_rse, x_try, x_pass, x_brk, x_cont, x_nil, x_cons, fB_ap, fTs_ap, fE_ap, exH_none, exH_some, exH_nil, gL_some, kN_ok, kN_ex, kB2_ok, kB2_ex, kB1_ok, kB1_ex, kC3_some, kC2_ok, kC2_ex, kC1_ok, kC1_ex, kH3_t, kH3_f, kH2_ok, kH2_ex, kH1_ok, kH1_ex, kA2_t, kA2_f, kA_ok, kA_ex, kO2_t, kO2_f, kO_ok, kO_ex, kNt2_some, kNt_ok, kNt_ex, kI2_t, kI2_f, kI_ok, kI_ex, kCa_ok, kCa_ex, kK2_ok, kK2_ex, kK1_ok, kK1_ex, kX_ok, kX_ex, kBl_ok, kBl_ex, kM3_ok, kM3_ex, kM1_ok, kM1_ex, kT_ok, kT_ex, kLs_ok, kLs_ex, kIx2_ok, kIx2_ex, kIx1_ok, kIx1_ex, kS5_some, kS4_ok, kS4_ex, kS3_some, kS2_ok, kS2_ex, kS1_ok, kS1_ex, kIs_ok, kIs_ex, gXi_some, gXf_some, kE2_ok, kE2_ex, kE1_ok, kE1_ex, kTs2_t, kTs2_f, kTs_ok, kTs_ex, kW_ok, kW_ex, kWr_ok, kWr_ex, kWe_ok, kWe_ex, wz_some, kWz2_ok, kWz2_ex, kWz1_ok, kWz1_ex, kLc2_ok, kLc2_ex, kLc_ok, kLc_ex, kAs2_some, kAs_ok, kAs_ex, kAx3_ok, kAx3_ex, kAx2_ok, kAx2_ex, kAx1_ok, kAx1_ex, kEx_ok, kEx_ex, kRt_ok, kRt_ex, kIt2_t, kIt2_f, kIt_ok, kIt_ex, kFo_ok, kFo_ex, kRs_ok, kRs_ex, kF1_some, kWh1_t, kWh1_f, kWh1_ex, kSq_nx, kSq_ct, kSq_bk, kSq_rt, kSq_ex, kTr_nx, kTr_ct, kTr_bk, kTr_rt, kTr_ex, kF2_nx, kF2_ct, kF2_bk, kF2_rt, kF2_ex, kWh2_nx, kWh2_ct, kWh2_bk, kWh2_rt, kWh2_ex, fin_nx, fin_nx, fin_rt, fin_ex, su_nx, su_bk, su_ct, su_rt, Res.bind_ok, Res.bind_ex, Res.out_ok, Res.out_ex, lift_some, truthy, bindT, bindTs, List.getElem?_cons_zero, List.getElem?_cons_succ, List.length_cons, List.length_nil, List.set_cons_zero, List.set_cons_succ, Nat.zero_add, Nat.reduceAdd, Nat.reduceLT, Nat.reduceLeDiff, ↓reduceIte, Bool.false_eq_true, Bool.not_true, Bool.not_false, Option.map_some, Option.bind_some, gc_same, gcX_same, LIM, b_add, b_sub, b_mulr, b_mull, b_fdiv, b_mod, b_pow, b_adds, b_addt, c_eq, c_ne, c_lt, c_le, c_gt, c_ge, c_int, c_nint, f_int1, f_abs, f_min2, f_max2, f_lens, f_lent, eqD_int, eqD_str, eqD_bl, P64, and_self, and_true, true_and, or_true, true_or, Int.reduceLT, Int.reduceEq, Int.reduceLE, Int.reduceNeg, Int.reduceToNat, decide_eq_true_eq, decide_true, decide_false, if_true, if_false, ite_true, ite_false, b__law_odd, words_big, e1, e2, ix_r, rd, es]
    exact scal rfl rfl rfl (by omega) (by omega)
  · rw [r10]
    simp only [e_con, e_loc, e_bin, e_neg, e_cmp, e_chain, e_and, e_or, e_not, e_ite, e_call, e_kcall, e_kix, e_blt, e_mth, e_tup, e_lst, e_emp, e_ix, e_slc, e_isi, e_xis, e_xf, e_lc, l_nil, l_cons, t_nil, t_cons, w_val, w_rng, w_enum, w_zip, x_asg, x_asx, x_exp, x_ret, x_ite, x_for, x_whl, x_rse, x_try, x_pass, x_brk, x_cont, x_nil, x_cons, fB_ap, fTs_ap, fE_ap, exH_none, exH_some, exH_nil, gL_some, kN_ok, kN_ex, kB2_ok, kB2_ex, kB1_ok, kB1_ex, kC3_some, kC2_ok, kC2_ex, kC1_ok, kC1_ex, kH3_t, kH3_f, kH2_ok, kH2_ex, kH1_ok, kH1_ex, kA2_t, kA2_f, kA_ok, kA_ex, kO2_t, kO2_f, kO_ok, kO_ex, kNt2_some, kNt_ok, kNt_ex, kI2_t, kI2_f, kI_ok, kI_ex, kCa_ok, kCa_ex, kK2_ok, kK2_ex, kK1_ok, kK1_ex, kX_ok, kX_ex, kBl_ok, kBl_ex, kM3_ok, kM3_ex, kM1_ok, kM1_ex, kT_ok, kT_ex, kLs_ok, kLs_ex, kIx2_ok, kIx2_ex, kIx1_ok, kIx1_ex, kS5_some, kS4_ok, kS4_ex, kS3_some, kS2_ok, kS2_ex, kS1_ok, kS1_ex, kIs_ok, kIs_ex, gXi_some, gXf_some, kE2_ok, kE2_ex, kE1_ok, kE1_ex, kTs2_t, kTs2_f, kTs_ok, kTs_ex, kW_ok, kW_ex, kWr_ok, kWr_ex, kWe_ok, kWe_ex, wz_some, kWz2_ok, kWz2_ex, kWz1_ok, kWz1_ex, kLc2_ok, kLc2_ex, kLc_ok, kLc_ex, kAs2_some, kAs_ok, kAs_ex, kAx3_ok, kAx3_ex, kAx2_ok, kAx2_ex, kAx1_ok, kAx1_ex, kEx_ok, kEx_ex, kRt_ok, kRt_ex, kIt2_t, kIt2_f, kIt_ok, kIt_ex, kFo_ok, kFo_ex, kRs_ok, kRs_ex, kF1_some, kWh1_t, kWh1_f, kWh1_ex, kSq_nx, kSq_ct, kSq_bk, kSq_rt, kSq_ex, kTr_nx, kTr_ct, kTr_bk, kTr_rt, kTr_ex, kF2_nx, kF2_ct, kF2_bk, kF2_rt, kF2_ex, kWh2_nx, kWh2_ct, kWh2_bk, kWh2_rt, kWh2_ex, fin_nx, fin_nx, fin_rt, fin_ex, su_nx, su_bk, su_ct, su_rt, Res.bind_ok, Res.bind_ex, Res.out_ok, Res.out_ex, lift_some, truthy, bindT, bindTs, List.getElem?_cons_zero, List.getElem?_cons_succ, List.length_cons, List.length_nil, List.set_cons_zero, List.set_cons_succ, Nat.zero_add, Nat.reduceAdd, Nat.reduceLT, Nat.reduceLeDiff, ↓reduceIte, Bool.false_eq_true, Bool.not_true, Bool.not_false, Option.map_some, Option.bind_some, gc_same, gcX_same, LIM, b_add, b_sub, b_mulr, b_mull, b_fdiv, b_mod, b_pow, b_adds, b_addt, c_eq, c_ne, c_lt, c_le, c_gt, c_ge, c_int, c_nint, f_int1, f_abs, f_min2, f_max2, f_lens, f_lent, eqD_int, eqD_str, eqD_bl, P64, and_self, and_true, true_and, or_true, true_or, Int.reduceLT, Int.reduceEq, Int.reduceLE, Int.reduceNeg, Int.reduceToNat, decide_eq_true_eq, decide_true, decide_false, if_true, if_false, ite_true, ite_false, b__law_odd, words_big, e1, e2, ix_r, rd, es, List.length_append, len_set]
    refine ⟨.ref h.length, a2, b2, c + 1 + 1, [.lst [.str s, .str s]], ?_, by omega, by omega, .inr ⟨rfl, _, rfl, .inl ⟨s, rfl⟩⟩⟩
    rw [List.append_assoc]
    exact gc_set_new (cl _ _ _) sapp_at1 (by omega) rfl
  · rw [r10]
    simp only [e_con, e_loc, e_bin, e_neg, e_cmp, e_chain, e_and, e_or, e_not, e_ite, e_call, e_kcall, e_kix, e_blt, e_mth, e_tup, e_lst, e_emp, e_ix, e_slc, e_isi, e_xis, e_xf, e_lc, l_nil, l_cons, t_nil, t_cons, w_val, w_rng, w_enum, w_zip, x_asg, x_asx, x_exp, x_ret, x_ite, x_for, x_whl, x_rse, x_try, x_pass, x_brk, x_cont, x_nil, x_cons, fB_ap, fTs_ap, fE_ap, exH_none, exH_some, exH_nil, gL_some, kN_ok, kN_ex, kB2_ok, kB2_ex, kB1_ok, kB1_ex, kC3_some, kC2_ok, kC2_ex, kC1_ok, kC1_ex, kH3_t, kH3_f, kH2_ok, kH2_ex, kH1_ok, kH1_ex, kA2_t, kA2_f, kA_ok, kA_ex, kO2_t, kO2_f, kO_ok, kO_ex, kNt2_some, kNt_ok, kNt_ex, kI2_t, kI2_f, kI_ok, kI_ex, kCa_ok, kCa_ex, kK2_ok, kK2_ex, kK1_ok, kK1_ex, kX_ok, kX_ex, kBl_ok, kBl_ex, kM3_ok, kM3_ex, kM1_ok, kM1_ex, kT_ok, kT_ex, kLs_ok, kLs_ex, kIx2_ok, kIx2_ex, kIx1_ok, kIx1_ex, kS5_some, kS4_ok, kS4_ex, kS3_some, kS2_ok, kS2_ex, kS1_ok, kS1_ex, kIs_ok, kIs_ex, gXi_some, gXf_some, kE2_ok, kE2_ex, kE1_ok, kE1_ex, kTs2_t, kTs2_f, kTs_ok, kTs_ex, kW_ok, kW_ex, kWr_ok, kWr_ex, kWe_ok, kWe_ex, wz_some, kWz2_ok, kWz2_ex, kWz1_ok, kWz1_ex, kLc2_ok, kLc2_ex, kLc_ok, kLc_ex, kAs2_some, kAs_ok, kAs_ex, kAx3_ok, kAx3_ex, kAx2_ok, kAx2_ex, kAx1_ok, kAx1_ex, kEx_ok, kEx_ex, kRt_ok, kRt_ex, kIt2_t, kIt2_f, kIt_ok, kIt_ex, kFo_ok, kFo_ex, kRs_ok, kRs_ex, kF1_some, kWh1_t, kWh1_f, kWh1_ex, kSq_nx, kSq_ct, kSq_bk, kSq_rt, kSq_ex, kTr_nx, kTr_ct, kTr_bk, kTr_rt, kTr_ex, kF2_nx, kF2_ct, kF2_bk, kF2_rt, kF2_ex, kWh2_nx, kWh2_ct, kWh2_bk, kWh2_rt, kWh2_ex, fin_nx, fin_nx, fin_rt, fin_ex, su_nx, su_bk, su_ct, su_rt, Res.bind_ok, Res.bind_ex, Res.out_ok, Res.out_ex, lift_some, truthy, bindT, bindTs, List.getElem?_cons_zero, List.getElem?_cons_succ, List.length_cons, List.length_nil, List.set_cons_zero, List.set_cons_succ, Nat.zero_add, Nat.reduceAdd, Nat.reduceLT, Nat.reduceLeDiff, ↓reduceIte, Bool.false_eq_true, Bool.not_true, Bool.not_false, Option.map_some, Option.bind_some, gc_same, gcX_same, LIM, b_add, b_sub, b_mulr, b_mull, b_fdiv, b_mod, b_pow, b_adds, b_addt, c_eq, c_ne, c_lt, c_le, c_gt, c_ge, c_int, c_nint, f_int1, f_abs, f_min2, f_max2, f_lens, f_lent, eqD_int, eqD_str, eqD_bl, P64, and_self, and_true, true_and, or_true, true_or, Int.reduceLT, Int.reduceEq, Int.reduceLE, Int.reduceNeg, Int.reduceToNat, decide_eq_true_eq, decide_true, decide_false, if_true, if_false, ite_true, ite_false, b__law_odd, words_big, e1, e2, ix_r, rd, es, List.length_append, len_set]
    refine ⟨.ref h.length, a2, b2, c + 1 + 1, [.dct []], ?_, by omega, by omega, .inr ⟨rfl, _, rfl, .inr rfl⟩⟩
    rw [List.append_assoc]
    exact gc_set_new (cl _ _ _) sapp_at1 (by omega) rfl
  · obtain ⟨v3, a3, b3, e3, _, _⟩ := pull_big k hp3 (L := 2) (by omega) (by omega) (by omega) (by omega)
    rw [set_app (by rw [List.length_set]; exact hlt), set_set] at e3
    rw [r10]
    simp only [e_con, e_loc, e_bin, e_neg, e_cmp, e_chain, e_and, e_or, e_not, e_ite, e_call, e_kcall, e_kix, e_blt, e_mth, e_tup, e_lst, e_emp, e_ix, e_slc, e_isi, e_xis, e_xf, e_lc, l_nil, l_cons, t_nil, t_cons, w_val, w_rng, w_enum, w_zip, x_asg, x_asx, x_exp, x_ret, x_ite, x_for, x_whl, x_rse, x_try, x_pass, x_brk, x_cont, x_nil, x_cons, fB_ap, fTs_ap, fE_ap, exH_none, exH_some, exH_nil, gL_some, kN_ok, kN_ex, kB2_ok, kB2_ex, kB1_ok, kB1_ex, kC3_some, kC2_ok, kC2_ex, kC1_ok, kC1_ex, kH3_t, kH3_f, kH2_ok, kH2_ex, kH1_ok, kH1_ex, kA2_t, kA2_f, kA_ok, kA_ex, kO2_t, kO2_f, kO_ok, kO_ex, kNt2_some, kNt_ok, kNt_ex, kI2_t, kI2_f, kI_ok, kI_ex, kCa_ok, kCa_ex, kK2_ok, kK2_ex, kK1_ok, kK1_ex, kX_ok, kX_ex, kBl_ok, kBl_ex, kM3_ok, kM3_ex, kM1_ok, kM1_ex, kT_ok, kT_ex, kLs_ok, kLs_ex, kIx2_ok, kIx2_ex, kIx1_ok, kIx1_ex, kS5_some, kS4_ok, kS4_ex, kS3_some, kS2_ok, kS2_ex, kS1_ok, kS1_ex, kIs_ok, kIs_ex, gXi_some, gXf_some, kE2_ok, kE2_ex, kE1_ok, kE1_ex, kTs2_t, kTs2_f, kTs_ok, kTs_ex, kW_ok, kW_ex, kWr_ok, kWr_ex, kWe_ok, kWe_ex, wz_some, kWz2_ok, kWz2_ex, kWz1_ok, kWz1_ex, kLc2_ok, kLc2_ex, kLc_ok, kLc_ex, kAs2_some, kAs_ok, kAs_ex, kAx3_ok, kAx3_ex, kAx2_ok, kAx2_ex, kAx1_ok, kAx1_ex, kEx_ok, kEx_ex, kRt_ok, kRt_ex, kIt2_t, kIt2_f, kIt_ok, kIt_ex, kFo_ok, kFo_ex, kRs_ok, kRs_ex, kF1_some, kWh1_t, kWh1_f, kWh1_ex, kSq_nx, kSq_ct, kSq_bk, kSq_rt, kSq_ex, kTr_nx, kTr_ct, kTr_bk, kTr_rt, kTr_ex, kF2_nx, kF2_ct, kF2_bk, kF2_rt, kF2_ex, kWh2_nx, kWh2_ct, kWh2_bk, kWh2_rt, kWh2_ex, fin_nx, fin_nx, fin_rt, fin_ex, su_nx, su_bk, su_ct, su_rt, Res.bind_ok, Res.bind_ex, Res.out_ok, Res.out_ex, lift_some, truthy, bindT, bindTs, List.getElem?_cons_zero, List.getElem?_cons_succ, List.length_cons, List.length_nil, List.set_cons_zero, List.set_cons_succ, Nat.zero_add, Nat.reduceAdd, Nat.reduceLT, Nat.reduceLeDiff, ↓reduceIte, Bool.false_eq_true, Bool.not_true, Bool.not_false, Option.map_some, Option.bind_some, gc_same, gcX_same, LIM, b_add, b_sub, b_mulr, b_mull, b_fdiv, b_mod, b_pow, b_adds, b_addt, c_eq, c_ne, c_lt, c_le, c_gt, c_ge, c_int, c_nint, f_int1, f_abs, f_min2, f_max2, f_lens, f_lent, eqD_int, eqD_str, eqD_bl, P64, and_self, and_true, true_and, or_true, true_or, Int.reduceLT, Int.reduceEq, Int.reduceLE, Int.reduceNeg, Int.reduceToNat, decide_eq_true_eq, decide_true, decide_false, if_true, if_false, ite_true, ite_false, b__law_odd, words_big, e1, e2, e3, ix_r, rd, es]
    exact scal rfl rfl rfl (by omega) (by omega)

/-! tables -/
def stL : List D → List (List Nat)
  | .str s :: l => s :: stL l
  | _ => []
def lstOf (r : Res D) : List D := match r with
  | .ok (.ref 0) [.lst xs] => xs
  | .ok (.tup xs) [] => xs
  | _ => []
def ab (s : List Nat) : List (List Nat) := stL (lstOf (MP.run pg wf 29 8 [.str s] []))
def ids (s : List Nat) : List (List Nat) := stL (lstOf (MP.run pg wf 29 3 [.str s] []))
theorem tab1 : (W7.all fun s => isOk (MP.run pg wf 29 8 [.str s] []) (.ref 0) [.lst ((ab s).map .str)] && (isOk (MP.run pg wf 29 3 [.str s] []) (.tup ((ids s).map .str)) [] && (isOk (MP.run pg wf 29 9 [.str s] []) (.ref 0) [.lst ((ids s).map .str)] && isOk (MP.run pg wf 1 0 [.str s] []) (.bl true) []))) = true := by decide +kernel
theorem tab2 : (W7.all fun s => W7.all fun t => isOk (MP.run pg wf 29 11 [.str s, .str t] []) (.bl ((ab s).contains t)) [] && isOk (MP.run pg wf 29 2 [.str s, .str t] []) (.bl ((ab s).contains t)) []) = true := by decide +kernel
theorem nrS : ∀ l : List (List Nat), D.nrL (l.map .str) = true
  | [] => rfl
  | s :: l => by rw [List.map_cons, D.nrL, nrS l]; rfl
theorem above_big {s : List Nat} (hs : s ∈ W7) (h : HP) : MP.run pg wf 29 8 [.str s] h = .ok (.ref h.length) (h ++ [.lst ((ab s).map .str)]) := by
  have := List.all_eq_true.mp tab1 s hs
  rw [Bool.and_eq_true] at this
  exact call_list nr rfl (nrS _) (isOk_iff this.1) h
theorem ids_big {s : List Nat} (hs : s ∈ W7) (h : HP) : MP.run pg wf 29 3 [.str s] h = .ok (.tup ((ids s).map .str)) h := by
  have := List.all_eq_true.mp tab1 s hs
  rw [Bool.and_eq_true, Bool.and_eq_true] at this
  exact call_pure nr rfl (show D.nr (.tup _) = true from nrS _) (isOk_iff this.2.1) h
theorem ids2_big {s : List Nat} (hs : s ∈ W7) (h : HP) : MP.run pg wf 29 9 [.str s] h = .ok (.ref h.length) (h ++ [.lst ((ids s).map .str)]) := by
  have := List.all_eq_true.mp tab1 s hs
  rw [Bool.and_eq_true, Bool.and_eq_true, Bool.and_eq_true] at this
  exact call_list nr rfl (nrS _) (isOk_iff this.2.2.1) h
theorem asked_big {s t : List Nat} (hs : s ∈ W7) (ht : t ∈ W7) (h : HP) : MP.run pg wf 29 11 [.str s, .str t] h = .ok (.bl ((ab s).contains t)) h := by
  have := List.all_eq_true.mp (List.all_eq_true.mp tab2 s hs) t ht
  rw [Bool.and_eq_true] at this
  exact call_pure nr rfl rfl (isOk_iff this.1) h
theorem coarser_big {s t : List Nat} (hs : s ∈ W7) (ht : t ∈ W7) (h : HP) : MP.run pg wf 29 2 [.str s, .str t] h = .ok (.bl ((ab s).contains t)) h := by
  have := List.all_eq_true.mp (List.all_eq_true.mp tab2 s hs) t ht
  rw [Bool.and_eq_true] at this
  exact call_pure nr rfl rfl (isOk_iff this.2) h
theorem r0 (k : Nat) (d : D) (h : HP) : MP.run pg wf (k+1) 0 [d] h = (exL (MP.run pg wf k) sub wf b_is_kind ⟨[some d], none⟩ h).fin h := rfl
theorem kindsC : (D.tup [(.str [97, 108, 108]), (.str [115, 117, 109]), (.str [112, 114, 111, 100, 117, 99, 116]), (.str [98, 111, 116, 104]), (.str [99, 111, 118, 101, 114]), (.str [97, 98, 115, 111, 114, 98]), (.str [108, 97, 116, 116, 105, 99, 101])]) = D.tup (W7.map .str) := rfl
theorem kind_str (k : Nat) (s : List Nat) (h : HP) : MP.run pg wf (k+1) 0 [.str s] h = .ok (.bl (W7.contains s)) h := by
  rw [r0]
  unfold b_is_kind
  rw [kindsC]
  simp only [e_con, e_loc, e_bin, e_neg, e_cmp, e_chain, e_and, e_or, e_not, e_ite, e_call, e_kcall, e_kix, e_blt, e_mth, e_tup, e_lst, e_emp, e_ix, e_slc, e_isi, e_xis, e_xf, e_lc, l_nil, l_cons, t_nil, t_cons, w_val, w_rng, w_enum, w_zip, x_asg, x_asx, x_exp, x_ret, x_ite, x_for, x_whl, x_rse, x_try, x_pass, x_brk, x_cont, x_nil, x_cons, fB_ap, fTs_ap, fE_ap, exH_none, exH_some, exH_nil, gL_some, kN_ok, kN_ex, kB2_ok, kB2_ex, kB1_ok, kB1_ex, kC3_some, kC2_ok, kC2_ex, kC1_ok, kC1_ex, kH3_t, kH3_f, kH2_ok, kH2_ex, kH1_ok, kH1_ex, kA2_t, kA2_f, kA_ok, kA_ex, kO2_t, kO2_f, kO_ok, kO_ex, kNt2_some, kNt_ok, kNt_ex, kI2_t, kI2_f, kI_ok, kI_ex, kCa_ok, kCa_ex, kK2_ok, kK2_ex, kK1_ok, kK1_ex, kX_ok, kX_ex, kBl_ok, kBl_ex, kM3_ok, kM3_ex, kM1_ok, kM1_ex, kT_ok, kT_ex, kLs_ok, kLs_ex, kIx2_ok, kIx2_ex, kIx1_ok, kIx1_ex, kS5_some, kS4_ok, kS4_ex, kS3_some, kS2_ok, kS2_ex, kS1_ok, kS1_ex, kIs_ok, kIs_ex, gXi_some, gXf_some, kE2_ok, kE2_ex, kE1_ok, kE1_ex, kTs2_t, kTs2_f, kTs_ok, kTs_ex, kW_ok, kW_ex, kWr_ok, kWr_ex, kWe_ok, kWe_ex, wz_some, kWz2_ok, kWz2_ex, kWz1_ok, kWz1_ex, kLc2_ok, kLc2_ex, kLc_ok, kLc_ex, kAs2_some, kAs_ok, kAs_ex, kAx3_ok, kAx3_ex, kAx2_ok, kAx2_ex, kAx1_ok, kAx1_ex, kEx_ok, kEx_ex, kRt_ok, kRt_ex, kIt2_t, kIt2_f, kIt_ok, kIt_ex, kFo_ok, kFo_ex, kRs_ok, kRs_ex, kF1_some, kWh1_t, kWh1_f, kWh1_ex, kSq_nx, kSq_ct, kSq_bk, kSq_rt, kSq_ex, kTr_nx, kTr_ct, kTr_bk, kTr_rt, kTr_ex, kF2_nx, kF2_ct, kF2_bk, kF2_rt, kF2_ex, kWh2_nx, kWh2_ct, kWh2_bk, kWh2_rt, kWh2_ex, fin_nx, fin_nx, fin_rt, fin_ex, su_nx, su_bk, su_ct, su_rt, Res.bind_ok, Res.bind_ex, Res.out_ok, Res.out_ex, lift_some, truthy, bindT, bindTs, List.getElem?_cons_zero, List.getElem?_cons_succ, List.length_cons, List.length_nil, List.set_cons_zero, List.set_cons_succ, Nat.zero_add, Nat.reduceAdd, Nat.reduceLT, Nat.reduceLeDiff, ↓reduceIte, Bool.false_eq_true, Bool.not_true, Bool.not_false, Option.map_some, Option.bind_some, gc_same, gcX_same, LIM, b_add, b_sub, b_mulr, b_mull, b_fdiv, b_mod, b_pow, b_adds, b_addt, c_eq, c_ne, c_lt, c_le, c_gt, c_ge, c_int, c_nint, f_int1, f_abs, f_min2, f_max2, f_lens, f_lent, eqD_int, eqD_str, eqD_bl, P64, and_self, and_true, true_and, or_true, true_or, Int.reduceLT, Int.reduceEq, Int.reduceLE, Int.reduceNeg, Int.reduceToNat, decide_eq_true_eq, decide_true, decide_false, if_true, if_false, ite_true, ite_false, dTy, isTy, List.any_cons, List.any_nil, Bool.or_false, Option.isSome_some, memD_strs]
theorem yk {s : List Nat} (hs : s ∈ W7) (h : HP) : Yk h (.str s) := fun k => by
  rw [kind_str]
  congr 2
  simpa using hs
/-- an odd value in its heap -/
def Od (lo : Nat) (h : HP) (d : D) : Prop := (sodd d = true ∧ d.nr = true) ∨ ∃ m o, lo ≤ m ∧ d = .ref m ∧ h[m]? = some o ∧ ((∃ w, o = O.lst [.str w, .str w]) ∨ o = .dct [])
theorem od_nk {lo : Nat} {h : HP} {d : D} (o : Od lo h d) : Nk h d := fun k => by
  rcases o with ⟨h1, h2⟩ | ⟨m, o, _, e, eo, ho⟩
  · cases d with
    | str s =>
      rw [kind_str]
      congr 2
      unfold sodd at h1
      simpa using h1
    | ref _ => cases h1
    | kd _ => cases h1
    | _ =>
      rw [r0]
      simp only [e_con, e_loc, e_bin, e_neg, e_cmp, e_chain, e_and, e_or, e_not, e_ite, e_call, e_kcall, e_kix, e_blt, e_mth, e_tup, e_lst, e_emp, e_ix, e_slc, e_isi, e_xis, e_xf, e_lc, l_nil, l_cons, t_nil, t_cons, w_val, w_rng, w_enum, w_zip, x_asg, x_asx, x_exp, x_ret, x_ite, x_for, x_whl, x_rse, x_try, x_pass, x_brk, x_cont, x_nil, x_cons, fB_ap, fTs_ap, fE_ap, exH_none, exH_some, exH_nil, gL_some, kN_ok, kN_ex, kB2_ok, kB2_ex, kB1_ok, kB1_ex, kC3_some, kC2_ok, kC2_ex, kC1_ok, kC1_ex, kH3_t, kH3_f, kH2_ok, kH2_ex, kH1_ok, kH1_ex, kA2_t, kA2_f, kA_ok, kA_ex, kO2_t, kO2_f, kO_ok, kO_ex, kNt2_some, kNt_ok, kNt_ex, kI2_t, kI2_f, kI_ok, kI_ex, kCa_ok, kCa_ex, kK2_ok, kK2_ex, kK1_ok, kK1_ex, kX_ok, kX_ex, kBl_ok, kBl_ex, kM3_ok, kM3_ex, kM1_ok, kM1_ex, kT_ok, kT_ex, kLs_ok, kLs_ex, kIx2_ok, kIx2_ex, kIx1_ok, kIx1_ex, kS5_some, kS4_ok, kS4_ex, kS3_some, kS2_ok, kS2_ex, kS1_ok, kS1_ex, kIs_ok, kIs_ex, gXi_some, gXf_some, kE2_ok, kE2_ex, kE1_ok, kE1_ex, kTs2_t, kTs2_f, kTs_ok, kTs_ex, kW_ok, kW_ex, kWr_ok, kWr_ex, kWe_ok, kWe_ex, wz_some, kWz2_ok, kWz2_ex, kWz1_ok, kWz1_ex, kLc2_ok, kLc2_ex, kLc_ok, kLc_ex, kAs2_some, kAs_ok, kAs_ex, kAx3_ok, kAx3_ex, kAx2_ok, kAx2_ex, kAx1_ok, kAx1_ex, kEx_ok, kEx_ex, kRt_ok, kRt_ex, kIt2_t, kIt2_f, kIt_ok, kIt_ex, kFo_ok, kFo_ex, kRs_ok, kRs_ex, kF1_some, kWh1_t, kWh1_f, kWh1_ex, kSq_nx, kSq_ct, kSq_bk, kSq_rt, kSq_ex, kTr_nx, kTr_ct, kTr_bk, kTr_rt, kTr_ex, kF2_nx, kF2_ct, kF2_bk, kF2_rt, kF2_ex, kWh2_nx, kWh2_ct, kWh2_bk, kWh2_rt, kWh2_ex, fin_nx, fin_nx, fin_rt, fin_ex, su_nx, su_bk, su_ct, su_rt, Res.bind_ok, Res.bind_ex, Res.out_ok, Res.out_ex, lift_some, truthy, bindT, bindTs, List.getElem?_cons_zero, List.getElem?_cons_succ, List.length_cons, List.length_nil, List.set_cons_zero, List.set_cons_succ, Nat.zero_add, Nat.reduceAdd, Nat.reduceLT, Nat.reduceLeDiff, ↓reduceIte, Bool.false_eq_true, Bool.not_true, Bool.not_false, Option.map_some, Option.bind_some, gc_same, gcX_same, LIM, b_add, b_sub, b_mulr, b_mull, b_fdiv, b_mod, b_pow, b_adds, b_addt, c_eq, c_ne, c_lt, c_le, c_gt, c_ge, c_int, c_nint, f_int1, f_abs, f_min2, f_max2, f_lens, f_lent, eqD_int, eqD_str, eqD_bl, P64, and_self, and_true, true_and, or_true, true_or, Int.reduceLT, Int.reduceEq, Int.reduceLE, Int.reduceNeg, Int.reduceToNat, decide_eq_true_eq, decide_true, decide_false, if_true, if_false, ite_true, ite_false, b_is_kind, dTy, isTy, List.any_cons, List.any_nil, Bool.or_false, Option.isSome_some]
  · subst e
    rw [r0]
    rcases ho with ⟨w, ho⟩ | ho <;> subst ho
    · simp only [e_con, e_loc, e_bin, e_neg, e_cmp, e_chain, e_and, e_or, e_not, e_ite, e_call, e_kcall, e_kix, e_blt, e_mth, e_tup, e_lst, e_emp, e_ix, e_slc, e_isi, e_xis, e_xf, e_lc, l_nil, l_cons, t_nil, t_cons, w_val, w_rng, w_enum, w_zip, x_asg, x_asx, x_exp, x_ret, x_ite, x_for, x_whl, x_rse, x_try, x_pass, x_brk, x_cont, x_nil, x_cons, fB_ap, fTs_ap, fE_ap, exH_none, exH_some, exH_nil, gL_some, kN_ok, kN_ex, kB2_ok, kB2_ex, kB1_ok, kB1_ex, kC3_some, kC2_ok, kC2_ex, kC1_ok, kC1_ex, kH3_t, kH3_f, kH2_ok, kH2_ex, kH1_ok, kH1_ex, kA2_t, kA2_f, kA_ok, kA_ex, kO2_t, kO2_f, kO_ok, kO_ex, kNt2_some, kNt_ok, kNt_ex, kI2_t, kI2_f, kI_ok, kI_ex, kCa_ok, kCa_ex, kK2_ok, kK2_ex, kK1_ok, kK1_ex, kX_ok, kX_ex, kBl_ok, kBl_ex, kM3_ok, kM3_ex, kM1_ok, kM1_ex, kT_ok, kT_ex, kLs_ok, kLs_ex, kIx2_ok, kIx2_ex, kIx1_ok, kIx1_ex, kS5_some, kS4_ok, kS4_ex, kS3_some, kS2_ok, kS2_ex, kS1_ok, kS1_ex, kIs_ok, kIs_ex, gXi_some, gXf_some, kE2_ok, kE2_ex, kE1_ok, kE1_ex, kTs2_t, kTs2_f, kTs_ok, kTs_ex, kW_ok, kW_ex, kWr_ok, kWr_ex, kWe_ok, kWe_ex, wz_some, kWz2_ok, kWz2_ex, kWz1_ok, kWz1_ex, kLc2_ok, kLc2_ex, kLc_ok, kLc_ex, kAs2_some, kAs_ok, kAs_ex, kAx3_ok, kAx3_ex, kAx2_ok, kAx2_ex, kAx1_ok, kAx1_ex, kEx_ok, kEx_ex, kRt_ok, kRt_ex, kIt2_t, kIt2_f, kIt_ok, kIt_ex, kFo_ok, kFo_ex, kRs_ok, kRs_ex, kF1_some, kWh1_t, kWh1_f, kWh1_ex, kSq_nx, kSq_ct, kSq_bk, kSq_rt, kSq_ex, kTr_nx, kTr_ct, kTr_bk, kTr_rt, kTr_ex, kF2_nx, kF2_ct, kF2_bk, kF2_rt, kF2_ex, kWh2_nx, kWh2_ct, kWh2_bk, kWh2_rt, kWh2_ex, fin_nx, fin_nx, fin_rt, fin_ex, su_nx, su_bk, su_ct, su_rt, Res.bind_ok, Res.bind_ex, Res.out_ok, Res.out_ex, lift_some, truthy, bindT, bindTs, List.getElem?_cons_zero, List.getElem?_cons_succ, List.length_cons, List.length_nil, List.set_cons_zero, List.set_cons_succ, Nat.zero_add, Nat.reduceAdd, Nat.reduceLT, Nat.reduceLeDiff, ↓reduceIte, Bool.false_eq_true, Bool.not_true, Bool.not_false, Option.map_some, Option.bind_some, gc_same, gcX_same, LIM, b_add, b_sub, b_mulr, b_mull, b_fdiv, b_mod, b_pow, b_adds, b_addt, c_eq, c_ne, c_lt, c_le, c_gt, c_ge, c_int, c_nint, f_int1, f_abs, f_min2, f_max2, f_lens, f_lent, eqD_int, eqD_str, eqD_bl, P64, and_self, and_true, true_and, or_true, true_or, Int.reduceLT, Int.reduceEq, Int.reduceLE, Int.reduceNeg, Int.reduceToNat, decide_eq_true_eq, decide_true, decide_false, if_true, if_false, ite_true, ite_false, b_is_kind, dTy, isTy, eo, List.any_cons, List.any_nil, Bool.or_false, Option.isSome_some]
    · simp only [e_con, e_loc, e_bin, e_neg, e_cmp, e_chain, e_and, e_or, e_not, e_ite, e_call, e_kcall, e_kix, e_blt, e_mth, e_tup, e_lst, e_emp, e_ix, e_slc, e_isi, e_xis, e_xf, e_lc, l_nil, l_cons, t_nil, t_cons, w_val, w_rng, w_enum, w_zip, x_asg, x_asx, x_exp, x_ret, x_ite, x_for, x_whl, x_rse, x_try, x_pass, x_brk, x_cont, x_nil, x_cons, fB_ap, fTs_ap, fE_ap, exH_none, exH_some, exH_nil, gL_some, kN_ok, kN_ex, kB2_ok, kB2_ex, kB1_ok, kB1_ex, kC3_some, kC2_ok, kC2_ex, kC1_ok, kC1_ex, kH3_t, kH3_f, kH2_ok, kH2_ex, kH1_ok, kH1_ex, kA2_t, kA2_f, kA_ok, kA_ex, kO2_t, kO2_f, kO_ok, kO_ex, kNt2_some, kNt_ok, kNt_ex, kI2_t, kI2_f, kI_ok, kI_ex, kCa_ok, kCa_ex, kK2_ok, kK2_ex, kK1_ok, kK1_ex, kX_ok, kX_ex, kBl_ok, kBl_ex, kM3_ok, kM3_ex, kM1_ok, kM1_ex, kT_ok, kT_ex, kLs_ok, kLs_ex, kIx2_ok, kIx2_ex, kIx1_ok, kIx1_ex, kS5_some, kS4_ok, kS4_ex, kS3_some, kS2_ok, kS2_ex, kS1_ok, kS1_ex, kIs_ok, kIs_ex, gXi_some, gXf_some, kE2_ok, kE2_ex, kE1_ok, kE1_ex, kTs2_t, kTs2_f, kTs_ok, kTs_ex, kW_ok, kW_ex, kWr_ok, kWr_ex, kWe_ok, kWe_ex, wz_some, kWz2_ok, kWz2_ex, kWz1_ok, kWz1_ex, kLc2_ok, kLc2_ex, kLc_ok, kLc_ex, kAs2_some, kAs_ok, kAs_ex, kAx3_ok, kAx3_ex, kAx2_ok, kAx2_ex, kAx1_ok, kAx1_ex, kEx_ok, kEx_ex, kRt_ok, kRt_ex, kIt2_t, kIt2_f, kIt_ok, kIt_ex, kFo_ok, kFo_ex, kRs_ok, kRs_ex, kF1_some, kWh1_t, kWh1_f, kWh1_ex, kSq_nx, kSq_ct, kSq_bk, kSq_rt, kSq_ex, kTr_nx, kTr_ct, kTr_bk, kTr_rt, kTr_ex, kF2_nx, kF2_ct, kF2_bk, kF2_rt, kF2_ex, kWh2_nx, kWh2_ct, kWh2_bk, kWh2_rt, kWh2_ex, fin_nx, fin_nx, fin_rt, fin_ex, su_nx, su_bk, su_ct, su_rt, Res.bind_ok, Res.bind_ex, Res.out_ok, Res.out_ex, lift_some, truthy, bindT, bindTs, List.getElem?_cons_zero, List.getElem?_cons_succ, List.length_cons, List.length_nil, List.set_cons_zero, List.set_cons_succ, Nat.zero_add, Nat.reduceAdd, Nat.reduceLT, Nat.reduceLeDiff, ↓reduceIte, Bool.false_eq_true, Bool.not_true, Bool.not_false, Option.map_some, Option.bind_some, gc_same, gcX_same, LIM, b_add, b_sub, b_mulr, b_mull, b_fdiv, b_mod, b_pow, b_adds, b_addt, c_eq, c_ne, c_lt, c_le, c_gt, c_ge, c_int, c_nint, f_int1, f_abs, f_min2, f_max2, f_lens, f_lent, eqD_int, eqD_str, eqD_bl, P64, and_self, and_true, true_and, or_true, true_or, Int.reduceLT, Int.reduceEq, Int.reduceLE, Int.reduceNeg, Int.reduceToNat, decide_eq_true_eq, decide_true, decide_false, if_true, if_false, ite_true, ite_false, b_is_kind, dTy, isTy, eo, List.any_cons, List.any_nil, Bool.or_false, Option.isSome_some]
theorem odd_od {lo n : Nat} {d : D} {l h : HP} (o : Odd d l n) (hn : lo ≤ n) (hl : ∀ o, l = [o] → h[n]? = some o) : Od lo h d := by
  rcases o with ⟨_, h1, h2⟩ | ⟨e, o, h1, h2⟩
  · exact .inl ⟨h1, h2⟩
  · exact .inr ⟨n, o, hn, e, hl o h1, h2⟩
theorem Od.keep {lo : Nat} {h h' : HP} {d : D} (o : Od lo h d) (k : ∀ m, lo ≤ m → m < h.length → h'[m]? = h[m]?) : Od lo h' d := by
  rcases o with h1 | ⟨m, o, h1, e, eo, ho⟩
  · exact .inl h1
  · exact .inr ⟨m, o, h1, e, by rw [k m h1 (List.getElem?_eq_some_iff.mp eo).1]; exact eo, ho⟩
end K01

end
section
set_option Elab.async false
set_option linter.all false
set_option maxRecDepth 100000
set_option maxHeartbeats 0
namespace K01
open MP
def lbody : SL := match b_law with
  | .cons _ (.cons (.for_ _ _ b) _) => b
  | _ => .nil
def inner : SL := match lbody with
  | .cons _ (.cons _ (.cons _ (.cons (.for_ _ _ b) _))) => b
  | _ => .nil
/-- the pool, the words -/
structure Pw (ns : List Int) (p q : Nat) (g : HP) (ds : List D) (n : Int) : Prop where
  fz : g[0]? = some (.frz (ns.map .int))
  pq : p ≠ q
  p0 : p ≠ 0
  q0 : q ≠ 0
  pl : ∃ a b c, g[p]? = some (O.lst [.int a, .int b, .int c]) ∧ 0 ≤ c ∧ c ≤ n
  ql : g[q]? = some (O.lst ds)
theorem Pw.plt {ns : List Int} {p q : Nat} {g : HP} {ds : List D} {n : Int} (w : Pw ns p q g ds n) : p < g.length := by
  obtain ⟨a, b, c, e, _⟩ := w.pl
  exact (List.getElem?_eq_some_iff.mp e).1
theorem Pw.qlt {ns : List Int} {p q : Nat} {g : HP} {ds : List D} {n : Int} (w : Pw ns p q g ds n) : q < g.length := (List.getElem?_eq_some_iff.mp w.ql).1
theorem Pw.app {ns : List Int} {p q : Nat} {g l : HP} {ds : List D} {n : Int} (w : Pw ns p q g ds n) : Pw ns p q (g ++ l) ds n := by
  have h0 := (List.getElem?_eq_some_iff.mp w.fz).1
  refine ⟨by rw [List.getElem?_append_left h0]; exact w.fz, w.pq, w.p0, w.q0, ?_, by rw [List.getElem?_append_left w.qlt]; exact w.ql⟩
  obtain ⟨a, b, c, e, h1⟩ := w.pl
  exact ⟨a, b, c, by rw [List.getElem?_append_left w.plt]; exact e, h1⟩
theorem Pw.setp {ns : List Int} {p q : Nat} {g : HP} {ds : List D} {n m a b c : Int} (w : Pw ns p q g ds n) (h0 : 0 ≤ c) (h1 : c ≤ m) : Pw ns p q (g.set p (O.lst [.int a, .int b, .int c])) ds m := by
  refine ⟨by rw [List.getElem?_set_ne w.p0]; exact w.fz, w.pq, w.p0, w.q0, ⟨a, b, c, List.getElem?_set_self w.plt, h0, h1⟩, by rw [List.getElem?_set_ne w.pq]; exact w.ql⟩
theorem Pw.setq {ns : List Int} {p q : Nat} {g : HP} {ds es : List D} {n : Int} (w : Pw ns p q g ds n) : Pw ns p q (g.set q (O.lst es)) es n := by
  refine ⟨by rw [List.getElem?_set_ne w.q0]; exact w.fz, w.pq, w.p0, w.q0, ?_, List.getElem?_set_self w.qlt⟩
  obtain ⟨a, b, c, e, h1⟩ := w.pl
  exact ⟨a, b, c, by rw [List.getElem?_set_ne (Ne.symm w.pq)]; exact e, h1⟩
theorem pull_pw (k : Nat) {ns : List Int} {p q : Nat} {g : HP} {ds : List D} {n L : Int} (w : Pw ns p q g ds n) (hn : n < 1000000) (h0 : 0 < L) (h1 : L < 1073741824) : ∃ v o, MP.run pg wf (k+1) 5 [.ref p, .int L] g = .ok (.int v) (g.set p o) ∧ 0 ≤ v ∧ v < L ∧ Pw ns p q (g.set p o) ds (n + 1) := by
  obtain ⟨a, b, c, e, c0, c1⟩ := w.pl
  obtain ⟨v, a', b', e1, v0, v1⟩ := pull_big k e h0 h1 c0 (by omega)
  exact ⟨v, _, e1, v0, v1, w.setp (by omega) (by omega)⟩
theorem odd_pw (k : Nat) {ns : List Int} {p q lo : Nat} {g : HP} {ds : List D} {n : Int} (w : Pw ns p q g ds n) (hn : n < 900000) (hp : p < lo) (hlo : lo ≤ g.length) : ∃ d o l, MP.run pg wf (k+2) 10 [.ref p] g = .ok d (g.set p o ++ l) ∧ Od lo (g.set p o ++ l) d ∧ Pw ns p q (g.set p o ++ l) ds (n + 3) := by
  obtain ⟨a, b, c, e, c0, c1⟩ := w.pl
  obtain ⟨d, a', b', c', l, e1, v0, v1, o⟩ := odd_big k e c0 (by omega)
  refine ⟨d, _, l, e1, odd_od o hlo (fun u hu => ?_), (w.setp v0 (by omega)).app⟩
  subst hu
  rw [sapp_at]
  rfl
/-- one turn of the inner loop -/
theorem turn (ns : List Int) {p q lo : Nat} {g : HP} {ds : List D} {n : Int} (kv : D) (gd : Bool) (i : D) (x6 x7 : Option D) (w : Pw ns p q g ds n) (hn : n < 800000) (hp : p < lo) (hq : q < lo) (hlo : lo ≤ g.length) (hd : ds.length < 16777216) :
    ∃ d g' gd', exL (MP.run pg wf 29) sub wf inner ⟨[some (.ref 0), some kv, some (.ref p), some (.ref q), some (.bl gd), some i, x6, x7], none⟩ g = .nx ⟨[some (.ref 0), some kv, some (.ref p), some (.ref q), some (.bl gd'), some i, x6, x7], none⟩ g' ∧
      Pw ns p q g' (ds ++ [d]) (n + 10) ∧ g.length ≤ g'.length ∧ (∀ m, lo ≤ m → m < g.length → g'[m]? = g[m]?) ∧ ((gd' = gd ∧ ∃ s ∈ W7, d = .str s) ∨ (gd' = false ∧ Od lo g' d)) := by
  obtain ⟨v, o1, e1, v0, v1, w1⟩ := pull_pw 28 w (by omega) (L := 4) (by omega) (by omega)
  by_cases hv : v = 3
  · subst hv
    obtain ⟨d, o2, l, e2, od, w2⟩ := odd_pw 27 w1 (by omega) hp (by rw [len_set]; exact hlo) (lo := lo)
    have hh : hasM .append (g.set p o1) (.ref q) = true := hasM_app w1.ql
    have ha := m_app (d := d) w2.ql hd
    refine ⟨d, ((g.set p o1).set p o2 ++ l).set q (O.lst (ds ++ [d])), false, ?_, ⟨(w2.setq).fz, w2.pq, w2.p0, w2.q0, ?_, (w2.setq).ql⟩, ?_, fun m h1 h2 => ?_, .inr ⟨rfl, od.keep fun m h1 h2 => ?_⟩⟩
    · simp only [e_con, e_loc, e_bin, e_neg, e_cmp, e_chain, e_and, e_or, e_not, e_ite, e_call, e_kcall, e_kix, e_blt, e_mth, e_tup, e_lst, e_emp, e_ix, e_slc, e_isi, e_xis, e_xf, e_lc, l_nil, l_cons, t_nil, t_cons, w_val, w_rng, w_enum, w_zip, x_asg, x_asx, x_exp, x_ret, x_ite, x_for, x_whl, x_rse, x_try, x_pass, x_brk, x_cont, x_nil, x_cons, fB_ap, fTs_ap, fE_ap, exH_none, exH_some, exH_nil, gL_some, kN_ok, kN_ex, kB2_ok, kB2_ex, kB1_ok, kB1_ex, kC3_some, kC2_ok, kC2_ex, kC1_ok, kC1_ex, kH3_t, kH3_f, kH2_ok, kH2_ex, kH1_ok, kH1_ex, kA2_t, kA2_f, kA_ok, kA_ex, kO2_t, kO2_f, kO_ok, kO_ex, kNt2_some, kNt_ok, kNt_ex, kI2_t, kI2_f, kI_ok, kI_ex, kCa_ok, kCa_ex, kK2_ok, kK2_ex, kK1_ok, kK1_ex, kX_ok, kX_ex, kBl_ok, kBl_ex, kM3_ok, kM3_ex, kM1_ok, kM1_ex, kT_ok, kT_ex, kLs_ok, kLs_ex, kIx2_ok, kIx2_ex, kIx1_ok, kIx1_ex, kS5_some, kS4_ok, kS4_ex, kS3_some, kS2_ok, kS2_ex, kS1_ok, kS1_ex, kIs_ok, kIs_ex, gXi_some, gXf_some, kE2_ok, kE2_ex, kE1_ok, kE1_ex, kTs2_t, kTs2_f, kTs_ok, kTs_ex, kW_ok, kW_ex, kWr_ok, kWr_ex, kWe_ok, kWe_ex, wz_some, kWz2_ok, kWz2_ex, kWz1_ok, kWz1_ex, kLc2_ok, kLc2_ex, kLc_ok, kLc_ex, kAs2_some, kAs_ok, kAs_ex, kAx3_ok, kAx3_ex, kAx2_ok, kAx2_ex, kAx1_ok, kAx1_ex, kEx_ok, kEx_ex, kRt_ok, kRt_ex, kIt2_t, kIt2_f, kIt_ok, kIt_ex, kFo_ok, kFo_ex, kRs_ok, kRs_ex, kF1_some, kWh1_t, kWh1_f, kWh1_ex, kSq_nx, kSq_ct, kSq_bk, kSq_rt, kSq_ex, kTr_nx, kTr_ct, kTr_bk, kTr_rt, kTr_ex, kF2_nx, kF2_ct, kF2_bk, kF2_rt, kF2_ex, kWh2_nx, kWh2_ct, kWh2_bk, kWh2_rt, kWh2_ex, fin_nx, fin_nx, fin_rt, fin_ex, su_nx, su_bk, su_ct, su_rt, Res.bind_ok, Res.bind_ex, Res.out_ok, Res.out_ex, lift_some, truthy, bindT, bindTs, List.getElem?_cons_zero, List.getElem?_cons_succ, List.length_cons, List.length_nil, List.set_cons_zero, List.set_cons_succ, Nat.zero_add, Nat.reduceAdd, Nat.reduceLT, Nat.reduceLeDiff, ↓reduceIte, Bool.false_eq_true, Bool.not_true, Bool.not_false, Option.map_some, Option.bind_some, gc_same, gcX_same, LIM, b_add, b_sub, b_mulr, b_mull, b_fdiv, b_mod, b_pow, b_adds, b_addt, c_eq, c_ne, c_lt, c_le, c_gt, c_ge, c_int, c_nint, f_int1, f_abs, f_min2, f_max2, f_lens, f_lent, eqD_int, eqD_str, eqD_bl, P64, and_self, and_true, true_and, or_true, true_or, Int.reduceLT, Int.reduceEq, Int.reduceLE, Int.reduceNeg, Int.reduceToNat, decide_eq_true_eq, decide_true, decide_false, if_true, if_false, ite_true, ite_false, inner, lbody, b_law, e1, e2, hh, ha]
    · obtain ⟨a, b, c, e, c0, c1⟩ := (w2.setq (es := ds ++ [d])).pl
      exact ⟨a, b, c, e, c0, by omega⟩
    · simp only [List.length_set, List.length_append]
      omega
    · rw [List.getElem?_set_ne (by omega), List.getElem?_append_left (by simpa using h2), List.getElem?_set_ne (by omega), List.getElem?_set_ne (by omega)]
    · rw [List.getElem?_set_ne (by omega)]
  · have w2 := w1.app (l := [O.lst (W7.map D.str)])
    obtain ⟨u, o2, e2, u0, u1, w3⟩ := pull_pw 28 w2 (by omega) (L := 7) (by omega) (by omega)
    obtain ⟨s, hs, es⟩ := ixW u0 u1
    have hh : hasM .append (g.set p o1) (.ref q) = true := hasM_app w1.ql
    have ha := m_app (d := .str s) w3.ql hd
    have hW : rdL ((g.set p o1 ++ [O.lst (W7.map D.str)]).set p o2) (List.length (g.set p o1)) = some (W7.map D.str) := by
      rw [set_app w1.plt]
      exact rdL_lst (by rw [List.getElem?_append_right (by simp)]; simp only [len_set, Nat.sub_self]; rfl)
    have hW2 : rdL ((g.set p o1 ++ [O.lst (W7.map D.str)]).set p o2) g.length = some (W7.map D.str) := by
      rw [len_set] at hW
      exact hW
    refine ⟨.str s, ((g.set p o1 ++ [O.lst (W7.map D.str)]).set p o2).set q (O.lst (ds ++ [D.str s])), gd, ?_, ⟨(w3.setq).fz, w3.pq, w3.p0, w3.q0, ?_, (w3.setq).ql⟩, ?_, fun m h1 h2 => ?_, .inl ⟨rfl, s, hs, rfl⟩⟩
    · simp only [e_con, e_loc, e_bin, e_neg, e_cmp, e_chain, e_and, e_or, e_not, e_ite, e_call, e_kcall, e_kix, e_blt, e_mth, e_tup, e_lst, e_emp, e_ix, e_slc, e_isi, e_xis, e_xf, e_lc, l_nil, l_cons, t_nil, t_cons, w_val, w_rng, w_enum, w_zip, x_asg, x_asx, x_exp, x_ret, x_ite, x_for, x_whl, x_rse, x_try, x_pass, x_brk, x_cont, x_nil, x_cons, fB_ap, fTs_ap, fE_ap, exH_none, exH_some, exH_nil, gL_some, kN_ok, kN_ex, kB2_ok, kB2_ex, kB1_ok, kB1_ex, kC3_some, kC2_ok, kC2_ex, kC1_ok, kC1_ex, kH3_t, kH3_f, kH2_ok, kH2_ex, kH1_ok, kH1_ex, kA2_t, kA2_f, kA_ok, kA_ex, kO2_t, kO2_f, kO_ok, kO_ex, kNt2_some, kNt_ok, kNt_ex, kI2_t, kI2_f, kI_ok, kI_ex, kCa_ok, kCa_ex, kK2_ok, kK2_ex, kK1_ok, kK1_ex, kX_ok, kX_ex, kBl_ok, kBl_ex, kM3_ok, kM3_ex, kM1_ok, kM1_ex, kT_ok, kT_ex, kLs_ok, kLs_ex, kIx2_ok, kIx2_ex, kIx1_ok, kIx1_ex, kS5_some, kS4_ok, kS4_ex, kS3_some, kS2_ok, kS2_ex, kS1_ok, kS1_ex, kIs_ok, kIs_ex, gXi_some, gXf_some, kE2_ok, kE2_ex, kE1_ok, kE1_ex, kTs2_t, kTs2_f, kTs_ok, kTs_ex, kW_ok, kW_ex, kWr_ok, kWr_ex, kWe_ok, kWe_ex, wz_some, kWz2_ok, kWz2_ex, kWz1_ok, kWz1_ex, kLc2_ok, kLc2_ex, kLc_ok, kLc_ex, kAs2_some, kAs_ok, kAs_ex, kAx3_ok, kAx3_ex, kAx2_ok, kAx2_ex, kAx1_ok, kAx1_ex, kEx_ok, kEx_ex, kRt_ok, kRt_ex, kIt2_t, kIt2_f, kIt_ok, kIt_ex, kFo_ok, kFo_ex, kRs_ok, kRs_ex, kF1_some, kWh1_t, kWh1_f, kWh1_ex, kSq_nx, kSq_ct, kSq_bk, kSq_rt, kSq_ex, kTr_nx, kTr_ct, kTr_bk, kTr_rt, kTr_ex, kF2_nx, kF2_ct, kF2_bk, kF2_rt, kF2_ex, kWh2_nx, kWh2_ct, kWh2_bk, kWh2_rt, kWh2_ex, fin_nx, fin_nx, fin_rt, fin_ex, su_nx, su_bk, su_ct, su_rt, Res.bind_ok, Res.bind_ex, Res.out_ok, Res.out_ex, lift_some, truthy, bindT, bindTs, List.getElem?_cons_zero, List.getElem?_cons_succ, List.length_cons, List.length_nil, List.set_cons_zero, List.set_cons_succ, Nat.zero_add, Nat.reduceAdd, Nat.reduceLT, Nat.reduceLeDiff, ↓reduceIte, Bool.false_eq_true, Bool.not_true, Bool.not_false, Option.map_some, Option.bind_some, gc_same, gcX_same, LIM, b_add, b_sub, b_mulr, b_mull, b_fdiv, b_mod, b_pow, b_adds, b_addt, c_eq, c_ne, c_lt, c_le, c_gt, c_ge, c_int, c_nint, f_int1, f_abs, f_min2, f_max2, f_lens, f_lent, eqD_int, eqD_str, eqD_bl, P64, and_self, and_true, true_and, or_true, true_or, Int.reduceLT, Int.reduceEq, Int.reduceLE, Int.reduceNeg, Int.reduceToNat, decide_eq_true_eq, decide_true, decide_false, if_true, if_false, ite_true, ite_false, inner, lbody, b_law, e1, hv, words_big, e2, hh, ha, ix_r, hW, hW2, es, len_set]
    · obtain ⟨a, b, c, e, c0, c1⟩ := (w3.setq (es := ds ++ [D.str s])).pl
      exact ⟨a, b, c, e, c0, by omega⟩
    · simp only [List.length_set, List.length_append]
      omega
    · rw [List.getElem?_set_ne (by omega), List.getElem?_set_ne (by omega), List.getElem?_append_left (by simpa using h2), List.getElem?_set_ne (by omega)]

/-- both turns -/
theorem turns (ns : List Int) {p q : Nat} {g : HP} {n : Int} (kv : D) (x5 x6 x7 : Option D) (w : Pw ns p q g [] n) (hn : n < 700000) (hl : ∀ m, m < g.length → m ≤ p ∨ m ≤ q) :
    ∃ d0 d1 g' gd x5', forGo (fB (MP.run pg wf 29) sub wf inner) (.nm 5) [] [.int 0, .int 1] ⟨[some (.ref 0), some kv, some (.ref p), some (.ref q), some (.bl true), x5, x6, x7], none⟩ g = .nx ⟨[some (.ref 0), some kv, some (.ref p), some (.ref q), some (.bl gd), x5', x6, x7], none⟩ g' ∧
      Pw ns p q g' [d0, d1] (n + 20) ∧ ((gd = true ∧ ∃ s ∈ W7, ∃ t ∈ W7, d0 = .str s ∧ d1 = .str t) ∨ (gd = false ∧ (Od g.length g' d0 ∨ ((∃ s ∈ W7, d0 = .str s) ∧ Od g.length g' d1)))) := by
  have hp := w.plt
  have hq := w.qlt
  have wt : ∀ h : HP, watchOk [] h = true := fun _ => rfl
  obtain ⟨d0, g1, gd1, e1, w1, l1, k1, c1⟩ := turn ns (lo := g.length) kv true (.int 0) x6 x7 w (by omega) hp hq (Nat.le_refl _) (by simp)
  obtain ⟨d1, g2, gd2, e2, w2, l2, k2, c2⟩ := turn ns (lo := g.length) kv gd1 (.int 1) x6 x7 w1 (by omega) hp hq l1 (by simp)
  refine ⟨d0, d1, g2, gd2, some (.int 1), ?_, ⟨w2.fz, w2.pq, w2.p0, w2.q0, ?_, w2.ql⟩, ?_⟩
  · rw [forGo_cons, if_pos (wt _)]
    simp only [e_con, e_loc, e_bin, e_neg, e_cmp, e_chain, e_and, e_or, e_not, e_ite, e_call, e_kcall, e_kix, e_blt, e_mth, e_tup, e_lst, e_emp, e_ix, e_slc, e_isi, e_xis, e_xf, e_lc, l_nil, l_cons, t_nil, t_cons, w_val, w_rng, w_enum, w_zip, x_asg, x_asx, x_exp, x_ret, x_ite, x_for, x_whl, x_rse, x_try, x_pass, x_brk, x_cont, x_nil, x_cons, fB_ap, fTs_ap, fE_ap, exH_none, exH_some, exH_nil, gL_some, kN_ok, kN_ex, kB2_ok, kB2_ex, kB1_ok, kB1_ex, kC3_some, kC2_ok, kC2_ex, kC1_ok, kC1_ex, kH3_t, kH3_f, kH2_ok, kH2_ex, kH1_ok, kH1_ex, kA2_t, kA2_f, kA_ok, kA_ex, kO2_t, kO2_f, kO_ok, kO_ex, kNt2_some, kNt_ok, kNt_ex, kI2_t, kI2_f, kI_ok, kI_ex, kCa_ok, kCa_ex, kK2_ok, kK2_ex, kK1_ok, kK1_ex, kX_ok, kX_ex, kBl_ok, kBl_ex, kM3_ok, kM3_ex, kM1_ok, kM1_ex, kT_ok, kT_ex, kLs_ok, kLs_ex, kIx2_ok, kIx2_ex, kIx1_ok, kIx1_ex, kS5_some, kS4_ok, kS4_ex, kS3_some, kS2_ok, kS2_ex, kS1_ok, kS1_ex, kIs_ok, kIs_ex, gXi_some, gXf_some, kE2_ok, kE2_ex, kE1_ok, kE1_ex, kTs2_t, kTs2_f, kTs_ok, kTs_ex, kW_ok, kW_ex, kWr_ok, kWr_ex, kWe_ok, kWe_ex, wz_some, kWz2_ok, kWz2_ex, kWz1_ok, kWz1_ex, kLc2_ok, kLc2_ex, kLc_ok, kLc_ex, kAs2_some, kAs_ok, kAs_ex, kAx3_ok, kAx3_ex, kAx2_ok, kAx2_ex, kAx1_ok, kAx1_ex, kEx_ok, kEx_ex, kRt_ok, kRt_ex, kIt2_t, kIt2_f, kIt_ok, kIt_ex, kFo_ok, kFo_ex, kRs_ok, kRs_ex, kF1_some, kWh1_t, kWh1_f, kWh1_ex, kSq_nx, kSq_ct, kSq_bk, kSq_rt, kSq_ex, kTr_nx, kTr_ct, kTr_bk, kTr_rt, kTr_ex, kF2_nx, kF2_ct, kF2_bk, kF2_rt, kF2_ex, kWh2_nx, kWh2_ct, kWh2_bk, kWh2_rt, kWh2_ex, fin_nx, fin_nx, fin_rt, fin_ex, su_nx, su_bk, su_ct, su_rt, Res.bind_ok, Res.bind_ex, Res.out_ok, Res.out_ex, lift_some, truthy, bindT, bindTs, List.getElem?_cons_zero, List.getElem?_cons_succ, List.length_cons, List.length_nil, List.set_cons_zero, List.set_cons_succ, Nat.zero_add, Nat.reduceAdd, Nat.reduceLT, Nat.reduceLeDiff, ↓reduceIte, Bool.false_eq_true, Bool.not_true, Bool.not_false, Option.map_some, Option.bind_some, gc_same, gcX_same, LIM, b_add, b_sub, b_mulr, b_mull, b_fdiv, b_mod, b_pow, b_adds, b_addt, c_eq, c_ne, c_lt, c_le, c_gt, c_ge, c_int, c_nint, f_int1, f_abs, f_min2, f_max2, f_lens, f_lent, eqD_int, eqD_str, eqD_bl, P64, and_self, and_true, true_and, or_true, true_or, Int.reduceLT, Int.reduceEq, Int.reduceLE, Int.reduceNeg, Int.reduceToNat, decide_eq_true_eq, decide_true, decide_false, if_true, if_false, ite_true, ite_false, wt, forGo_cons, forGo_nil, e1, e2]
  · obtain ⟨a, b, c, e, c0, c1⟩ := w2.pl
    exact ⟨a, b, c, e, c0, by omega⟩
  · rcases c1 with ⟨q1, s, hs, es⟩ | ⟨q1, o1⟩
    · rcases c2 with ⟨q2, t, ht, et⟩ | ⟨q2, o2⟩
      · exact .inl ⟨by rw [q2, q1], s, hs, t, ht, es, et⟩
      · exact .inr ⟨q2, .inr ⟨⟨s, hs, es⟩, o2⟩⟩
    · have o1' := o1.keep (h' := g2) k2
      rcases c2 with ⟨q2, t, ht, et⟩ | ⟨q2, o2⟩
      · exact .inr ⟨by rw [q2, q1], .inl o1'⟩
      · exact .inr ⟨q2, .inl o1'⟩
theorem ix20 : L2.ixN 2 0 = some 0 := rfl
theorem ix21 : L2.ixN 2 1 = some 1 := rfl
/-- one turn of the law's loop -/
theorem body (ns : List Int) (hns : ns.length ≤ 63) {h : HP} (h0 : h[0]? = some (.frz (ns.map .int))) (kv : Int) (k0 : 0 ≤ kv) (k1 : kv < 1000) (x2 x3 x4 x5 x6 x7 : Option D) :
    ∃ h' y2 y3 y4 y5 y6 y7, exL (MP.run pg wf 29) sub wf lbody ⟨[some (.ref 0), some (.int kv), x2, x3, x4, x5, x6, x7], none⟩ h = .nx ⟨[some (.ref 0), some (.int kv), y2, y3, y4, y5, y6, y7], none⟩ h' ∧ h'[0]? = some (.frz (ns.map .int)) := by
  have hlt := (List.getElem?_eq_some_iff.mp h0).1
  obtain ⟨a, b, ep⟩ := pool_big 28 ns hns kv k0 k1 h0
  have w : Pw ns h.length (h.length + 1) (h ++ [O.lst [.int a, .int b, .int kv], O.lst []]) [] kv :=
    ⟨by rw [List.getElem?_append_left hlt]; exact h0, by omega, by omega, by omega, ⟨a, b, kv, by rw [app_at]; rfl, k0, Int.le_refl _⟩, by rw [List.getElem?_append_right (by omega), Nat.add_sub_cancel_left]; rfl⟩
  obtain ⟨d0, d1, g, gd, x5', et, w2, c⟩ := turns ns (.int kv) x5 x6 x7 w (by omega) (fun m hm => by
    simp only [List.length_append, List.length_cons, List.length_nil] at hm
    omega)
  have hur : rng [D.int 2] = some [D.int 0, D.int 1] := rfl
  simp only [inner, lbody, b_law] at et
  have ql := rdL_lst w2.ql
  have qlt := w2.qlt
  have qa : ∀ l, rdL (g ++ l) (h.length + 1) = some [d0, d1] := fun l => by rw [rdL_app qlt]; exact ql
  have odd : ∀ (l : HP), ∃ d o l2, MP.run pg wf 29 10 [.ref h.length] (g ++ l) = .ok d ((g ++ l).set h.length o ++ l2) ∧ MP.run pg wf 29 12 [d] ((g ++ l).set h.length o ++ l2) = .ok (.str [114, 101, 102, 117, 115, 101, 100]) ((g ++ l).set h.length o ++ l2) ∧ ((g ++ l).set h.length o ++ l2)[0]? = some (.frz (ns.map .int)) := fun l => by
    have w3 := w2.app (l := l)
    obtain ⟨d, o, l2, eo, od, w4⟩ := odd_pw 27 w3 (by omega) (lo := h.length + 1) (by omega) (Nat.le_of_lt w3.qlt)
    exact ⟨d, o, l2, eo, told_bad (od_nk od) 25, w4.fz⟩
  rcases c with ⟨eg, s, hs, t, ht, e0, e1⟩ | ⟨eg, c⟩
  · subst eg e0 e1
    have m1 : ∀ (l : HP) (m : Nat) (xs : List (List Nat)) (z : List Nat), rdL l m = some (xs.map .str) → opC .in_ (.str z) (.ref m) l = some (xs.contains z) := fun l m xs z e => by
      show (match rdL l m with | some ys => memD l (.str z) ys | none => none) = _
      rw [e]
      exact memD_strs
    have f1 := m1 (g ++ [O.lst ((ab s).map .str)]) g.length (ab s) t (by rw [rdL_at]; rfl)
    have f2 := eqD_lists (h := g ++ [O.lst ((ab s).map .str), O.lst ((ids s).map .str), O.lst ((ids s).map .str)]) (m := g.length + 1) (n := g.length + 2) (ws := ids s) (by rw [rdL_at1]; rfl) (by rw [rdL_at1]; rfl)
    have f3 := m1 (g ++ [O.lst ((ab s).map .str), O.lst ((ids s).map .str), O.lst ((ids s).map .str), O.lst ((ab t).map .str)]) (g.length + 3) (ab t) s (by rw [rdL_at1]; rfl)
    obtain ⟨d, o, l2, eo, et2, z⟩ := odd [O.lst ((ab s).map .str), O.lst ((ids s).map .str), O.lst ((ids s).map .str), O.lst ((ab t).map .str)]
    refine ⟨_, some (.ref h.length), some (.ref (h.length + 1)), some (.bl true), x5', some (.tup ((ids s).map .str)), some d, ?_, z⟩
    simp only [e_con, e_loc, e_bin, e_neg, e_cmp, e_chain, e_and, e_or, e_not, e_ite, e_call, e_kcall, e_kix, e_blt, e_mth, e_tup, e_lst, e_emp, e_ix, e_slc, e_isi, e_xis, e_xf, e_lc, l_nil, l_cons, t_nil, t_cons, w_val, w_rng, w_enum, w_zip, x_asg, x_asx, x_exp, x_ret, x_ite, x_for, x_whl, x_rse, x_try, x_pass, x_brk, x_cont, x_nil, x_cons, fB_ap, fTs_ap, fE_ap, exH_none, exH_some, exH_nil, gL_some, kN_ok, kN_ex, kB2_ok, kB2_ex, kB1_ok, kB1_ex, kC3_some, kC2_ok, kC2_ex, kC1_ok, kC1_ex, kH3_t, kH3_f, kH2_ok, kH2_ex, kH1_ok, kH1_ex, kA2_t, kA2_f, kA_ok, kA_ex, kO2_t, kO2_f, kO_ok, kO_ex, kNt2_some, kNt_ok, kNt_ex, kI2_t, kI2_f, kI_ok, kI_ex, kCa_ok, kCa_ex, kK2_ok, kK2_ex, kK1_ok, kK1_ex, kX_ok, kX_ex, kBl_ok, kBl_ex, kM3_ok, kM3_ex, kM1_ok, kM1_ex, kT_ok, kT_ex, kLs_ok, kLs_ex, kIx2_ok, kIx2_ex, kIx1_ok, kIx1_ex, kS5_some, kS4_ok, kS4_ex, kS3_some, kS2_ok, kS2_ex, kS1_ok, kS1_ex, kIs_ok, kIs_ex, gXi_some, gXf_some, kE2_ok, kE2_ex, kE1_ok, kE1_ex, kTs2_t, kTs2_f, kTs_ok, kTs_ex, kW_ok, kW_ex, kWr_ok, kWr_ex, kWe_ok, kWe_ex, wz_some, kWz2_ok, kWz2_ex, kWz1_ok, kWz1_ex, kLc2_ok, kLc2_ex, kLc_ok, kLc_ex, kAs2_some, kAs_ok, kAs_ex, kAx3_ok, kAx3_ex, kAx2_ok, kAx2_ex, kAx1_ok, kAx1_ex, kEx_ok, kEx_ex, kRt_ok, kRt_ex, kIt2_t, kIt2_f, kIt_ok, kIt_ex, kFo_ok, kFo_ex, kRs_ok, kRs_ex, kF1_some, kWh1_t, kWh1_f, kWh1_ex, kSq_nx, kSq_ct, kSq_bk, kSq_rt, kSq_ex, kTr_nx, kTr_ct, kTr_bk, kTr_rt, kTr_ex, kF2_nx, kF2_ct, kF2_bk, kF2_rt, kF2_ex, kWh2_nx, kWh2_ct, kWh2_bk, kWh2_rt, kWh2_ex, fin_nx, fin_nx, fin_rt, fin_ex, su_nx, su_bk, su_ct, su_rt, Res.bind_ok, Res.bind_ex, Res.out_ok, Res.out_ex, lift_some, truthy, bindT, bindTs, List.getElem?_cons_zero, List.getElem?_cons_succ, List.length_cons, List.length_nil, List.set_cons_zero, List.set_cons_succ, Nat.zero_add, Nat.reduceAdd, Nat.reduceLT, Nat.reduceLeDiff, ↓reduceIte, Bool.false_eq_true, Bool.not_true, Bool.not_false, Option.map_some, Option.bind_some, gc_same, gcX_same, LIM, b_add, b_sub, b_mulr, b_mull, b_fdiv, b_mod, b_pow, b_adds, b_addt, c_eq, c_ne, c_lt, c_le, c_gt, c_ge, c_int, c_nint, f_int1, f_abs, f_min2, f_max2, f_lens, f_lent, eqD_int, eqD_str, eqD_bl, P64, and_self, and_true, true_and, or_true, true_or, Int.reduceLT, Int.reduceEq, Int.reduceLE, Int.reduceNeg, Int.reduceToNat, decide_eq_true_eq, decide_true, decide_false, if_true, if_false, ite_true, ite_false, lbody, b_law, ep, List.append_assoc, List.cons_append, List.nil_append, List.length_append, hur, et, ix_r, ql, qa, ix20, ix21, asked_big hs ht, ids_big hs, ids2_big hs, coarser_big ht hs, above_big hs, above_big ht, f1, f2, f3, f_list1, dTy, isTy, List.any_cons, List.any_nil, Bool.or_false, Option.isSome_some, eo, et2, List.filterMap_cons, List.filterMap_nil, beq_self_eq_true]
  · subst eg
    have ask : MP.run pg wf 29 11 [d0, d1] g = .ok (.tup [.str [114, 101, 102, 117, 115, 101, 100], .bl true]) g := by
      rcases c with o0 | ⟨⟨s, hs, es⟩, o1⟩
      · exact asked1 (od_nk o0) 25
      · subst es
        exact asked2 (yk hs g) (od_nk o1) 25
    have ft : ∀ g : HP, eqD g (.tup [.str [114, 101, 102, 117, 115, 101, 100], .bl true]) (.tup [.str [114, 101, 102, 117, 115, 101, 100], .bl true]) = some true := fun _ => rfl
    obtain ⟨d, o, l2, eo, et2, z⟩ := odd []
    rw [List.append_nil] at eo et2 z
    refine ⟨_, some (.ref h.length), some (.ref (h.length + 1)), some (.bl false), x5', some (.tup [.str [114, 101, 102, 117, 115, 101, 100], .bl true]), some d, ?_, z⟩
    simp only [e_con, e_loc, e_bin, e_neg, e_cmp, e_chain, e_and, e_or, e_not, e_ite, e_call, e_kcall, e_kix, e_blt, e_mth, e_tup, e_lst, e_emp, e_ix, e_slc, e_isi, e_xis, e_xf, e_lc, l_nil, l_cons, t_nil, t_cons, w_val, w_rng, w_enum, w_zip, x_asg, x_asx, x_exp, x_ret, x_ite, x_for, x_whl, x_rse, x_try, x_pass, x_brk, x_cont, x_nil, x_cons, fB_ap, fTs_ap, fE_ap, exH_none, exH_some, exH_nil, gL_some, kN_ok, kN_ex, kB2_ok, kB2_ex, kB1_ok, kB1_ex, kC3_some, kC2_ok, kC2_ex, kC1_ok, kC1_ex, kH3_t, kH3_f, kH2_ok, kH2_ex, kH1_ok, kH1_ex, kA2_t, kA2_f, kA_ok, kA_ex, kO2_t, kO2_f, kO_ok, kO_ex, kNt2_some, kNt_ok, kNt_ex, kI2_t, kI2_f, kI_ok, kI_ex, kCa_ok, kCa_ex, kK2_ok, kK2_ex, kK1_ok, kK1_ex, kX_ok, kX_ex, kBl_ok, kBl_ex, kM3_ok, kM3_ex, kM1_ok, kM1_ex, kT_ok, kT_ex, kLs_ok, kLs_ex, kIx2_ok, kIx2_ex, kIx1_ok, kIx1_ex, kS5_some, kS4_ok, kS4_ex, kS3_some, kS2_ok, kS2_ex, kS1_ok, kS1_ex, kIs_ok, kIs_ex, gXi_some, gXf_some, kE2_ok, kE2_ex, kE1_ok, kE1_ex, kTs2_t, kTs2_f, kTs_ok, kTs_ex, kW_ok, kW_ex, kWr_ok, kWr_ex, kWe_ok, kWe_ex, wz_some, kWz2_ok, kWz2_ex, kWz1_ok, kWz1_ex, kLc2_ok, kLc2_ex, kLc_ok, kLc_ex, kAs2_some, kAs_ok, kAs_ex, kAx3_ok, kAx3_ex, kAx2_ok, kAx2_ex, kAx1_ok, kAx1_ex, kEx_ok, kEx_ex, kRt_ok, kRt_ex, kIt2_t, kIt2_f, kIt_ok, kIt_ex, kFo_ok, kFo_ex, kRs_ok, kRs_ex, kF1_some, kWh1_t, kWh1_f, kWh1_ex, kSq_nx, kSq_ct, kSq_bk, kSq_rt, kSq_ex, kTr_nx, kTr_ct, kTr_bk, kTr_rt, kTr_ex, kF2_nx, kF2_ct, kF2_bk, kF2_rt, kF2_ex, kWh2_nx, kWh2_ct, kWh2_bk, kWh2_rt, kWh2_ex, fin_nx, fin_nx, fin_rt, fin_ex, su_nx, su_bk, su_ct, su_rt, Res.bind_ok, Res.bind_ex, Res.out_ok, Res.out_ex, lift_some, truthy, bindT, bindTs, List.getElem?_cons_zero, List.getElem?_cons_succ, List.length_cons, List.length_nil, List.set_cons_zero, List.set_cons_succ, Nat.zero_add, Nat.reduceAdd, Nat.reduceLT, Nat.reduceLeDiff, ↓reduceIte, Bool.false_eq_true, Bool.not_true, Bool.not_false, Option.map_some, Option.bind_some, gc_same, gcX_same, LIM, b_add, b_sub, b_mulr, b_mull, b_fdiv, b_mod, b_pow, b_adds, b_addt, c_eq, c_ne, c_lt, c_le, c_gt, c_ge, c_int, c_nint, f_int1, f_abs, f_min2, f_max2, f_lens, f_lent, eqD_int, eqD_str, eqD_bl, P64, and_self, and_true, true_and, or_true, true_or, Int.reduceLT, Int.reduceEq, Int.reduceLE, Int.reduceNeg, Int.reduceToNat, decide_eq_true_eq, decide_true, decide_false, if_true, if_false, ite_true, ite_false, lbody, b_law, ep, List.append_assoc, List.cons_append, List.nil_append, List.length_append, hur, et, ix_r, ql, ix20, ix21, ask, ft, dTy, isTy, List.any_cons, List.any_nil, Bool.or_false, Option.isSome_some, eo, et2]
theorem loop (ns : List Int) (hns : ns.length ≤ 63) : ∀ (n : Nat) (i : Nat) (h : HP) (x1 x2 x3 x4 x5 x6 x7 : Option D), h[0]? = some (.frz (ns.map .int)) → i + n ≤ 500 → ∃ v h', forGo (fB (MP.run pg wf 29) sub wf lbody) (.nm 1) [] (upto (i : Int) n) ⟨[some (.ref 0), x1, x2, x3, x4, x5, x6, x7], none⟩ h = .nx ⟨v, none⟩ h'
  | 0, i, h, x1, x2, x3, x4, x5, x6, x7, h0, _ => ⟨_, _, by rw [upto, forGo_nil]; rfl⟩
  | n + 1, i, h, x1, x2, x3, x4, x5, x6, x7, h0, hi => by
    obtain ⟨h', y2, y3, y4, y5, y6, y7, e, z⟩ := body ns hns h0 (i : Int) (by omega) (by omega) x2 x3 x4 x5 x6 x7
    obtain ⟨v, h2, e2⟩ := loop ns hns n (i + 1) h' (some (.int i)) y2 y3 y4 y5 y6 y7 z (by omega)
    refine ⟨v, h2, ?_⟩
    have wt : ∀ h : HP, watchOk [] h = true := fun _ => rfl
    have ei : ((i : Int) + 1) = ((i + 1 : Nat) : Int) := by omega
    rw [upto, forGo_cons, if_pos (wt _), ei]
    simp only [e_con, e_loc, e_bin, e_neg, e_cmp, e_chain, e_and, e_or, e_not, e_ite, e_call, e_kcall, e_kix, e_blt, e_mth, e_tup, e_lst, e_emp, e_ix, e_slc, e_isi, e_xis, e_xf, e_lc, l_nil, l_cons, t_nil, t_cons, w_val, w_rng, w_enum, w_zip, x_asg, x_asx, x_exp, x_ret, x_ite, x_for, x_whl, x_rse, x_try, x_pass, x_brk, x_cont, x_nil, x_cons, fB_ap, fTs_ap, fE_ap, exH_none, exH_some, exH_nil, gL_some, kN_ok, kN_ex, kB2_ok, kB2_ex, kB1_ok, kB1_ex, kC3_some, kC2_ok, kC2_ex, kC1_ok, kC1_ex, kH3_t, kH3_f, kH2_ok, kH2_ex, kH1_ok, kH1_ex, kA2_t, kA2_f, kA_ok, kA_ex, kO2_t, kO2_f, kO_ok, kO_ex, kNt2_some, kNt_ok, kNt_ex, kI2_t, kI2_f, kI_ok, kI_ex, kCa_ok, kCa_ex, kK2_ok, kK2_ex, kK1_ok, kK1_ex, kX_ok, kX_ex, kBl_ok, kBl_ex, kM3_ok, kM3_ex, kM1_ok, kM1_ex, kT_ok, kT_ex, kLs_ok, kLs_ex, kIx2_ok, kIx2_ex, kIx1_ok, kIx1_ex, kS5_some, kS4_ok, kS4_ex, kS3_some, kS2_ok, kS2_ex, kS1_ok, kS1_ex, kIs_ok, kIs_ex, gXi_some, gXf_some, kE2_ok, kE2_ex, kE1_ok, kE1_ex, kTs2_t, kTs2_f, kTs_ok, kTs_ex, kW_ok, kW_ex, kWr_ok, kWr_ex, kWe_ok, kWe_ex, wz_some, kWz2_ok, kWz2_ex, kWz1_ok, kWz1_ex, kLc2_ok, kLc2_ex, kLc_ok, kLc_ex, kAs2_some, kAs_ok, kAs_ex, kAx3_ok, kAx3_ex, kAx2_ok, kAx2_ex, kAx1_ok, kAx1_ex, kEx_ok, kEx_ex, kRt_ok, kRt_ex, kIt2_t, kIt2_f, kIt_ok, kIt_ex, kFo_ok, kFo_ex, kRs_ok, kRs_ex, kF1_some, kWh1_t, kWh1_f, kWh1_ex, kSq_nx, kSq_ct, kSq_bk, kSq_rt, kSq_ex, kTr_nx, kTr_ct, kTr_bk, kTr_rt, kTr_ex, kF2_nx, kF2_ct, kF2_bk, kF2_rt, kF2_ex, kWh2_nx, kWh2_ct, kWh2_bk, kWh2_rt, kWh2_ex, fin_nx, fin_nx, fin_rt, fin_ex, su_nx, su_bk, su_ct, su_rt, Res.bind_ok, Res.bind_ex, Res.out_ok, Res.out_ex, lift_some, truthy, bindT, bindTs, List.getElem?_cons_zero, List.getElem?_cons_succ, List.length_cons, List.length_nil, List.set_cons_zero, List.set_cons_succ, Nat.zero_add, Nat.reduceAdd, Nat.reduceLT, Nat.reduceLeDiff, ↓reduceIte, Bool.false_eq_true, Bool.not_true, Bool.not_false, Option.map_some, Option.bind_some, gc_same, gcX_same, LIM, b_add, b_sub, b_mulr, b_mull, b_fdiv, b_mod, b_pow, b_adds, b_addt, c_eq, c_ne, c_lt, c_le, c_gt, c_ge, c_int, c_nint, f_int1, f_abs, f_min2, f_max2, f_lens, f_lent, eqD_int, eqD_str, eqD_bl, P64, and_self, and_true, true_and, or_true, true_or, Int.reduceLT, Int.reduceEq, Int.reduceLE, Int.reduceNeg, Int.reduceToNat, decide_eq_true_eq, decide_true, decide_false, if_true, if_false, ite_true, ite_false, e, e2]
theorem rng_ok {i : Int} (h0 : -1000 ≤ i) (h1 : i ≤ 1000) : rng [.int i] = some (upto 0 i.toNat) := if_pos ⟨by omega, by omega⟩
theorem gc_bl {h h' : HP} {b : Bool} : ∃ g, gc h (.bl b) h' = .ok (.bl b) g := by
  unfold gc
  split
  · exact ⟨_, rfl⟩
  · exact ⟨_, rfl⟩
theorem law_true (ns : List Int) (hns : ns.length ≤ 63) : ∃ h', MP.run pg wf kk 13 [.ref 0] [.frz (ns.map .int)] = .ok (.bl true) h' := by
  have hm : ∃ n : Nat, n ≤ 63 ∧ rng [.int (if (if (12 : Int) < (ns.length : Int) then 12 else (ns.length : Int)) > 1 then (if (12 : Int) < (ns.length : Int) then 12 else (ns.length : Int)) else 1)] = some (upto 0 n) := by
    refine ⟨(if (if (12 : Int) < (ns.length : Int) then 12 else (ns.length : Int)) > 1 then (if (12 : Int) < (ns.length : Int) then 12 else (ns.length : Int)) else 1).toNat, ?_, rng_ok ?_ ?_⟩
    · split <;> split <;> omega
    · split <;> split <;> omega
    · split <;> split <;> omega
  obtain ⟨n, hn, er⟩ := hm
  obtain ⟨v, h', e⟩ := loop ns hns n 0 ([.frz (ns.map .int)] ++ [.lst (W7.map .str), .lst (W7.map .str)]) none none none none none none none rfl (by omega)
  change forGo _ _ _ (upto 0 n) _ _ = _ at e
  simp only [lbody, b_law, List.cons_append, List.nil_append] at e
  have eq2 : eqD ([O.frz (ns.map .int), .lst (W7.map .str), .lst (W7.map .str)]) (.ref 1) (.ref 2) = some true := eqD_lists (ws := W7) rfl rfl
  have key : MP.run pg wf (29 + 1) 13 [.ref 0] [.frz (ns.map .int)] = gc [.frz (ns.map .int)] (.bl true) h' := by
    rw [r13]
    unfold b_law
    rw [kindsC]
    simp only [e_con, e_loc, e_bin, e_neg, e_cmp, e_chain, e_and, e_or, e_not, e_ite, e_call, e_kcall, e_kix, e_blt, e_mth, e_tup, e_lst, e_emp, e_ix, e_slc, e_isi, e_xis, e_xf, e_lc, l_nil, l_cons, t_nil, t_cons, w_val, w_rng, w_enum, w_zip, x_asg, x_asx, x_exp, x_ret, x_ite, x_for, x_whl, x_rse, x_try, x_pass, x_brk, x_cont, x_nil, x_cons, fB_ap, fTs_ap, fE_ap, exH_none, exH_some, exH_nil, gL_some, kN_ok, kN_ex, kB2_ok, kB2_ex, kB1_ok, kB1_ex, kC3_some, kC2_ok, kC2_ex, kC1_ok, kC1_ex, kH3_t, kH3_f, kH2_ok, kH2_ex, kH1_ok, kH1_ex, kA2_t, kA2_f, kA_ok, kA_ex, kO2_t, kO2_f, kO_ok, kO_ex, kNt2_some, kNt_ok, kNt_ex, kI2_t, kI2_f, kI_ok, kI_ex, kCa_ok, kCa_ex, kK2_ok, kK2_ex, kK1_ok, kK1_ex, kX_ok, kX_ex, kBl_ok, kBl_ex, kM3_ok, kM3_ex, kM1_ok, kM1_ex, kT_ok, kT_ex, kLs_ok, kLs_ex, kIx2_ok, kIx2_ex, kIx1_ok, kIx1_ex, kS5_some, kS4_ok, kS4_ex, kS3_some, kS2_ok, kS2_ex, kS1_ok, kS1_ex, kIs_ok, kIs_ex, gXi_some, gXf_some, kE2_ok, kE2_ex, kE1_ok, kE1_ex, kTs2_t, kTs2_f, kTs_ok, kTs_ex, kW_ok, kW_ex, kWr_ok, kWr_ex, kWe_ok, kWe_ex, wz_some, kWz2_ok, kWz2_ex, kWz1_ok, kWz1_ex, kLc2_ok, kLc2_ex, kLc_ok, kLc_ex, kAs2_some, kAs_ok, kAs_ex, kAx3_ok, kAx3_ex, kAx2_ok, kAx2_ex, kAx1_ok, kAx1_ex, kEx_ok, kEx_ex, kRt_ok, kRt_ex, kIt2_t, kIt2_f, kIt_ok, kIt_ex, kFo_ok, kFo_ex, kRs_ok, kRs_ex, kF1_some, kWh1_t, kWh1_f, kWh1_ex, kSq_nx, kSq_ct, kSq_bk, kSq_rt, kSq_ex, kTr_nx, kTr_ct, kTr_bk, kTr_rt, kTr_ex, kF2_nx, kF2_ct, kF2_bk, kF2_rt, kF2_ex, kWh2_nx, kWh2_ct, kWh2_bk, kWh2_rt, kWh2_ex, fin_nx, fin_nx, fin_rt, fin_ex, su_nx, su_bk, su_ct, su_rt, Res.bind_ok, Res.bind_ex, Res.out_ok, Res.out_ex, lift_some, truthy, bindT, bindTs, List.getElem?_cons_zero, List.getElem?_cons_succ, List.length_cons, List.length_nil, List.set_cons_zero, List.set_cons_succ, Nat.zero_add, Nat.reduceAdd, Nat.reduceLT, Nat.reduceLeDiff, ↓reduceIte, Bool.false_eq_true, Bool.not_true, Bool.not_false, Option.map_some, Option.bind_some, gc_same, gcX_same, LIM, b_add, b_sub, b_mulr, b_mull, b_fdiv, b_mod, b_pow, b_adds, b_addt, c_eq, c_ne, c_lt, c_le, c_gt, c_ge, c_int, c_nint, f_int1, f_abs, f_min2, f_max2, f_lens, f_lent, eqD_int, eqD_str, eqD_bl, P64, and_self, and_true, true_and, or_true, true_or, Int.reduceLT, Int.reduceEq, Int.reduceLE, Int.reduceNeg, Int.reduceToNat, decide_eq_true_eq, decide_true, decide_false, if_true, if_false, ite_true, ite_false, dTy, isTy, List.any_cons, List.any_nil, Bool.or_false, Option.isSome_some, f_list1, words_big, List.append_assoc, List.cons_append, List.nil_append, eq2, f_lenr, rdL, List.length_map, er, e]
  obtain ⟨g, eg⟩ := gc_bl (h := [.frz (ns.map .int)]) (h' := h') (b := true)
  exact ⟨g, key.trans eg⟩
end K01

end
section
set_option Elab.async false
set_option linter.all false
set_option maxRecDepth 100000
set_option maxHeartbeats 0
namespace K01
open PySem MP
def top (i : Nat) : Stmt := PySem.Challenge.pw_rowsworth_k01_coarser_kinds.main.body.getD i (.Pass ⟨0, 0, 0, 0⟩)
def tf (x : Str) (ps N : List Str) (i : Nat) : TF := ⟨x, ps, N, L2.defArgs (top i), L2.defBody (top i), L2.defScope (top i)⟩
def T : List TF := [
  tf "is_kind" ["value"] ["value"] 7,
  tf "check_kind" ["kind"] ["kind"] 8,
  tf "is_coarser" ["kind", "other_kind"] ["kind", "other_kind"] 9,
  tf "identities_of" ["kind"] ["kind"] 10,
  tf "_law_pool" ["script", "k"] ["script", "k", "total", "at", "cell", "mixed"] 12,
  tf "_law_pull" ["pool", "limit"] ["pool", "limit", "drawn"] 13,
  tf "_law_words" [] [] 14,
  tf "_law_steps" [] ["steps"] 15,
  tf "_law_above" ["word"] ["word", "reached", "turn", "low", "high"] 16,
  tf "_law_identities" ["word"] ["word", "due"] 17,
  tf "_law_odd" ["pool"] ["pool", "word", "choice"] 18,
  tf "_law_asked" ["first", "second"] ["first", "second", "told", "e"] 19,
  tf "_law_identities_told" ["word"] ["word", "told"] 20,
  tf "law" ["script"] ["script", "k", "pool", "words", "good", "at", "told", "odd"] 21]
@[reducible] def g (x : Str) (y : GI) : Str × GI := (x, y)
def G : List (Str × GI) := [
  g "is_kind" (.fn 0 ["value"]),
  g "check_kind" (.fn 1 ["kind"]),
  g "is_coarser" (.fn 2 ["kind", "other_kind"]),
  g "identities_of" (.fn 3 ["kind"]),
  g "_law_pool" (.fn 4 ["script", "k"]),
  g "_law_pull" (.fn 5 ["pool", "limit"]),
  g "_law_words" (.fn 6 []),
  g "_law_steps" (.fn 7 []),
  g "_law_above" (.fn 8 ["word"]),
  g "_law_identities" (.fn 9 ["word"]),
  g "_law_odd" (.fn 10 ["pool"]),
  g "_law_asked" (.fn 11 ["first", "second"]),
  g "_law_identities_told" (.fn 12 ["word"]),
  g "law" (.fn 13 ["script"]),
  g "KINDS" (.con (.tup [(.str [97, 108, 108]), (.str [115, 117, 109]), (.str [112, 114, 111, 100, 117, 99, 116]), (.str [98, 111, 116, 104]), (.str [99, 111, 118, 101, 114]), (.str [97, 98, 115, 111, 114, 98]), (.str [108, 97, 116, 116, 105, 99, 101])])),
  g "IDENTITIES" (.dic [([97, 108, 108], (.tup [])), ([115, 117, 109], (.tup [(.str [115, 117, 109])])), ([112, 114, 111, 100, 117, 99, 116], (.tup [(.str [114, 111, 119, 115])])), ([98, 111, 116, 104], (.tup [(.str [115, 117, 109]), (.str [114, 111, 119, 115])])), ([99, 111, 118, 101, 114], (.tup [(.str [115, 117, 109]), (.str [115, 113, 117, 97, 114, 101])])), ([97, 98, 115, 111, 114, 98], (.tup [(.str [115, 117, 109]), (.str [97, 98, 115, 111, 114, 98])])), ([108, 97, 116, 116, 105, 99, 101], (.tup [(.str [115, 117, 109]), (.str [97, 98, 115, 111, 114, 98]), (.str [114, 111, 119, 115])]))]),
  g "COARSER" (.dic [([97, 108, 108], (.tup [(.str [115, 117, 109]), (.str [112, 114, 111, 100, 117, 99, 116]), (.str [98, 111, 116, 104]), (.str [99, 111, 118, 101, 114]), (.str [97, 98, 115, 111, 114, 98]), (.str [108, 97, 116, 116, 105, 99, 101])])), ([115, 117, 109], (.tup [(.str [98, 111, 116, 104]), (.str [99, 111, 118, 101, 114]), (.str [97, 98, 115, 111, 114, 98]), (.str [108, 97, 116, 116, 105, 99, 101])])), ([112, 114, 111, 100, 117, 99, 116], (.tup [(.str [98, 111, 116, 104]), (.str [99, 111, 118, 101, 114]), (.str [108, 97, 116, 116, 105, 99, 101])])), ([98, 111, 116, 104], (.tup [(.str [99, 111, 118, 101, 114]), (.str [108, 97, 116, 116, 105, 99, 101])])), ([99, 111, 118, 101, 114], (.tup [(.str [108, 97, 116, 116, 105, 99, 101])])), ([97, 98, 115, 111, 114, 98], (.tup [(.str [108, 97, 116, 116, 105, 99, 101])])), ([108, 97, 116, 116, 105, 99, 101], (.tup []))]),
  g "WeightError" (.exc 0 false),
  g "InvalidKind" (.exc 1 false),
  g "ValueError" .blt,
  g "abs" .blt,
  g "bool" .blt,
  g "enumerate" .blt,
  g "int" .blt,
  g "isinstance" .blt,
  g "len" .blt,
  g "list" .blt,
  g "max" .blt,
  g "min" .blt,
  g "range" .blt,
  g "str" .blt,
  g "tuple" .blt]
def xf (i : Nat) : Option Str := [none, none].getD i none
def L : Lw := ⟨T, G, ["WeightError", "InvalidKind"], xf, sub⟩

theorem okT : L.okT = true := by kernel_rfl
theorem tr : L.T.map (L.tr 80) = pg.fns.map some := by kernel_rfl
end K01

end
section
set_option Elab.async false
set_option linter.all false
set_option maxRecDepth 100000
set_option maxHeartbeats 0
namespace K01
open PySem MP
abbrev R : PySem.W.OpenRow := PySem.W.OpenLaw.row PySem.Challenge.rw_rowsworth_k01_coarser_kinds
abbrev hk : PySem.W.Hook := hookM L 6
def ob (s : PySem.W.SharedT) : He.AlT × Bool := obsM L 6 (HandSHeadRun.getT s)
theorem ob_eq (s : PySem.W.SharedT) : ob s = hk.obs s.abs := obsM_eq (HandSHeadRun.getT_eq s)
def loose : List Str := [("WeightError" : Str), ("InvalidKind" : Str), ("KINDS" : Str), ("IDENTITIES" : Str), ("COARSER" : Str), ("is_kind" : Str), ("check_kind" : Str), ("is_coarser" : Str), ("identities_of" : Str), ("_law_pool" : Str), ("_law_pull" : Str), ("_law_words" : Str), ("_law_steps" : Str), ("_law_above" : Str), ("_law_identities" : Str), ("_law_odd" : Str), ("_law_asked" : Str), ("_law_identities_told" : Str)]
theorem run (w : World) : HandSHeadRun.RunEq R (PySem.W.view R.prog [21]) hk ob 15000 loose w :=
  PySem.W.byRow2 "special-get-raises" (P := fun w => HandSHeadRun.RunEq R (PySem.W.view R.prog [21]) hk ob 15000 loose w) (fun w os => by kernel_rfl) (fun w os => by kernel_rfl) w
end K01

end
section
set_option Elab.async false
set_option linter.all false
set_option maxRecDepth 100000
set_option maxHeartbeats 0
open PySem PySem.W PySem.Calls PyProof.Rows
theorem PySem.Challenge.cw_rowsworth_k01_coarser_kinds_holds : PySem.Challenge.rw_rowsworth_k01_coarser_kinds.Holds := by
  w_on; o_law
  refine HandSHeadRun.head_any (r := OpenLaw.row PySem.Challenge.rw_rowsworth_k01_coarser_kinds) (q := view (OpenLaw.row PySem.Challenge.rw_rowsworth_k01_coarser_kinds).prog [21]) (H := K01.hk) (ob := K01.ob) (M := 15000) (loose := K01.loose) (d := HandSHeadRun.topDef (OpenLaw.row PySem.Challenge.rw_rowsworth_k01_coarser_kinds).prog 21) (kwd := []) K01.ob_eq
    (by kernel_rfl) (fun s => by kernel_rfl) K01.run (by kernel_rfl) (by kernel_rfl) (by kernel_rfl) (by rfl) (by first | assumption | decide +kernel) (by decide +kernel) ⟨rfl, rfl, rfl, rfl, rfl, by decide +kernel⟩ ?hw ?hc
  case hw => w_witness2
  case hc =>
    exact MP.walk_mp (l := PySem.Challenge.rw_rowsworth_k01_coarser_kinds) (L := K01.L) (pg := K01.pg) (n := 63) (m := 80) (k := K01.kk) (wf := K01.wf) (i := 13) (hn := 6) (x := "script") (t := K01.tf "law" ["script"] ["script", "k", "pool", "words", "good", "at", "told", "odd"] 21)
      rfl (by decide) (by kernel_rfl) ⟨rfl, by decide, by decide⟩ K01.okT K01.tr rfl (by kernel_rfl) rfl (by kernel_rfl) (by kernel_rfl) K01.law_true

end
