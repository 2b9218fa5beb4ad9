import PyProof.Rows.All
import Wide.All
import OpenK.AllK
import Wide.FinOn
import HandS.ForMost
import HandS.Text
import HandS.SetKeys
import HandS.HeadHook2
import HandS.ExcValue
import HandS.ExcIs
import PyProof.ExcBaseAll.ValueError
import HandS.TupAny
import HandS.Wide
import HandS.IsInst
import HandS.Flow
import HandS.ExcOwn
import HandS.CallSlots
import HandS.TryOnly
import HandS.Exc
import HandS.Defaults
import HandS.Head0
import HandS.Head1
import HandS.Head2
import HandS.HeadEnd
import HandS.HeadHook1
import HandS.Ends
import PySem.Challenge.RW_rimsewn_k01_checks_of_any_value
set_option Elab.async false
set_option linter.all false
set_option maxRecDepth 100000
/-! Mi1: a small language of my own: values without a heap, frames, what its expressions and statements do. -/
namespace Mi
open PySem

/-- a value without the heap: never changed from here on -/
inductive D where
  | non | bl (b : Bool) | int (i : Int) | str (x : Str)
  | lst (xs : List D) | tup (xs : List D)
  | ins (c : Str) (ns : List Str) (xs : List D)
  | exn (c : Str) (ns : List Str) (xs : List D)
  | kset (ks : List L2.Key)
  | dct (ks : List L2.Key) (xs : List D)
instance : Inhabited D := ⟨.non⟩

/-- a slot of a frame: nothing, a value, a thing that this frame alone holds and may change, what a caller lent -/
inductive Slot where
  | no | val (d : D) | own (d : D) | lent (k : Nat)
structure Env where
  sl : List Slot
  le : List (D × Bool)
/-- what an expression gives: a value, a new thing, what stands in a slot -/
inductive W where
  | d (d : D) | o (d : D) | s (i : Nat)
inductive R (α : Type) where
  | ok (a : α) (e : Env) | exc (x : D) (e : Env) | bad
def R.bnd {α β : Type} : R α → (α → Env → R β) → R β
  | .ok a e, f => f a e
  | .exc x e, _ => .exc x e
  | .bad, _ => .bad
@[simp] theorem R.bnd_ok {α β : Type} (a : α) (e : Env) (f : α → Env → R β) : (R.ok a e).bnd f = f a e := rfl
@[simp] theorem R.bnd_exc {α β : Type} (x : D) (e : Env) (f : α → Env → R β) : (R.exc x e : R α).bnd f = .exc x e := rfl
@[simp] theorem R.bnd_bad {α β : Type} (f : α → Env → R β) : (R.bad : R α).bnd f = .bad := rfl

/-- how a call ends: the value and whether it is new; what became of the arguments -/
inductive CR where
  | ok (d : D) (own : Bool) (out : List (D × Bool)) | exc (x : D) (out : List (D × Bool)) | bad
abbrev Cal := Nat → List (D × Bool) → CR

/-- what a slot holds now -/
def Env.at (e : Env) (i : Nat) : Option (D × Bool) := match e.sl[i]? with
  | some (.val d) => some (d, false)
  | some (.own d) => some (d, true)
  | some (.lent k) => e.le[k]?
  | _ => none
/-- what w is now, and whether it may be changed -/
def Env.see (e : Env) : W → Option (D × Bool)
  | .d d => some (d, false)
  | .o d => some (d, true)
  | .s i => e.at i
def Env.cur (e : Env) (w : W) : Option D := (e.see w).map (·.1)
def Env.setS (e : Env) (i : Nat) (s : Slot) : Env := { e with sl := e.sl.set i s }
/-- the slot's thing is given another content, or is from now on a value -/
def Env.put (e : Env) (i : Nat) (p : D × Bool) : Env := match e.sl[i]? with
  | some (.own _) => e.setS i (if p.2 then .own p.1 else .val p.1)
  | some (.lent k) => { e with le := e.le.set k p }
  | _ => e
/-- what can be told as a value -/
def fzb : D → Bool
  | .lst _ => true
  | .ins _ _ _ => true
  | .dct _ _ => true
  | _ => false
def Env.fz (e : Env) (w : W) (d : D) : Env := match w with
  | .s i => e.put i (d, false)
  | _ => e
/-- w is taken as a value (it is not changed from here on) -/
def Env.tak (e : Env) (w : W) : Option (D × Env) := match e.see w with
  | some (d, false) => some (d, e)
  | some (d, true) => if fzb d then some (d, e.fz w d) else none
  | none => none
def Env.taks (e : Env) : List W → Option (List D × Env)
  | [] => some ([], e)
  | w :: ws => match e.tak w with
    | some (d, e1) => (match e1.taks ws with
      | some (ds, e2) => some (d :: ds, e2)
      | none => none)
    | none => none
def Env.curs (e : Env) : List W → Option (List D)
  | [] => some []
  | w :: ws => match e.cur w, e.curs ws with
    | some d, some ds => some (d :: ds)
    | _, _ => none

mutual
def beqD : D → D → Bool
  | .non, .non => true
  | .bl a, .bl b => a == b
  | .int a, .int b => decide (a = b)
  | .str a, .str b => decide (a = b)
  | .lst a, .lst b => beqDs a b
  | .tup a, .tup b => beqDs a b
  | _, _ => false
def beqDs : List D → List D → Bool
  | [], [] => true
  | a :: as, b :: bs => beqD a b && beqDs as bs
  | _, _ => false
end
mutual
theorem beqD_eq : ∀ {a b : D}, beqD a b = true → a = b
  | .non, b, h => by cases b <;> first | rfl | cases h
  | .bl a, b, h => by
    cases b with
    | bl c => rw [eq_of_beq (show (a == c) = true from h)]
    | _ => cases h
  | .int a, b, h => by
    cases b with
    | int c => rw [of_decide_eq_true (show decide (a = c) = true from h)]
    | _ => cases h
  | .str a, b, h => by
    cases b with
    | str c => rw [of_decide_eq_true (show decide (a = c) = true from h)]
    | _ => cases h
  | .lst a, b, h => by
    cases b with
    | lst c => rw [beqDs_eq (show beqDs a c = true from h)]
    | _ => cases h
  | .tup a, b, h => by
    cases b with
    | tup c => rw [beqDs_eq (show beqDs a c = true from h)]
    | _ => cases h
  | .ins _ _ _, b, h => by cases b <;> cases h
  | .exn _ _ _, b, h => by cases b <;> cases h
  | .kset _, b, h => by cases b <;> cases h
  | .dct _ _, b, h => by cases b <;> cases h
theorem beqDs_eq : ∀ {a b : List D}, beqDs a b = true → a = b
  | [], [], _ => rfl
  | [], _ :: _, h => by cases h
  | _ :: _, [], h => by cases h
  | a :: as, b :: bs, h => by
    obtain ⟨h1, h2⟩ := Bool.and_eq_true_iff.mp (show (beqD a b && beqDs as bs) = true from h)
    rw [beqD_eq h1, beqDs_eq h2]
end

/-! ### operations -/
def lim : Nat := 16777216
mutual
def toPy : D → Option PyData
  | .non => some .none
  | .bl b => some (.bool b)
  | .int i => some (.int i)
  | .str x => some (.str x)
  | .lst xs => (toPys xs).map .list
  | .tup xs => (toPys xs).map .tuple
  | _ => none
def toPys : List D → Option (List PyData)
  | [] => some []
  | d :: ds => match toPy d, toPys ds with
    | some p, some ps => some (p :: ps)
    | _, _ => none
end
def eqLen : D → D → Option Bool
  | .lst xs, .lst ys => if xs.length = ys.length then none else some false
  | _, _ => none
/-- == of plain data (two lists of unlike lengths: whatever they hold) -/
def eqD (a b : D) : Option Bool := match toPy a, toPy b with
  | some p, some q => if SeqAt.shaped p && SeqAt.shaped q then some (PyData.eqv p q) else eqLen a b
  | _, _ => eqLen a b
def truth : D → Option Bool
  | .non => some false
  | .bl b => some b
  | .int i => some (i != 0)
  | .str y => some ((y.length : Int) != 0)
  | .lst xs => some (!xs.isEmpty)
  | .tup xs => some (!xs.isEmpty)
  | .dct ks _ => some (!ks.isEmpty)
  | _ => none
def mulOk (i j : Int) : Bool := decide (i.natAbs < 2 ^ 63) || decide (j.natAbs < 2 ^ 63) || decide (i.natAbs.log2 + j.natAbs.log2 < 1000000)
def strMul (z : Str) (n : Int) : Str := if n < 1 then Str.empty else if (n == 1 || z.length == 0) = true then z else ⟨(List.replicate n.toNat z.cps).foldl (· ++ ·) #[]⟩
def opBin : Operator → D → D → Option W
  | .Add, .int i, .int j => some (.d (.int (i + j)))
  | .Add, .str x, .str y => if x.length + y.length ≤ lim then some (.d (.str (x ++ y))) else none
  | .Add, .lst xs, .lst ys => if xs.length + ys.length ≤ lim then some (.o (.lst (xs ++ ys))) else none
  | .Add, .tup xs, .tup ys => if xs.length + ys.length ≤ lim then some (.d (.tup (xs ++ ys))) else none
  | .Sub, .int i, .int j => some (.d (.int (i - j)))
  | .Mult, .int i, .int j => if mulOk i j then some (.d (.int (i * j))) else none
  | .Mult, .str x, .int n => if decide (n.natAbs < 2 ^ 31) && (decide (x.length ≤ lim) && decide (x.length * n.toNat ≤ lim)) then some (.d (.str (strMul x n))) else none
  | .FloorDiv, .int i, .int j => if decide (0 < j) && decide (j.natAbs.log2 < 9000) then some (.d (.int (i / j))) else none
  | .Mod, .int i, .int j => if 0 < j then some (.d (.int (i % j))) else none
  | .Pow, .int i, .int j => if decide (0 ≤ j) && (decide (j ≤ 1000000) && decide (i.natAbs < 2 ^ 64)) then some (.d (.int (i ^ j.toNat))) else none
  | _, _, _ => none
def keyD : D → Option L2.Key
  | .int i => some (.inl i)
  | .str x => some (.inr x)
  | _ => none
def keyIn (k : L2.Key) (ks : List L2.Key) : Bool := ks.any fun z => decide (z = k)
def lookD (k : L2.Key) : List L2.Key → List D → Option D
  | z :: zs, x :: xs => if z = k then some x else lookD k zs xs
  | _, _ => none
def flatD : D → Bool
  | .non | .bl _ | .int _ | .str _ => true
  | _ => false
def eqF : D → D → Bool
  | .non, .non => true
  | .bl a, .bl b => a == b
  | .bl a, .int b => (if a then 1 else 0) == b
  | .int a, .bl b => a == (if b then 1 else 0)
  | .int a, .int b => a == b
  | .str a, .str b => a == b
  | _, _ => false
def inF (x : D) (xs : List D) : Bool := xs.any fun y => eqF y x
def opIn : D → D → Option Bool
  | x, .lst ys => if flatD x && ys.all flatD then some (inF x ys) else none
  | x, .tup ys => if flatD x && ys.all flatD then some (inF x ys) else none
  | .str x, .str y => (match x.cps.toList with
    | [c] => some (decide (c ∈ y.cps.toList))
    | _ => none)
  | x, .kset ks => (keyD x).map fun k => keyIn k ks
  | _, _ => none
def isNonD : D → Bool
  | .non => true
  | _ => false
def opCmp : CmpOp → D → D → Option Bool
  | .Eq, a, b => eqD a b
  | .NotEq, a, b => (eqD a b).map (!·)
  | .Lt, .int i, .int j => some (decide (i < j))
  | .LtE, .int i, .int j => some (decide (i ≤ j))
  | .Gt, .int i, .int j => some (decide (j < i))
  | .GtE, .int i, .int j => some (decide (j ≤ i))
  | .In, a, b => opIn a b
  | .NotIn, a, b => (opIn a b).map (!·)
  | .Is, a, .non => some (isNonD a)
  | .IsNot, a, .non => some (!isNonD a)
  | _, _, _ => none
def opIx : D → D → Option D
  | .lst xs, .int i => L2.atI xs i
  | .tup xs, .int i => L2.atI xs i
  | .str x, .int i => (L2.atI x.cps.toList i).map fun c => .str ⟨#[c]⟩
  | _, _ => none
def cutD (xs : List D) (lo hi : Option Int) : List D := (xs.drop (HT.sIx xs.length 0 lo)).take (HT.sIx xs.length xs.length hi - HT.sIx xs.length 0 lo)
def opSl : D → Option Int → Option Int → Option W
  | .lst xs, lo, hi => some (.o (.lst (cutD xs lo hi)))
  | .tup xs, lo, hi => some (.d (.tup (cutD xs lo hi)))
  | .str x, lo, hi => some (.d (.str (L2.cutS x lo hi)))
  | _, _, _ => none

def Env.setSs (e : Env) : List Nat → List D → Env
  | i :: is, d :: ds => (e.setS i (.val d)).setSs is ds
  | _, _ => e

/-! ### the language -/
/-- built-in functions -/
inductive Bi where
  | len | abs | int | tuple | list | set
  deriving DecidableEq
/-- methods of built-in types -/
inductive Me where
  | append | extend | add
  deriving DecidableEq
/-- what is bound: a name, or the names of a tuple of as many -/
inductive Tg where
  | one (i : Nat) | many (is : List Nat)
def Tg.ids : Tg → List Nat
  | .one i => [i]
  | .many is => is
inductive Ex where
  | k (d : D) | v (i : Nat) | g (x : Str) (d : D)
  | op (o : Operator) (a b : Ex) | neg (a : Ex) | cmp (o : CmpOp) (a b : Ex) | chain (o o' : CmpOp) (a b c : Ex)
  | and (a b : Ex) | or (a b : Ex) | not (a : Ex) | ife (c a b : Ex)
  | tup (es : Ex) | lst (es : Ex) | nil | cons (e r : Ex)
  | ix (a b : Ex) | sl (a lo hi : Ex) | no
  | bi (b : Bi) (es : Ex) | me (m : Me) (o es : Ex)
  | call (f : Nat) (es : Ex) | callk (f : Nat) (es ks : Ex) (perm : List Nat)
  | isi (e : Ex) (cs : List String)
  | lc (tg : Tg) (e it c : Ex) | mk (c : Str)
  | rng1 (a : Ex) | rng2 (a b : Ex) | en (a : Ex) | zp (a b : Ex)
inductive St where
  | skip | seq (a b : St) | set (i : Nat) (e : Ex) | unp (is : List Nat) (e : Ex) | par (is : List Nat) (es : Ex)
  | sub (o i e : Ex) | drop (e : Ex) | ifs (c : Ex) (a b : St) | whl (c : Ex) (b : St)
  | fors (tg : Tg) (it : Ex) (b : St) | ret (e : Ex) | retN | brk | cnt
def R.ofO {α : Type} (o : Option α) (e : Env) : R α := match o with
  | some a => .ok a e
  | none => .bad
@[simp] theorem R.ofO_some {α : Type} (a : α) (e : Env) : R.ofO (some a) e = .ok a e := rfl
@[simp] theorem R.ofO_none {α : Type} (e : Env) : R.ofO (none : Option α) e = .bad := rfl
def biOp : Bi → List D → Option W
  | .len, [.lst xs] => some (.d (.int xs.length))
  | .len, [.tup xs] => some (.d (.int xs.length))
  | .len, [.str x] => some (.d (.int x.length))
  | .abs, [.int i] => some (.d (.int (if i < 0 then -i else i)))
  | .int, [.int i] => some (.d (.int i))
  | .int, [.bl b] => some (.d (.int (if b then 1 else 0)))
  | .tuple, [.lst xs] => some (.d (.tup xs))
  | .tuple, [.tup xs] => some (.d (.tup xs))
  | .list, [.lst xs] => some (.o (.lst xs))
  | .list, [.tup xs] => some (.o (.lst xs))
  | .set, [] => some (.o (.kset []))
  | _, _ => none
/-- a method that changes its thing: the new content, the value -/
def meOp : Me → D → List D → Option (D × D)
  | .append, .lst xs, [y] => if xs.length < lim then some (.lst (xs ++ [y]), .non) else none
  | .extend, .lst xs, [.lst ys] => if xs.length + ys.length ≤ lim then some (.lst (xs ++ ys), .non) else none
  | .add, .kset ks, [y] => (match keyD y with
    | some k => if ks.length + 1 < 4096 then some (.kset (if keyIn k ks then ks else ks ++ [k]), .non) else none
    | none => none)
  | _, _, _ => none
def meTyp : Me → D → Bool
  | .append, .lst _ => true
  | .extend, .lst _ => true
  | .add, .kset _ => true
  | _, _ => false
def tyName : D → Option String
  | .non => some "NoneType"
  | .bl _ => some "bool"
  | .int _ => some "int"
  | .str _ => some "str"
  | .lst _ => some "list"
  | .tup _ => some "tuple"
  | _ => none
/-- isinstance against built-in classes: the subclasses are bool below int alone -/
def isTy (n : String) (c : String) : Bool := n == c || (n == "bool" && c == "int")
/-- isinstance(d, (cs)), cs built-in classes -/
def isiD (cs : List String) : D → Option Bool
  | .exn _ _ _ => some false
  | d => (tyName d).map fun n => cs.any (isTy n)
/-- who holds what may be changed at w: the slot, the k-th of what was lent -/
def Env.okey (e : Env) : W → Option (Bool × Nat)
  | .s i => (match e.sl[i]? with
    | some (.own _) => some (false, i)
    | some (.lent k) => some (true, k)
    | _ => none)
  | _ => none
def sameKey (e : Env) (w u : W) : Bool := match e.okey w, e.okey u with | some x, some y => x == y | _, _ => false
/-- the arguments as a callee is handed them; none if one thing that may be changed is handed twice -/
def Env.hand (e : Env) : List W → Option (List (D × Bool))
  | [] => some []
  | w :: ws => match e.see w, e.hand ws with
    | some p, some ps => if p.2 && ws.any (sameKey e w) then none else some (p :: ps)
    | _, _ => none
/-- what became of the arguments, behind a call -/
def Env.back (e : Env) : List W → List (D × Bool) → List (D × Bool) → Env
  | .s i :: ws, a :: as, p :: ps => (if a.2 then e.put i p else e).back ws as ps
  | _ :: ws, _ :: as, _ :: ps => e.back ws as ps
  | _, _, _ => e
def Env.bindT (e : Env) : Tg → D → Option Env
  | .one i, d => some (e.setS i (.val d))
  | .many is, .tup ds => if ds.length = is.length then some (e.setSs is ds) else none
  | .many is, .lst ds => if ds.length = is.length then some (e.setSs is ds) else none
  | _, _ => none
/-- the slots of a comprehension's own names, if they hold nothing that may be changed -/
def Env.parked (e : Env) : List Nat → Option (List Slot)
  | [] => some []
  | i :: is => match e.sl[i]?, e.parked is with
    | some .no, some ss => some (.no :: ss)
    | some (.val d), some ss => some (.val d :: ss)
    | _, _ => none
def Env.wipeS (e : Env) : List Nat → Env
  | [] => e
  | i :: is => (e.wipeS is).setS i .no
def Env.backS (e : Env) : List Nat → List Slot → Env
  | i :: is, s :: ss => (e.backS is ss).setS i s
  | _, _ => e
/-- a comprehension's turns: its names are wiped ahead of each -/
def lcL (c : D → Env → R Bool) (f : Env → R W) : List D → List D → Env → R (List D)
  | [], acc, e => .ok acc e
  | d :: ds, acc, e => (c d e).bnd fun t e1 => if t then (f e1).bnd fun w e2 => (match e2.tak w with
      | some (y, e3) => if acc.length < lim then lcL c f ds (acc ++ [y]) e3 else .bad
      | none => .bad) else lcL c f ds acc e1
def rngD (m n : Int) : List D := (List.range (n - m).toNat).map fun (i : Nat) => D.int (m + (i : Int))
def enD : Nat → List D → List D
  | _, [] => []
  | i, d :: ds => .tup [.int (i : Int), d] :: enD (i + 1) ds
def zpD : List D → List D → List D
  | a :: as, b :: bs => .tup [a, b] :: zpD as bs
  | _, _ => []
def picks {α : Type} (l : List α) : List Nat → Option (List α)
  | [] => some []
  | i :: is => match l[i]?, picks l is with
    | some x, some r => some (x :: r)
    | _, _ => none
/-- new things become values -/
def freesW : List W → Option (List W)
  | [] => some []
  | w :: ws => match freesW ws with
    | some r => (match w with
      | .o d => if fzb d then some (.d d :: r) else none
      | w => some (w :: r))
    | none => none
structure Bun where
  E : Env → R W
  A : Env → R (List W)
  T : Env → R Bool
  O : Env → R (Option Int)
  I : Env → R (List D)
def bT (E : Env → R W) (e : Env) : R Bool := (E e).bnd fun x e1 => R.ofO ((e1.cur x).bind truth) e1
def bO (E : Env → R W) (e : Env) : R (Option Int) := (E e).bnd fun x e1 => match e1.cur x with
    | some (.int i) => .ok (some i) e1
    | _ => .bad
def bI (E : Env → R W) (e : Env) : R (List D) := (E e).bnd fun x e1 => match e1.tak x with
    | some (.lst xs, e2) => .ok xs e2
    | some (.tup xs, e2) => .ok xs e2
    | some (.str z, e2) => .ok (z.cps.toList.map fun c => .str ⟨#[c]⟩) e2
    | _ => .bad
def bunE (E : Env → R W) : Bun := ⟨E, fun _ => .bad, bT E, bO E, bI E⟩
def bunN : Bun := ⟨fun _ => .bad, fun _ => .bad, fun _ => .bad, fun _ => .bad, fun _ => .bad⟩
def ev (cal : Cal) : Ex → Bun
  | .k d => bunE (fun e => .ok (.d d) e)
  | .v i => bunE (fun e => match e.at i with
    | some _ => .ok (.s i) e
    | none => .bad)
  | .g _ d => bunE (fun e => .ok (.d d) e)
  | .op o a b => bunE (fun e => ((ev cal a).E e).bnd fun x e1 => ((ev cal b).E e1).bnd fun y e2 => match e2.cur x, e2.cur y with
    | some p, some q => R.ofO (opBin o p q) e2
    | _, _ => .bad)
  | .neg a => bunE (fun e => ((ev cal a).E e).bnd fun x e1 => match e1.cur x with
    | some (.int i) => .ok (.d (.int (-i))) e1
    | _ => .bad)
  | .cmp o a b => bunE (fun e => ((ev cal a).E e).bnd fun x e1 => ((ev cal b).E e1).bnd fun y e2 => match e2.cur x, e2.cur y with
    | some p, some q => R.ofO ((opCmp o p q).map fun c => .d (.bl c)) e2
    | _, _ => .bad)
  | .chain o o' a b c => bunE (fun e => ((ev cal a).E e).bnd fun x e1 => ((ev cal b).E e1).bnd fun y e2 => match e2.cur x, e2.cur y with
    | some p, some q => (match opCmp o p q with
      | some true => ((ev cal c).E e2).bnd fun z e3 => (match e3.cur y, e3.cur z with
        | some q', some r => R.ofO ((opCmp o' q' r).map fun c => .d (.bl c)) e3
        | _, _ => .bad)
      | some false => .ok (.d (.bl false)) e2
      | none => .bad)
    | _, _ => .bad)
  | .and a b => { bunE (fun e => ((ev cal a).E e).bnd fun x e1 => match (e1.cur x).bind truth with
    | some true => (ev cal b).E e1
    | some false => .ok x e1
    | none => .bad) with T := fun e => ((ev cal a).T e).bnd fun t e1 => if t then (ev cal b).T e1 else .ok false e1 }
  | .or a b => { bunE (fun e => ((ev cal a).E e).bnd fun x e1 => match (e1.cur x).bind truth with
    | some true => .ok x e1
    | some false => (ev cal b).E e1
    | none => .bad) with T := fun e => ((ev cal a).T e).bnd fun t e1 => if t then .ok true e1 else (ev cal b).T e1 }
  | .not a => { bunE (fun e => ((ev cal a).E e).bnd fun x e1 => match (e1.cur x).bind truth with
    | some c => .ok (.d (.bl (!c))) e1
    | none => .bad) with T := fun e => ((ev cal a).T e).bnd fun t e1 => .ok (!t) e1 }
  | .ife c a b => { bunE (fun e => ((ev cal c).T e).bnd fun t e1 => if t then (ev cal a).E e1 else (ev cal b).E e1) with T := fun e => .bad }
  | .tup es => bunE (fun e => ((ev cal es).A e).bnd fun ws e1 => match e1.taks ws with
    | some (ds, e2) => if ds.length ≤ lim then .ok (.d (.tup ds)) e2 else .bad
    | none => .bad)
  | .lst es => bunE (fun e => ((ev cal es).A e).bnd fun ws e1 => match e1.taks ws with
    | some (ds, e2) => if ds.length ≤ lim then .ok (.o (.lst ds)) e2 else .bad
    | none => .bad)
  | .ix a b => bunE (fun e => ((ev cal a).E e).bnd fun x e1 => ((ev cal b).E e1).bnd fun y e2 => match e2.cur x, e2.cur y with
    | some p, some q => R.ofO ((opIx p q).map .d) e2
    | _, _ => .bad)
  | .sl a lo hi => bunE (fun e => ((ev cal a).E e).bnd fun x e1 => ((ev cal lo).O e1).bnd fun l e2 => ((ev cal hi).O e2).bnd fun h e3 => match e3.cur x with
    | some p => R.ofO (opSl p l h) e3
    | none => .bad)
  | .bi b es => bunE (fun e => ((ev cal es).A e).bnd fun ws e1 => match e1.curs ws with
    | some ds => R.ofO (biOp b ds) e1
    | none => .bad)
  | .me m o es => bunE (fun e => ((ev cal o).E e).bnd fun x e1 => if (e1.cur x).any (meTyp m) then ((ev cal es).A e1).bnd fun ws e2 => match x with
    | .s i => (match e2.taks ws with
      | some (ds, e3) => (match e3.at i with
        | some (d, true) => (match meOp m d ds with
          | some (d', r) => .ok (.d r) (e3.put i (d', true))
          | none => .bad)
        | _ => .bad)
      | none => .bad)
    | _ => .bad else .bad)
  | .call f es => bunE (fun e => ((ev cal es).A e).bnd fun ws e1 => match e1.hand ws with
    | some as => (match cal f as with
      | .ok d own out => .ok (if own then .o d else .d d) (e1.back ws as out)
      | .exc x out => .exc x (e1.back ws as out)
      | .bad => .bad)
    | none => .bad)
  | .callk f es ks perm => bunE (fun e => ((ev cal es).A e).bnd fun ws e1 => ((ev cal ks).A e1).bnd fun zs e2 => match (freesW (ws ++ zs)).bind fun us => picks us perm with
    | some us => (match e2.hand us with
      | some as => (match cal f as with
        | .ok d own out => .ok (if own then .o d else .d d) (e2.back us as out)
        | .exc x out => .exc x (e2.back us as out)
        | .bad => .bad)
      | none => .bad)
    | none => .bad)
  | .isi a cs => bunE (fun e => ((ev cal a).E e).bnd fun x e1 => match (e1.cur x).bind (isiD cs) with
    | some n => .ok (.d (.bl n)) e1
    | none => .bad)
  | .lc tg el it c => bunE (fun e => ((ev cal it).I e).bnd fun xs e1 => match e1.parked tg.ids with
    | some ss => (match lcL (fun d e => match e.bindT tg d with
        | some e' => (ev cal c).T e'
        | none => .bad) (fun e => (ev cal el).E e) xs [] (e1.wipeS tg.ids) with
      | .ok ys e2 => .ok (.o (.lst ys)) (e2.backS tg.ids ss)
      | _ => .bad)
    | none => .bad)
  | .mk c => bunE (fun e => .ok (.d (.exn c [] [])) e)
  | .nil => { bunN with A := fun e => .ok [] e }
  | .cons a r => { bunN with A := fun e => ((ev cal a).E e).bnd fun x e1 => ((ev cal r).A e1).bnd fun ws e2 => .ok (x :: ws) e2 }
  | .no => { bunN with O := fun e => .ok none e }
  | .rng1 a => { bunN with I := fun e => ((ev cal a).E e).bnd fun x e1 => match e1.cur x with
    | some (.int n) => if n.natAbs < 2 ^ 61 then .ok (rngD 0 n) e1 else .bad
    | _ => .bad }
  | .rng2 a b => { bunN with I := fun e => ((ev cal a).E e).bnd fun x e1 => ((ev cal b).E e1).bnd fun y e2 => match e2.cur x, e2.cur y with
    | some (.int m), some (.int n) => if decide (m.natAbs < 2 ^ 61) && decide (n.natAbs < 2 ^ 61) then .ok (rngD m n) e2 else .bad
    | _, _ => .bad }
  | .en a => { bunN with I := fun e => ((ev cal a).E e).bnd fun x e1 => match e1.tak x with
    | some (.lst xs, e2) => .ok (enD 0 xs) e2
    | _ => .bad }
  | .zp a b => { bunN with I := fun e => ((ev cal a).E e).bnd fun x e1 => ((ev cal b).E e1).bnd fun y e2 => match e2.taks [x, y] with
    | some ([.lst xs, .lst ys], e3) => .ok (zpD xs ys) e3
    | _ => .bad }
def evE (cal : Cal) (m : Ex) (e : Env) : R W := (ev cal m).E e
def evA (cal : Cal) (m : Ex) (e : Env) : R (List W) := (ev cal m).A e
def evT (cal : Cal) (m : Ex) (e : Env) : R Bool := (ev cal m).T e
def evO (cal : Cal) (m : Ex) (e : Env) : R (Option Int) := (ev cal m).O e
def evI (cal : Cal) (m : Ex) (e : Env) : R (List D) := (ev cal m).I e
theorem evE_k (cal : Cal) {d} (e : Env) : evE cal (Ex.k d) e = .ok (.d d) e := rfl
theorem evE_v (cal : Cal) {i} (e : Env) : evE cal (Ex.v i) e = match e.at i with
    | some _ => .ok (.s i) e
    | none => .bad := rfl
theorem evE_g (cal : Cal) {x_} {d} (e : Env) : evE cal (Ex.g x_ d) e = .ok (.d d) e := rfl
theorem evE_op (cal : Cal) {o} {a} {b} (e : Env) : evE cal (Ex.op o a b) e = (evE cal a e).bnd fun x e1 => (evE cal b e1).bnd fun y e2 => match e2.cur x, e2.cur y with
    | some p, some q => R.ofO (opBin o p q) e2
    | _, _ => .bad := rfl
theorem evE_neg (cal : Cal) {a} (e : Env) : evE cal (Ex.neg a) e = (evE cal a e).bnd fun x e1 => match e1.cur x with
    | some (.int i) => .ok (.d (.int (-i))) e1
    | _ => .bad := rfl
theorem evE_cmp (cal : Cal) {o} {a} {b} (e : Env) : evE cal (Ex.cmp o a b) e = (evE cal a e).bnd fun x e1 => (evE cal b e1).bnd fun y e2 => match e2.cur x, e2.cur y with
    | some p, some q => R.ofO ((opCmp o p q).map fun c => .d (.bl c)) e2
    | _, _ => .bad := rfl
theorem evE_chain (cal : Cal) {o} {o'} {a} {b} {c} (e : Env) : evE cal (Ex.chain o o' a b c) e = (evE cal a e).bnd fun x e1 => (evE cal b e1).bnd fun y e2 => match e2.cur x, e2.cur y with
    | some p, some q => (match opCmp o p q with
      | some true => (evE cal c e2).bnd fun z e3 => (match e3.cur y, e3.cur z with
        | some q', some r => R.ofO ((opCmp o' q' r).map fun c => .d (.bl c)) e3
        | _, _ => .bad)
      | some false => .ok (.d (.bl false)) e2
      | none => .bad)
    | _, _ => .bad := rfl
theorem evE_and (cal : Cal) {a} {b} (e : Env) : evE cal (Ex.and a b) e = (evE cal a e).bnd fun x e1 => match (e1.cur x).bind truth with
    | some true => evE cal b e1
    | some false => .ok x e1
    | none => .bad := rfl
theorem evE_or (cal : Cal) {a} {b} (e : Env) : evE cal (Ex.or a b) e = (evE cal a e).bnd fun x e1 => match (e1.cur x).bind truth with
    | some true => .ok x e1
    | some false => evE cal b e1
    | none => .bad := rfl
theorem evE_not (cal : Cal) {a} (e : Env) : evE cal (Ex.not a) e = (evE cal a e).bnd fun x e1 => match (e1.cur x).bind truth with
    | some c => .ok (.d (.bl (!c))) e1
    | none => .bad := rfl
theorem evE_ife (cal : Cal) {c} {a} {b} (e : Env) : evE cal (Ex.ife c a b) e = (evT cal c e).bnd fun t e1 => if t then evE cal a e1 else evE cal b e1 := rfl
theorem evE_tup (cal : Cal) {es} (e : Env) : evE cal (Ex.tup es) e = (evA cal es e).bnd fun ws e1 => match e1.taks ws with
    | some (ds, e2) => if ds.length ≤ lim then .ok (.d (.tup ds)) e2 else .bad
    | none => .bad := rfl
theorem evE_lst (cal : Cal) {es} (e : Env) : evE cal (Ex.lst es) e = (evA cal es e).bnd fun ws e1 => match e1.taks ws with
    | some (ds, e2) => if ds.length ≤ lim then .ok (.o (.lst ds)) e2 else .bad
    | none => .bad := rfl
theorem evE_ix (cal : Cal) {a} {b} (e : Env) : evE cal (Ex.ix a b) e = (evE cal a e).bnd fun x e1 => (evE cal b e1).bnd fun y e2 => match e2.cur x, e2.cur y with
    | some p, some q => R.ofO ((opIx p q).map .d) e2
    | _, _ => .bad := rfl
theorem evE_sl (cal : Cal) {a} {lo} {hi} (e : Env) : evE cal (Ex.sl a lo hi) e = (evE cal a e).bnd fun x e1 => (evO cal lo e1).bnd fun l e2 => (evO cal hi e2).bnd fun h e3 => match e3.cur x with
    | some p => R.ofO (opSl p l h) e3
    | none => .bad := rfl
theorem evE_bi (cal : Cal) {b} {es} (e : Env) : evE cal (Ex.bi b es) e = (evA cal es e).bnd fun ws e1 => match e1.curs ws with
    | some ds => R.ofO (biOp b ds) e1
    | none => .bad := rfl
theorem evE_me (cal : Cal) {m} {o} {es} (e : Env) : evE cal (Ex.me m o es) e = (evE cal o e).bnd fun x e1 => if (e1.cur x).any (meTyp m) then (evA cal es e1).bnd fun ws e2 => match x with
    | .s i => (match e2.taks ws with
      | some (ds, e3) => (match e3.at i with
        | some (d, true) => (match meOp m d ds with
          | some (d', r) => .ok (.d r) (e3.put i (d', true))
          | none => .bad)
        | _ => .bad)
      | none => .bad)
    | _ => .bad else .bad := rfl
theorem evE_call (cal : Cal) {f} {es} (e : Env) : evE cal (Ex.call f es) e = (evA cal es e).bnd fun ws e1 => match e1.hand ws with
    | some as => (match cal f as with
      | .ok d own out => .ok (if own then .o d else .d d) (e1.back ws as out)
      | .exc x out => .exc x (e1.back ws as out)
      | .bad => .bad)
    | none => .bad := rfl
theorem evE_callk (cal : Cal) {f} {es} {ks} {perm} (e : Env) : evE cal (Ex.callk f es ks perm) e = (evA cal es e).bnd fun ws e1 => (evA cal ks e1).bnd fun zs e2 => match (freesW (ws ++ zs)).bind fun us => picks us perm with
    | some us => (match e2.hand us with
      | some as => (match cal f as with
        | .ok d own out => .ok (if own then .o d else .d d) (e2.back us as out)
        | .exc x out => .exc x (e2.back us as out)
        | .bad => .bad)
      | none => .bad)
    | none => .bad := rfl
theorem evE_isi (cal : Cal) {a} {cs} (e : Env) : evE cal (Ex.isi a cs) e = (evE cal a e).bnd fun x e1 => match (e1.cur x).bind (isiD cs) with
    | some n => .ok (.d (.bl n)) e1
    | none => .bad := rfl
theorem evE_mk (cal : Cal) {c} (e : Env) : evE cal (Ex.mk c) e = .ok (.d (.exn c [] [])) e := rfl
theorem evE_lc (cal : Cal) {tg} {el} {it} {c} (e : Env) : evE cal (Ex.lc tg el it c) e = (evI cal it e).bnd fun xs e1 => match e1.parked tg.ids with
    | some ss => (match lcL (fun d e => match e.bindT tg d with
        | some e' => evT cal c e'
        | none => .bad) (fun e => evE cal el e) xs [] (e1.wipeS tg.ids) with
      | .ok ys e2 => .ok (.o (.lst ys)) (e2.backS tg.ids ss)
      | _ => .bad)
    | none => .bad := rfl
theorem evA_nil (cal : Cal)  (e : Env) : evA cal (Ex.nil) e = .ok [] e := rfl
theorem evA_cons (cal : Cal) {a} {r} (e : Env) : evA cal (Ex.cons a r) e = (evE cal a e).bnd fun x e1 => (evA cal r e1).bnd fun ws e2 => .ok (x :: ws) e2 := rfl
theorem evO_no (cal : Cal)  (e : Env) : evO cal (Ex.no) e = .ok none e := rfl
theorem evT_and (cal : Cal) {a} {b} (e : Env) : evT cal (Ex.and a b) e = (evT cal a e).bnd fun t e1 => if t then evT cal b e1 else .ok false e1 := rfl
theorem evT_or (cal : Cal) {a} {b} (e : Env) : evT cal (Ex.or a b) e = (evT cal a e).bnd fun t e1 => if t then .ok true e1 else evT cal b e1 := rfl
theorem evT_not (cal : Cal) {a} (e : Env) : evT cal (Ex.not a) e = (evT cal a e).bnd fun t e1 => .ok (!t) e1 := rfl
theorem evI_rng1 (cal : Cal) {a} (e : Env) : evI cal (Ex.rng1 a) e = (evE cal a e).bnd fun x e1 => match e1.cur x with
    | some (.int n) => if n.natAbs < 2 ^ 61 then .ok (rngD 0 n) e1 else .bad
    | _ => .bad := rfl
theorem evI_rng2 (cal : Cal) {a} {b} (e : Env) : evI cal (Ex.rng2 a b) e = (evE cal a e).bnd fun x e1 => (evE cal b e1).bnd fun y e2 => match e2.cur x, e2.cur y with
    | some (.int m), some (.int n) => if decide (m.natAbs < 2 ^ 61) && decide (n.natAbs < 2 ^ 61) then .ok (rngD m n) e2 else .bad
    | _, _ => .bad := rfl
theorem evI_en (cal : Cal) {a} (e : Env) : evI cal (Ex.en a) e = (evE cal a e).bnd fun x e1 => match e1.tak x with
    | some (.lst xs, e2) => .ok (enD 0 xs) e2
    | _ => .bad := rfl
theorem evI_zp (cal : Cal) {a} {b} (e : Env) : evI cal (Ex.zp a b) e = (evE cal a e).bnd fun x e1 => (evE cal b e1).bnd fun y e2 => match e2.taks [x, y] with
    | some ([.lst xs, .lst ys], e3) => .ok (zpD xs ys) e3
    | _ => .bad := rfl

/-! ### statements -/
inductive SR where
  | nx (e : Env) | brk (e : Env) | cnt (e : Env) | ret (d : D) (own : Bool) (e : Env) | exc (x : D) (e : Env) | bad
def R.st {α : Type} : R α → (α → Env → SR) → SR
  | .ok a e, f => f a e
  | .exc x e, _ => .exc x e
  | .bad, _ => .bad
@[simp] theorem R.st_ok {α : Type} (a : α) (e : Env) (f : α → Env → SR) : (R.ok a e).st f = f a e := rfl
@[simp] theorem R.st_exc {α : Type} (x : D) (e : Env) (f : α → Env → SR) : (R.exc x e : R α).st f = .exc x e := rfl
@[simp] theorem R.st_bad {α : Type} (f : α → Env → SR) : (R.bad : R α).st f = .bad := rfl
def SR.sq : SR → (Env → SR) → SR
  | .nx e, f => f e
  | r, _ => r
@[simp] theorem SR.sq_nx (e : Env) (f : Env → SR) : (SR.nx e).sq f = f e := rfl
@[simp] theorem SR.sq_brk (e : Env) (f : Env → SR) : (SR.brk e).sq f = .brk e := rfl
@[simp] theorem SR.sq_cnt (e : Env) (f : Env → SR) : (SR.cnt e).sq f = .cnt e := rfl
@[simp] theorem SR.sq_ret (d : D) (o : Bool) (e : Env) (f : Env → SR) : (SR.ret d o e).sq f = .ret d o e := rfl
@[simp] theorem SR.sq_exc (x : D) (e : Env) (f : Env → SR) : (SR.exc x e).sq f = .exc x e := rfl
@[simp] theorem SR.sq_bad (f : Env → SR) : SR.bad.sq f = .bad := rfl
def Env.store (e : Env) (i : Nat) : W → Option Env
  | .d d => some (e.setS i (.val d))
  | .o d => some (e.setS i (.own d))
  | w => match e.tak w with
    | some (d, e') => some (e'.setS i (.val d))
    | none => none
def Env.holds (e : Env) : List W → Option (List W × Env)
  | [] => some ([], e)
  | .s i :: ws => match e.tak (.s i) with
    | some (d, e1) => (match e1.holds ws with
      | some (us, e2) => some (.d d :: us, e2)
      | none => none)
    | none => none
  | w :: ws => match e.holds ws with
    | some (us, e2) => some (w :: us, e2)
    | none => none
def Env.setW (e : Env) (i : Nat) : W → Env
  | .d d => e.setS i (.val d)
  | .o d => e.setS i (.own d)
  | .s _ => e
def Env.setWs (e : Env) : List Nat → List W → Env
  | i :: is, w :: ws => (e.setWs is ws).setW i w
  | _, _ => e
def forL (f : D → Env → SR) : List D → Env → SR
  | [], e => .nx e
  | d :: ds, e => match f d e with
    | .nx e1 => forL f ds e1
    | .cnt e1 => forL f ds e1
    | .brk e1 => .nx e1
    | r => r
def whlL (c : Env → R Bool) (f : Env → SR) : Nat → Env → SR
  | 0, _ => .bad
  | n + 1, e => (c e).st fun t e1 => if t then (match f e1 with
    | .nx e2 => whlL c f n e2
    | .cnt e2 => whlL c f n e2
    | .brk e2 => .nx e2
    | r => r) else .nx e1
def turns : Nat := 1000000
def evS (cal : Cal) : St → Env → SR
  | .skip, e => .nx e
  | .seq a b, e => (evS cal a e).sq (evS cal b)
  | .set i x, e => (evE cal x e).st fun w e1 => match e1.store i w with
    | some e2 => .nx e2
    | none => .bad
  | .unp is x, e => (evE cal x e).st fun w e1 => match e1.tak w with
    | some (d, e2) => (match e2.bindT (.many is) d with
      | some e3 => .nx e3
      | none => .bad)
    | none => .bad
  | .par is es, e => (evA cal es e).st fun ws e1 => match e1.holds ws with
    | some (us, e2) => if us.length = is.length then .nx (e2.setWs is us) else .bad
    | none => .bad
  | .sub o i x, e => (evE cal x e).st fun w e1 => (evE cal o e1).st fun wo e2 => (evE cal i e2).st fun wi e3 => match wo, e3.cur wi with
    | .s k, some (.int j) => (match e3.tak w with
      | some (d, e4) => (match e4.at k with
        | some (.lst xs, true) => (match L2.ixN xs.length j with
          | some n => .nx (e4.put k (.lst (xs.set n d), true))
          | none => .bad)
        | _ => .bad)
      | none => .bad)
    | _, _ => .bad
  | .drop x, e => (evE cal x e).st fun _ e1 => .nx e1
  | .ifs c a b, e => (evT cal c e).st fun t e1 => if t then evS cal a e1 else evS cal b e1
  | .whl c b, e => whlL (evT cal c) (evS cal b) turns e
  | .fors tg it b, e => (evI cal it e).st fun xs e1 => forL (fun d e => match e.bindT tg d with
    | some e' => evS cal b e'
    | none => .bad) xs e1
  | .ret x, e => (evE cal x e).st fun w e1 => match w with
    | .d d => .ret d false e1
    | .o d => .ret d true e1
    | .s i => (match e1.sl[i]? with
      | some (.own d) => .ret d true e1
      | _ => (match e1.tak w with
        | some (d, e2) => .ret d false e2
        | none => .bad))
  | .retN, e => .ret .non false e
  | .brk, e => .brk e
  | .cnt, e => .cnt e

/-! ### functions -/
/-- a def: how many names its frame has, its body -/
structure Fn where
  n : Nat
  np : Nat
  dfl : List D
  body : St
/-- the defaults that fill up -/
def Fn.pads (f : Fn) (m : Nat) : List D := f.dfl.drop (f.dfl.length - (f.np - m))
def Fn.full (f : Fn) (as : List (D × Bool)) : List (D × Bool) := as ++ (f.pads as.length).map fun d => (d, false)
def slotsOf : List (D × Bool) → Nat → List Slot
  | [], _ => []
  | p :: ps, k => (if p.2 then .lent k else .val p.1) :: slotsOf ps (k + 1)
def env0 (n : Nat) (as : List (D × Bool)) : Env := ⟨slotsOf as 0 ++ List.replicate (n - as.length) .no, as⟩
def runF (cal : Cal) (f : Fn) (as : List (D × Bool)) : CR := match evS cal f.body (env0 f.n as) with
  | .nx e => .ok .non false e.le
  | .ret d o e => .ok d o e.le
  | .exc x e => .exc x e.le
  | _ => .bad
/-- so many calls deep at most; callF: all arguments are there, callN: the defaults fill up -/
def callF (T : Nat → Option Fn) (cal : Cal) : Cal := fun f as => match T f with
  | some d => runF cal d as
  | none => .bad
def callN (T : Nat → Option Fn) : Nat → Cal
  | 0 => fun _ _ => .bad
  | n + 1 => fun f as => match T f with
    | some d => runF (callN T n) d (d.full as)
    | none => .bad
/-- as callN, all arguments there -/
def callA (T : Nat → Option Fn) : Nat → Cal
  | 0 => fun _ _ => .bad
  | n + 1 => callF T (callN T n)
theorem callN_full {T : Nat → Option Fn} {n f : Nat} {d : Fn} (h : T f = some d) (as : List (D × Bool)) : callN T n f as = callA T n f (d.full as) := by
  cases n with
  | zero => rfl
  | succ n =>
    show (match T f with | some d => runF (callN T n) d (d.full as) | none => .bad) = (match T f with | some d => runF (callN T n) d (Fn.full _ as) | none => .bad)
    rw [h]
theorem picks_map {α β : Type} {l : List α} {f : β → Nat} : ∀ {bs : List β} {g : β → α}, (∀ b ∈ bs, l[f b]? = some (g b)) → picks l (bs.map f) = some (bs.map g)
  | [], _, _ => rfl
  | b :: bs, g, h => by
    show (match l[f b]?, picks l (bs.map f) with | some x, some r => some (x :: r) | _, _ => none) = _
    rw [h b List.mem_cons_self, picks_map (g := g) fun c hc => h c (List.mem_cons_of_mem _ hc)] <;> rfl
theorem picks_app {α : Type} {l : List α} : ∀ {is js : List Nat} {a b : List α}, picks l is = some a → picks l js = some b → picks l (is ++ js) = some (a ++ b)
  | [], _, a, b, h, h' => by cases h; exact h'
  | i :: is, js, a, b, h, h' => by
    have h : (match l[i]?, picks l is with | some x, some r => some (x :: r) | _, _ => none) = some a := h
    show (match l[i]?, picks l (is ++ js) with | some x, some r => some (x :: r) | _, _ => none) = some (a ++ b)
    cases c1 : l[i]? with
    | none => rw [c1] at h; cases h
    | some x =>
      cases c2 : picks l is with
      | none => rw [c1, c2] at h; cases h
      | some r =>
        rw [c1, c2] at h
        cases h
        rw [picks_app c2 h'] <;> rfl
theorem picks_len {α : Type} {l : List α} : ∀ {is : List Nat} {a : List α}, picks l is = some a → a.length = is.length
  | [], a, h => by cases h; rfl
  | i :: is, a, h => by
    have h : (match l[i]?, picks l is with | some x, some r => some (x :: r) | _, _ => none) = some a := h
    cases c1 : l[i]? with
    | none => rw [c1] at h; cases h
    | some x =>
      cases c2 : picks l is with
      | none => rw [c1, c2] at h; cases h
      | some r =>
        rw [c1, c2] at h
        cases h
        simp [picks_len c2]
theorem picks_lt {α : Type} {l : List α} : ∀ {is : List Nat}, (∀ i ∈ is, i < l.length) → ∃ a, picks l is = some a
  | [], _ => ⟨[], rfl⟩
  | i :: is, h => by
    obtain ⟨r, hr⟩ := picks_lt (l := l) fun j hj => h j (List.mem_cons_of_mem _ hj)
    refine ⟨l[i]'(h i List.mem_cons_self) :: r, ?_⟩
    show (match l[i]?, picks l is with | some x, some r => some (x :: r) | _, _ => none) = _
    rw [List.getElem?_eq_getElem (h i List.mem_cons_self), hr] <;> rfl
theorem picks_cons {α : Type} {l : List α} {i : Nat} {is : List Nat} {a : List α} (h : picks l (i :: is) = some a) : ∃ x r, l[i]? = some x ∧ picks l is = some r ∧ a = x :: r := by
  have h : (match l[i]?, picks l is with | some x, some r => some (x :: r) | _, _ => none) = some a := h
  cases c1 : l[i]? with
  | none => rw [c1] at h; cases h
  | some x =>
    cases c2 : picks l is with
    | none => rw [c1, c2] at h; cases h
    | some r =>
      rw [c1, c2] at h
      cases h
      exact ⟨x, r, rfl, rfl, rfl⟩
theorem picks_mem {α : Type} {l : List α} : ∀ {is : List Nat} {a : List α}, picks l is = some a → ∀ x ∈ a, x ∈ l
  | [], a, h, x, hx => by cases h; cases hx
  | i :: is, a, h, x, hx => by
    obtain ⟨y, r, h1, h2, rfl⟩ := picks_cons h
    rcases List.mem_cons.mp hx with rfl | hx
    · exact List.mem_of_getElem? h1
    · exact picks_mem h2 x hx
theorem picks_mk {α : Type} {l : List α} {i : Nat} {is : List Nat} {x : α} {r : List α} (h1 : l[i]? = some x) (h2 : picks l is = some r) : picks l (i :: is) = some (x :: r) := by
  show (match l[i]?, picks l is with | some x, some r => some (x :: r) | _, _ => none) = _
  rw [h1, h2]
theorem picks_zip {α β : Type} {l : List α} {m : List β} : ∀ {is : List Nat} {a : List α} {b : List β}, picks l is = some a → picks m is = some b → picks (l.zip m) is = some (a.zip b)
  | [], a, b, h, h' => by cases h; cases h'; rfl
  | i :: is, a, b, h, h' => by
    obtain ⟨x, r, h1, h2, rfl⟩ := picks_cons h
    obtain ⟨y, q, h3, h4, rfl⟩ := picks_cons h'
    have hz : (l.zip m)[i]? = some (x, y) := by rw [List.getElem?_zip_eq_some]; exact ⟨h1, h3⟩
    exact picks_mk hz (picks_zip h2 h4)
end Mi

set_option Elab.async false
set_option linter.all false
set_option maxRecDepth 100000
set_option maxHeartbeats 1000000
/-! Mi2: how the values and frames of the small language stand in the abstract heap. -/
namespace Mi
open PySem L2

abbrev Sub (F H : Hp) : Prop := ∀ a o, F a = some o → H a = some o
def tyB : List String := ["int", "bool", "str", "list", "tuple"]
/-- an own exception class whose instances isinstance asks rightly -/
def excB (K : PySem.W.Frag) (c : Str) : Bool :=
  He.eqO (PySem.W.findIn K (.ref (He.ga K c)) "__getattribute__") (some (some (.builtin "BaseException.__getattribute__"))) && (He.eqO (PySem.W.findIn K (.ref (He.ga K c)) "__getattr__") (some none) &&
  (decide (PySem.W.subIn K (.ref (He.ga K c)) (.type "BaseException") = some true) && (PySem.W.hasDictIn K (He.ga K c) && (He.eqO (PySem.W.findIn K (.ref (He.ga K c)) "__class__") (some (some (.builtin "object.__class__"))) &&
  (He.eqO (PySem.W.specialIn K (.builtin "object.__class__") "__get__") (some (some (.builtin "getset_descriptor.__get__"))) && (decide (PySem.W.takesIn K (.builtin "object.__class__") = some true) && (decide (PySem.W.mroIn K (He.ga K c) (.type "object") = some true) &&
  tyB.all fun T => decide (PySem.W.kitOne K (.ref (He.ga K c)) (.type T) = some false))))))))
theorem excB_ok {K : PySem.W.Frag} {c : Str} (h : excB K c = true) : ExcC K (He.ga K c) ∧ ∀ T ∈ tyB, PySem.W.kitOne K (.ref (He.ga K c)) (.type T) = some false := by
  unfold excB at h
  simp only [Bool.and_eq_true, decide_eq_true_eq, List.all_eq_true] at h
  obtain ⟨h1, h2, h3, h4, h5, h6, h7, h8, h9⟩ := h
  exact ⟨⟨He.eqO_ok h1, He.eqO_ok h2, h3, h4, He.eqO_ok h5, He.eqO_ok h6, h7, h8⟩, h9⟩
section
variable (K : PySem.W.Frag)
mutual
def Rep (F : Hp) : D → V → Prop
  | .non, v => v = .non
  | .bl b, v => v = .bl b
  | .int i, v => v = .int i
  | .str x, v => v = .str x ∧ x.length ≤ lim
  | .lst ds, v => ∃ a vs, v = .ref a ∧ SqL K F a vs ∧ RepL F ds vs
  | .tup ds, v => ∃ a vs, v = .ref a ∧ SqT K F a vs ∧ RepL F ds vs
  | .ins c ns ds, v => ∃ a dx gs, v = .ref a ∧ F a = some (.ins (He.ga K c) dx gs) ∧ gs.map (·.1) = ns ∧ RepL F ds (gs.map (·.2))
  | .dct ks ds, v => ∃ a kvs, v = .ref a ∧ F a = some (.dK kvs) ∧ kvs.map (·.1) = ks ∧ RepL F ds (kvs.map (·.2))
  | .exn c ns xs, v => ∃ a, v = .ref a ∧ F a = some (ExO (.ref (He.ga K c)) a) ∧ ns = [] ∧ xs = [] ∧ excB K c = true
  | .kset _, _ => False
def RepL (F : Hp) : List D → List V → Prop
  | [], vs => vs = []
  | d :: ds, vs => ∃ v r, vs = v :: r ∧ Rep F d v ∧ RepL F ds r
end
end
theorem sqT_mono {K : PySem.W.Frag} {F G : Hp} (s : Sub F G) {a : Addr} {vs : List V} (h : SqT K F a vs) : SqT K G a vs := by
  rcases h with (h | ⟨o, h⟩) | h
  · exact .inl (.inl (s _ _ h))
  · exact .inl (.inr ⟨o, s _ _ h⟩)
  · exact .inr h
theorem sqL_mono {K : PySem.W.Frag} {F G : Hp} (s : Sub F G) {a : Addr} {vs : List V} (h : SqL K F a vs) : SqL K G a vs := by
  rcases h with (h | ⟨o, h⟩) | h
  · exact .inl (.inl (s _ _ h))
  · exact .inl (.inr ⟨o, s _ _ h⟩)
  · exact .inr h
mutual
theorem Rep.mono {K : PySem.W.Frag} {F G : Hp} (s : Sub F G) : ∀ {d : D} {v : V}, Rep K F d v → Rep K G d v
  | .non, _, h => h
  | .bl _, _, h => h
  | .int _, _, h => h
  | .str _, _, h => h
  | .lst ds, _, ⟨a, vs, e, h, r⟩ => ⟨a, vs, e, sqL_mono s h, RepL.mono s r⟩
  | .tup ds, _, ⟨a, vs, e, h, r⟩ => ⟨a, vs, e, sqT_mono s h, RepL.mono s r⟩
  | .ins c ns ds, _, ⟨a, dx, gs, e, h, n, r⟩ => ⟨a, dx, gs, e, s _ _ h, n, RepL.mono s r⟩
  | .dct ks ds, _, ⟨a, kvs, e, h, n, r⟩ => ⟨a, kvs, e, s _ _ h, n, RepL.mono s r⟩
  | .exn _ _ _, _, ⟨a, e, h, r⟩ => ⟨a, e, s _ _ h, r⟩
theorem RepL.mono {K : PySem.W.Frag} {F G : Hp} (s : Sub F G) : ∀ {ds : List D} {vs : List V}, RepL K F ds vs → RepL K G ds vs
  | [], _, h => h
  | d :: ds, _, ⟨v, r, e, h, t⟩ => ⟨v, r, e, Rep.mono s h, RepL.mono s t⟩
end
theorem RepL.length {K : PySem.W.Frag} {F : Hp} : ∀ {ds : List D} {vs : List V}, RepL K F ds vs → ds.length = vs.length
  | [], _, h => by cases (show _ = [] from h); rfl
  | d :: ds, _, ⟨v, r, e, _, t⟩ => by subst e; simp [RepL.length t]
theorem RepL.append {K : PySem.W.Frag} {F : Hp} : ∀ {ds es : List D} {vs us : List V}, RepL K F ds vs → RepL K F es us → RepL K F (ds ++ es) (vs ++ us)
  | [], _, _, _, h, k => by cases (show _ = [] from h); exact k
  | d :: ds, _, _, _, ⟨v, r, e, h, t⟩, k => by subst e; exact ⟨v, _, rfl, h, RepL.append t k⟩
theorem RepL.one {K : PySem.W.Frag} {F : Hp} {d : D} {v : V} (h : Rep K F d v) : RepL K F [d] [v] := ⟨v, [], rfl, h, rfl⟩
theorem RepL.get {K : PySem.W.Frag} {F : Hp} : ∀ {ds : List D} {vs : List V} {i : Nat} {d : D}, RepL K F ds vs → ds[i]? = some d → ∃ v, vs[i]? = some v ∧ Rep K F d v
  | [], _, _, _, _, e => by simp at e
  | d :: ds, _, 0, x, ⟨v, r, e, h, t⟩, q => by
    subst e
    simp at q
    subst q
    exact ⟨v, rfl, h⟩
  | d :: ds, _, i + 1, x, ⟨v, r, e, h, t⟩, q => by
    subst e
    obtain ⟨u, h1, h2⟩ := RepL.get (i := i) t (by simpa using q)
    exact ⟨u, by simpa using h1, h2⟩
theorem RepL.getV {K : PySem.W.Frag} {F : Hp} {ds : List D} {vs : List V} {i : Nat} {v : V} (h : RepL K F ds vs) (e : vs[i]? = some v) : ∃ d, ds[i]? = some d ∧ Rep K F d v := by
  have hl := h.length
  have hi : i < vs.length := (List.getElem?_eq_some_iff.mp e).1
  obtain ⟨u, h1, h2⟩ := h.get (i := i) (d := ds[i]'(by omega)) (List.getElem?_eq_getElem _)
  rw [e] at h1
  cases h1
  exact ⟨_, List.getElem?_eq_getElem _, h2⟩
theorem RepL.set {K : PySem.W.Frag} {F : Hp} {d : D} {v : V} (h : Rep K F d v) : ∀ {ds : List D} {vs : List V} (i : Nat), RepL K F ds vs → RepL K F (ds.set i d) (vs.set i v)
  | [], _, _, e => by cases (show _ = [] from e); rfl
  | x :: ds, _, 0, ⟨u, r, e, _, t⟩ => by subst e; exact ⟨v, r, rfl, h, t⟩
  | x :: ds, _, i + 1, ⟨u, r, e, q, t⟩ => by subst e; exact ⟨u, _, rfl, q, RepL.set h i t⟩
theorem RepL.take {K : PySem.W.Frag} {F : Hp} : ∀ {ds : List D} {vs : List V} (n : Nat), RepL K F ds vs → RepL K F (ds.take n) (vs.take n)
  | _, _, 0, _ => by rw [List.take_zero, List.take_zero]; rfl
  | [], _, _ + 1, e => by cases (show _ = [] from e); rfl
  | x :: ds, _, n + 1, ⟨u, r, e, q, t⟩ => by subst e; exact ⟨u, _, rfl, q, RepL.take n t⟩
theorem RepL.drop {K : PySem.W.Frag} {F : Hp} : ∀ {ds : List D} {vs : List V} (n : Nat), RepL K F ds vs → RepL K F (ds.drop n) (vs.drop n)
  | _, _, 0, h => by rw [List.drop_zero, List.drop_zero]; exact h
  | [], _, n + 1, e => by cases (show _ = [] from e); rfl
  | x :: ds, _, n + 1, ⟨u, r, e, q, t⟩ => by subst e; exact RepL.drop n t

/-- the owner of a thing that may be changed: a slot, a caller (its k-th argument), a value on its way -/
inductive Ow where
  | sl (i : Nat) | le (k : Nat) | fl (j : Nat)
/-- what is fixed through a def's run: the written part, what was lent, the frozen part and the heap at the entry -/
structure Bs where
  K : PySem.W.Frag
  P : Program
  w : World
  A : List (Option Addr)
  F0 : Hp
  H0 : Hp
abbrev Gh := Addr → Option (Ow × D)
def Own (b : Bs) (F H : Hp) (a : Addr) : D → Prop
  | .lst ds => ∃ vs, H a = some (.lst vs) ∧ RepL b.K F ds vs
  | .ins c ns ds => ∃ dx gs, H a = some (.ins (He.ga b.K c) dx gs) ∧ gs.map (·.1) = ns ∧ RepL b.K F ds (gs.map (·.2))
  | .dct ks ds => ∃ kvs, H a = some (.dK kvs) ∧ kvs.map (·.1) = ks ∧ RepL b.K F ds (kvs.map (·.2))
  | .kset ks => H a = some (SetK b.P b.w a (fun k => keyIn k ks) ks.length)
  | _ => False
theorem Own.some {b : Bs} {F H : Hp} {a : Addr} {d : D} (h : Own b F H a d) : ∃ o, H a = some o := by
  cases d with
  | lst ds => obtain ⟨vs, h, _⟩ := h; exact ⟨_, h⟩
  | ins c ns ds => obtain ⟨_, _, h, _⟩ := h; exact ⟨_, h⟩
  | dct ks ds => obtain ⟨_, h, _⟩ := h; exact ⟨_, h⟩
  | kset ks => exact ⟨_, h⟩
  | _ => exact h.elim
theorem Own.at {b : Bs} {F G H H' : Hp} {a : Addr} {d : D} (s : Sub F G) (e : H' a = H a) (h : Own b F H a d) : Own b G H' a d := by
  cases d with
  | lst ds => obtain ⟨vs, h, r⟩ := h; exact ⟨vs, e.trans h, r.mono s⟩
  | ins c ns ds => obtain ⟨dx, gs, h, n, r⟩ := h; exact ⟨dx, gs, e.trans h, n, r.mono s⟩
  | dct ks ds => obtain ⟨kvs, h, n, r⟩ := h; exact ⟨kvs, e.trans h, n, r.mono s⟩
  | kset ks => exact e.trans h
  | _ => exact h.elim
/-- frozen -/
theorem Own.rep {b : Bs} {F G H : Hp} {a : Addr} {d : D} (h : Own b F H a d) (f : fzb d = true) (s : Sub F G) (e : G a = H a) : Rep b.K G d (.ref a) := by
  cases d with
  | lst ds => obtain ⟨vs, h, r⟩ := h; exact ⟨a, vs, rfl, SqL.of (e.trans h), r.mono s⟩
  | ins c ns ds => obtain ⟨dx, gs, h, n, r⟩ := h; exact ⟨a, dx, gs, rfl, e.trans h, n, r.mono s⟩
  | dct ks ds => obtain ⟨kvs, h, n, r⟩ := h; exact ⟨a, kvs, rfl, e.trans h, n, r.mono s⟩
  | kset ks => cases f
  | _ => exact h.elim
/-- what v is now -/
def Has (b : Bs) (F H : Hp) (d : D) (v : V) : Prop := Rep b.K F d v ∨ ∃ a, v = .ref a ∧ Own b F H a d
def SltR (b : Bs) (F : Hp) (O : Gh) (σ : L2.St) (i : Nat) : Slot → Prop
  | .no => True
  | .val d => ∃ v, σ[i]? = some (some v) ∧ Rep b.K F d v
  | .own d => ∃ a, σ[i]? = some (some (.ref a)) ∧ O a = some (.sl i, d)
  | .lent k => ∃ a, σ[i]? = some (some (.ref a)) ∧ b.A[k]? = some (some a)
def FlR (b : Bs) (F : Hp) (O : Gh) (σ : L2.St) (j : Nat) (v : V) : W → Prop
  | .d d => Rep b.K F d v
  | .o d => ∃ a, v = .ref a ∧ O a = some (.fl j, d)
  | .s i => σ[i]? = some (some v)
structure ER (b : Bs) (F : Hp) (O : Gh) (σ : L2.St) (H : Hp) (e : Env) (fl : List (V × W)) : Prop where
  sub : Sub F H
  len : e.sl.length = σ.length
  slot : ∀ i s, e.sl[i]? = some s → SltR b F O σ i s
  flr : ∀ j v w, fl[j]? = some (v, w) → FlR b F O σ j v w
  lel : e.le.length = b.A.length
  les : ∀ k a p, b.A[k]? = some (some a) → e.le[k]? = some p → (p.2 = true → O a = some (.le k, p.1)) ∧ (p.2 = false → Rep b.K F p.1 (.ref a) ∧ ∃ o, F a = some o)
  own : ∀ a ow d, O a = some (ow, d) → F a = none ∧ Own b F H a d ∧ (∀ k, ow = .le k → b.A[k]? = some (some a)) ∧ ((∀ k, ow ≠ .le k) → b.H0 a = none)
  keep : ∀ a o, b.H0 a = some o → some a ∉ b.A → H a = some o
  domF : ∀ a, F a ≠ none → b.F0 a ≠ none ∨ some a ∈ b.A ∨ b.H0 a = none
  up : Sub b.F0 F
def ERx (b : Bs) (σ : L2.St) (H : Hp) (e : Env) (fl : List (V × W)) : Prop := ∃ F O, ER b F O σ H e fl

section
variable {b : Bs} {F : Hp} {O : Gh} {σ : L2.St} {H : Hp} {e : Env} {fl l : List (V × W)} {v : V} {d : D} {w : W}
theorem get_app {α : Type} {l m : List α} {j : Nat} {x : α} (h : (l ++ m)[j]? = some x) : l[j]? = some x ∨ (l.length ≤ j ∧ m[j - l.length]? = some x) := by
  by_cases hj : j < l.length
  · rw [List.getElem?_append_left hj] at h
    exact .inl h
  · rw [List.getElem?_append_right (by omega)] at h
    exact .inr ⟨by omega, h⟩
theorem get_one {α : Type} {l : List α} {y : α} {j : Nat} {x : α} (h : (l ++ [y])[j]? = some x) : l[j]? = some x ∨ (j = l.length ∧ y = x) := by
  rcases get_app h with h | ⟨h1, h2⟩
  · exact .inl h
  · have : j - l.length = 0 := by
      have := (List.getElem?_eq_some_iff.mp h2).1
      simp at this
      omega
    rw [this] at h2
    simp at h2
    exact .inr ⟨by omega, h2⟩
theorem ER.drop (E : ER b F O σ H e (fl ++ l)) : ER b F O σ H e fl := { E with flr := fun j v w h => E.flr j v w (by
  have := (List.getElem?_eq_some_iff.mp h).1
  rw [List.getElem?_append_left this]
  exact h) }
theorem ER.pushD (E : ER b F O σ H e fl) (r : Rep b.K F d v) : ER b F O σ H e (fl ++ [(v, .d d)]) := by
  refine { E with flr := fun j u w h => ?_ }
  rcases get_one h with h | ⟨_, h⟩
  · exact E.flr j u w h
  · cases h
    exact r
theorem ER.pushS (E : ER b F O σ H e fl) {i : Nat} (r : σ[i]? = some (some v)) : ER b F O σ H e (fl ++ [(v, .s i)]) := by
  refine { E with flr := fun j u w h => ?_ }
  rcases get_one h with h | ⟨_, h⟩
  · exact E.flr j u w h
  · cases h
    exact r
theorem ER.lentSome (E : ER b F O σ H e fl) {a : Addr} (h : some a ∈ b.A) : ∃ o, H a = some o := by
  obtain ⟨k, hk⟩ := List.getElem?_of_mem h
  have hl : k < e.le.length := by rw [E.lel]; exact (List.getElem?_eq_some_iff.mp hk).1
  obtain ⟨h1, h2⟩ := E.les k a _ hk (List.getElem?_eq_getElem hl)
  cases q : (e.le[k]).2 with
  | true =>
    obtain ⟨_, h3, _⟩ := E.own _ _ _ (h1 q)
    exact h3.some
  | false =>
    obtain ⟨_, o, h3⟩ := h2 q
    exact ⟨o, E.sub _ _ h3⟩
/-- a free address is new -/
theorem ER.new (E : ER b F O σ H e fl) {p : Addr} (hp : H p = none) : F p = none ∧ O p = none ∧ b.H0 p = none := by
  refine ⟨?_, ?_, ?_⟩
  · cases q : F p with
    | none => rfl
    | some o => rw [E.sub _ _ q] at hp; cases hp
  · cases q : O p with
    | none => rfl
    | some o =>
      obtain ⟨ow, d⟩ := o
      obtain ⟨o, h⟩ := (E.own _ _ _ q).2.1.some
      rw [h] at hp; cases hp
  · cases q : b.H0 p with
    | none => rfl
    | some o =>
      by_cases hm : some p ∈ b.A
      · obtain ⟨o, h⟩ := E.lentSome hm
        rw [h] at hp; cases hp
      · rw [E.keep _ _ q hm] at hp; cases hp
theorem sub_upd {F : Hp} {p : Addr} {o : HO} (h : F p = none) : Sub F (upd F p o) := fun a u q => by rw [upd_ne (ne_of_none q h)]; exact q
def updO (O : Gh) (a : Addr) (x : Option (Ow × D)) : Gh := fun c => if c = a then x else O c
theorem updO_same {O : Gh} {a : Addr} {x : Option (Ow × D)} : updO O a x a = x := if_pos rfl
theorem updO_ne {O : Gh} {a c : Addr} {x : Option (Ow × D)} (h : c ≠ a) : updO O a x c = O c := if_neg h
/-- a new thing on its way -/
theorem ER.pushO (E : ER b F O σ H e fl) {p : Addr} {o : HO} (hp : H p = none) (hd : Own b F (upd H p o) p d) :
    ER b F (updO O p (some (.fl fl.length, d))) σ (upd H p o) e (fl ++ [(.ref p, .o d)]) := by
  obtain ⟨f, n, h0⟩ := E.new hp
  have ne : ∀ {a x}, O a = some x → a ≠ p := fun {a x} q z => by rw [z, n] at q; cases q
  refine { sub := fun a u q => ?_, len := E.len, slot := fun i s h => ?_, flr := fun j u w h => ?_, lel := E.lel, les := fun k a q h1 h2 => ?_, own := fun a ow d' q => ?_, keep := fun a u h1 h2 => ?_, domF := E.domF, up := E.up }
  · rw [upd_ne (ne_of_none (E.sub _ _ q) hp)]
    exact E.sub _ _ q
  · have r := E.slot i s h
    cases s with
    | own d' =>
      obtain ⟨a, r1, r2⟩ := r
      exact ⟨a, r1, by rw [updO_ne (ne r2)]; exact r2⟩
    | _ => exact r
  · rcases get_one h with h | ⟨hj, h⟩
    · have r := E.flr j u w h
      cases w with
      | o d' =>
        obtain ⟨a, r1, r2⟩ := r
        exact ⟨a, r1, by rw [updO_ne (ne r2)]; exact r2⟩
      | _ => exact r
    · cases h
      exact ⟨p, rfl, by rw [updO_same, hj]⟩
  · obtain ⟨r1, r2⟩ := E.les k a q h1 h2
    exact ⟨fun z => by rw [updO_ne (ne (r1 z))]; exact r1 z, r2⟩
  · by_cases ha : a = p
    · subst ha
      rw [updO_same] at q
      cases q
      exact ⟨f, hd, fun k z => (nomatch z), fun _ => h0⟩
    · rw [updO_ne ha] at q
      obtain ⟨r1, r2, r3⟩ := E.own a ow d' q
      exact ⟨r1, r2.at (fun _ _ z => z) (upd_ne ha), r3⟩
  · rw [upd_ne (fun z => by subst z; rw [h0] at h1; cases h1)]
    exact E.keep _ _ h1 h2
/-- a new frozen thing -/
theorem ER.laid (E : ER b F O σ H e fl) {p : Addr} {o : HO} (hp : H p = none) : ER b (upd F p o) O σ (upd H p o) e fl := by
  obtain ⟨f, n, h0⟩ := E.new hp
  have s : Sub F (upd F p o) := sub_upd f
  have ne : ∀ {a x}, O a = some x → a ≠ p := fun {a x} q z => by rw [z, n] at q; cases q
  refine { sub := fun a u q => ?_, len := E.len, slot := fun i s' h => ?_, flr := fun j u w h => ?_, lel := E.lel, les := fun k a q h1 h2 => ?_, own := fun a ow d' q => ?_, keep := fun a u h1 h2 => ?_, domF := fun a h => ?_, up := fun a u q => s _ _ (E.up _ _ q) }
  · by_cases ha : a = p
    · subst ha
      rw [upd_same] at q ⊢
      exact q
    · rw [upd_ne ha] at q ⊢
      exact E.sub _ _ q
  · have r := E.slot i s' h
    cases s' with
    | val d' => obtain ⟨u, r1, r2⟩ := r; exact ⟨u, r1, r2.mono s⟩
    | _ => exact r
  · have r := E.flr j u w h
    cases w with
    | d d' => exact Rep.mono s r
    | _ => exact r
  · obtain ⟨r1, r2⟩ := E.les k a q h1 h2
    exact ⟨r1, fun z => let ⟨x, o', y⟩ := r2 z; ⟨x.mono s, o', s _ _ y⟩⟩
  · obtain ⟨r1, r2, r3⟩ := E.own a ow d' q
    exact ⟨by rw [upd_ne (ne q)]; exact r1, r2.at s (upd_ne (ne q)), r3⟩
  · rw [upd_ne (fun z => by subst z; rw [h0] at h1; cases h1)]
    exact E.keep _ _ h1 h2
  · by_cases ha : a = p
    · subst ha
      exact .inr (.inr h0)
    · rw [upd_ne ha] at h
      exact E.domF _ h
theorem ER.pushT (E : ER b F O σ H e fl) {p : Addr} {ds : List D} {vs : List V} (hp : H p = none) (r : RepL b.K F ds vs) :
    ER b (upd F p (.tup vs)) O σ (upd H p (.tup vs)) e (fl ++ [(.ref p, .d (.tup ds))]) :=
  (E.laid hp).pushD ⟨p, vs, rfl, SqT.of upd_same, r.mono (sub_upd (E.new hp).1)⟩
/-- what w is now -/
theorem ER.see (E : ER b F O σ H e fl) {j : Nat} {x : D × Bool} (h : fl[j]? = some (v, w)) (q : e.see w = some x) : (x.2 = false → Rep b.K F x.1 v) ∧ (x.2 = true → ∃ a ow, v = .ref a ∧ O a = some (ow, x.1)) := by
  have r := E.flr j v w h
  cases w with
  | d d' => cases q; exact ⟨fun _ => r, fun z => (nomatch z)⟩
  | o d' =>
    cases q
    obtain ⟨a, r1, r2⟩ := r
    exact ⟨fun z => (nomatch z), fun _ => ⟨a, _, r1, r2⟩⟩
  | s i =>
    have r : σ[i]? = some (some v) := r
    have q : e.at i = some x := q
    unfold Env.at at q
    cases hs : e.sl[i]? with
    | none => rw [hs] at q; cases q
    | some s =>
      rw [hs] at q
      have t := E.slot i s hs
      cases s with
      | no => cases q
      | val d' =>
        cases q
        obtain ⟨u, t1, t2⟩ := t
        rw [r] at t1; cases t1
        exact ⟨fun _ => t2, fun z => (nomatch z)⟩
      | own d' =>
        cases q
        obtain ⟨a, t1, t2⟩ := t
        rw [r] at t1; cases t1
        exact ⟨fun z => (nomatch z), fun _ => ⟨a, _, rfl, t2⟩⟩
      | lent k =>
        have q : e.le[k]? = some x := q
        obtain ⟨a, t1, t2⟩ := t
        rw [r] at t1; cases t1
        obtain ⟨u1, u2⟩ := E.les k a x t2 q
        exact ⟨fun z => (u2 z).1, fun z => ⟨a, _, rfl, u1 z⟩⟩
theorem ER.has (E : ER b F O σ H e fl) {j : Nat} (h : fl[j]? = some (v, w)) (q : e.cur w = some d) : Has b F H d v := by
  unfold Env.cur at q
  cases hx : e.see w with
  | none => rw [hx] at q; cases q
  | some x =>
    rw [hx] at q
    cases q
    obtain ⟨r1, r2⟩ := E.see h hx
    cases hb : x.2 with
    | false => exact .inl (r1 hb)
    | true =>
      obtain ⟨a, ow, e1, e2⟩ := r2 hb
      exact .inr ⟨a, e1, (E.own _ _ _ e2).2.1⟩
end
end Mi

set_option Elab.async false
set_option linter.all false
set_option maxRecDepth 100000
set_option maxHeartbeats 1000000
/-! Mi3: what may be done with a frame: freezing, changing, storing. -/
namespace Mi
open PySem L2
section
variable {b : Bs} {F : Hp} {O : Gh} {σ : L2.St} {H : Hp} {e e' : Env} {fl fl' l l1 l2 : List (V × W)} {v : V} {d d' : D} {w : W} {a : Addr} {ow : Ow}
def frzF (F H : Hp) (a : Addr) : Hp := fun x => if x = a then H x else F x
theorem frzF_same : frzF F H a a = H a := if_pos rfl
theorem frzF_ne {x : Addr} (h : x ≠ a) : frzF F H a x = F x := if_neg h
theorem frzF_sub (h : F a = none) : Sub F (frzF F H a) := fun x o q => by rw [frzF_ne (ne_of_none q h)]; exact q
theorem ER.frz (E : ER b F O σ H e fl) (hO : O a = some (ow, d)) (hf : fzb d = true) (hl : e'.sl.length = e.sl.length)
    (hs : ∀ i s, e'.sl[i]? = some s → (e.sl[i]? = some s ∧ ow ≠ .sl i) ∨ (s = .val d ∧ σ[i]? = some (some (.ref a))))
    (hfl : ∀ j v w, fl'[j]? = some (v, w) → (fl[j]? = some (v, w) ∧ ow ≠ .fl j) ∨ (v = .ref a ∧ w = .d d))
    (hll : e'.le.length = e.le.length) (hle : ∀ k p, e'.le[k]? = some p → (e.le[k]? = some p ∧ ow ≠ .le k) ∨ (ow = .le k ∧ p = (d, false))) :
    ER b (frzF F H a) (updO O a none) σ H e' fl' ∧ Sub F (frzF F H a) := by
  obtain ⟨f, hown, o1, o2⟩ := E.own _ _ _ hO
  have s : Sub F (frzF F H a) := frzF_sub f
  have rp : Rep b.K (frzF F H a) d (.ref a) := hown.rep hf s frzF_same
  have ne : ∀ {c ow' x}, O c = some (ow', x) → ow' ≠ ow → c ≠ a := fun {c ow' x} q z y => by
    subst y
    rw [hO] at q
    cases q
    exact z rfl
  refine ⟨{ sub := fun x u q => ?_, len := hl.trans E.len, slot := fun i t h => ?_, flr := fun j u x h => ?_, lel := hll.trans E.lel, les := fun k c p h1 h2 => ?_, own := fun c ow' x q => ?_, keep := E.keep, domF := fun x h => ?_, up := fun x u q => s _ _ (E.up _ _ q) }, s⟩
  · by_cases hx : x = a
    · subst hx
      rw [frzF_same] at q
      exact q
    · rw [frzF_ne hx] at q
      exact E.sub _ _ q
  · rcases hs i t h with ⟨h, n⟩ | ⟨h, r⟩
    · have r := E.slot i t h
      cases t with
      | val x => obtain ⟨u, r1, r2⟩ := r; exact ⟨u, r1, r2.mono s⟩
      | own x =>
        obtain ⟨c, r1, r2⟩ := r
        exact ⟨c, r1, by rw [updO_ne (ne r2 (fun z => n z.symm))]; exact r2⟩
      | _ => exact r
    · subst h
      exact ⟨_, r, rp⟩
  · rcases hfl j u x h with ⟨h, n⟩ | ⟨h, r⟩
    · have r := E.flr j u x h
      cases x with
      | d y => exact Rep.mono s r
      | o y =>
        obtain ⟨c, r1, r2⟩ := r
        exact ⟨c, r1, by rw [updO_ne (ne r2 (fun z => n z.symm))]; exact r2⟩
      | _ => exact r
    · subst h r
      exact rp
  · rcases hle k p h2 with ⟨h, n⟩ | ⟨h, r⟩
    · obtain ⟨r1, r2⟩ := E.les k c p h1 h
      exact ⟨fun z => by rw [updO_ne (ne (r1 z) (fun z => n z.symm))]; exact r1 z, fun z => let ⟨x, o', y⟩ := r2 z; ⟨x.mono s, o', s _ _ y⟩⟩
    · subst r
      have e1 := o1 k h
      rw [h1] at e1
      cases e1
      obtain ⟨o', ho'⟩ := hown.some
      exact ⟨fun z => (nomatch z), fun _ => ⟨rp, o', frzF_same.trans ho'⟩⟩
  · by_cases hc : c = a
    · subst hc
      rw [updO_same] at q
      cases q
    · rw [updO_ne hc] at q
      obtain ⟨r1, r2, r3⟩ := E.own c ow' x q
      exact ⟨by rw [frzF_ne hc]; exact r1, r2.at s rfl, r3⟩
  · by_cases hx : x = a
    · subst hx
      cases ow with
      | le k => exact .inr (.inl (List.mem_of_getElem? (o1 k rfl)))
      | sl i => exact .inr (.inr (o2 fun _ z => nomatch z))
      | fl i => exact .inr (.inr (o2 fun _ z => nomatch z))
    · rw [frzF_ne hx] at h
      exact E.domF _ h
/-- a thing is changed -/
theorem ER.mut (E : ER b F O σ H e fl) (hO : O a = some (ow, d)) {o : HO} (hd : Own b F (upd H a o) a d') (hl : e'.sl.length = e.sl.length)
    (hs : ∀ i s, e'.sl[i]? = some s → (e.sl[i]? = some s ∧ ow ≠ .sl i) ∨ (s = .own d' ∧ ow = .sl i ∧ σ[i]? = some (some (.ref a))))
    (hfl : ∀ j, ow ≠ .fl j) (hll : e'.le.length = e.le.length) (hle : ∀ k p, e'.le[k]? = some p → (e.le[k]? = some p ∧ ow ≠ .le k) ∨ (ow = .le k ∧ p = (d', true))) :
    ER b F (updO O a (some (ow, d'))) σ (upd H a o) e' fl := by
  obtain ⟨f, hown, o1, o2⟩ := E.own _ _ _ hO
  have ne : ∀ {c ow' x}, O c = some (ow', x) → ow' ≠ ow → c ≠ a := fun {c ow' x} q z y => by
    subst y
    rw [hO] at q
    cases q
    exact z rfl
  refine { sub := fun x u q => ?_, len := hl.trans E.len, slot := fun i t h => ?_, flr := fun j u x h => ?_, lel := hll.trans E.lel, les := fun k c p h1 h2 => ?_, own := fun c ow' x q => ?_, keep := fun x u h1 h2 => ?_, domF := E.domF, up := E.up }
  · rw [upd_ne (ne_of_none q f)]
    exact E.sub _ _ q
  · rcases hs i t h with ⟨h, n⟩ | ⟨h, n, r⟩
    · have r := E.slot i t h
      cases t with
      | own x =>
        obtain ⟨c, r1, r2⟩ := r
        exact ⟨c, r1, by rw [updO_ne (ne r2 (fun z => n z.symm))]; exact r2⟩
      | _ => exact r
    · subst h n
      exact ⟨a, r, updO_same⟩
  · have r := E.flr j u x h
    cases x with
    | o y =>
      obtain ⟨c, r1, r2⟩ := r
      exact ⟨c, r1, by rw [updO_ne (ne r2 (fun z => hfl j z.symm))]; exact r2⟩
    | _ => exact r
  · rcases hle k p h2 with ⟨h, n⟩ | ⟨h, r⟩
    · obtain ⟨r1, r2⟩ := E.les k c p h1 h
      exact ⟨fun z => by rw [updO_ne (ne (r1 z) (fun z => n z.symm))]; exact r1 z, r2⟩
    · subst r
      have e1 := o1 k h
      rw [h1] at e1
      cases e1
      subst h
      exact ⟨fun _ => updO_same, fun z => (nomatch z)⟩
  · by_cases hc : c = a
    · subst hc
      rw [updO_same] at q
      cases q
      exact ⟨f, hd, o1, o2⟩
    · rw [updO_ne hc] at q
      obtain ⟨r1, r2, r3⟩ := E.own c ow' x q
      exact ⟨r1, r2.at (fun _ _ z => z) (upd_ne hc), r3⟩
  · have : x ≠ a := fun z => by
      subst z
      cases ow with
      | le k => exact h2 (List.mem_of_getElem? (o1 k rfl))
      | sl i => rw [o2 fun _ z => nomatch z] at h1; cases h1
      | fl i => rw [o2 fun _ z => nomatch z] at h1; cases h1
    rw [upd_ne this]
    exact E.keep _ _ h1 h2
/-- where a slot's thing stands -/
theorem ER.atOwn (E : ER b F O σ H e fl) {i : Nat} {p : D × Bool} (h : e.at i = some p) (hb : p.2 = true) :
    ∃ a, σ[i]? = some (some (.ref a)) ∧ ((e.sl[i]? = some (.own p.1) ∧ O a = some (.sl i, p.1)) ∨ ∃ k, e.sl[i]? = some (.lent k) ∧ e.le[k]? = some p ∧ b.A[k]? = some (some a) ∧ O a = some (.le k, p.1)) := by
  unfold Env.at at h
  cases hs : e.sl[i]? with
  | none => rw [hs] at h; cases h
  | some s =>
    rw [hs] at h
    have r := E.slot i s hs
    cases s with
    | no => cases h
    | val x => cases h; cases hb
    | own x =>
      cases h
      obtain ⟨a, r1, r2⟩ := r
      exact ⟨a, r1, .inl ⟨rfl, r2⟩⟩
    | lent k =>
      have h : e.le[k]? = some p := h
      obtain ⟨a, r1, r2⟩ := r
      exact ⟨a, r1, .inr ⟨k, rfl, h, r2, (E.les k a p r2 h).1 hb⟩⟩
theorem set_get {α : Type} {l : List α} {i j : Nat} {x y : α} (h : (l.set i x)[j]? = some y) : (j = i ∧ y = x) ∨ (j ≠ i ∧ l[j]? = some y) := by
  by_cases hj : j = i
  · subst hj
    have hl : j < l.length := by
      have := (List.getElem?_eq_some_iff.mp h).1
      simpa using this
    rw [List.getElem?_set_self hl] at h
    exact .inl ⟨rfl, (Option.some.inj h).symm⟩
  · rw [List.getElem?_set_ne (Ne.symm hj)] at h
    exact .inr ⟨hj, h⟩
/-- the slot's thing is changed -/
theorem ER.putM (E : ER b F O σ H e fl) {i : Nat} {p : D × Bool} (h : e.at i = some p) (hb : p.2 = true) (ha : σ[i]? = some (some (.ref a))) {o : HO} (hd : Own b F (upd H a o) a d') :
    ∃ O', ER b F O' σ (upd H a o) (e.put i (d', true)) fl := by
  obtain ⟨c, h1, h2⟩ := E.atOwn h hb
  rw [ha] at h1
  cases h1
  rcases h2 with ⟨hs, hO⟩ | ⟨k, hs, hk, hA, hO⟩
  · refine ⟨_, E.mut hO hd (e' := e.put i (d', true)) ?_ ?_ (fun j z => nomatch z) ?_ ?_⟩
    · unfold Env.put; rw [hs]; simp [Env.setS]
    · intro j s q
      unfold Env.put at q
      rw [hs] at q
      rcases set_get q with ⟨q1, q2⟩ | ⟨q1, q2⟩
      · subst q1
        exact .inr ⟨q2, rfl, ha⟩
      · exact .inl ⟨q2, fun z => by cases z; exact q1 rfl⟩
    · unfold Env.put; rw [hs]; rfl
    · intro k p q
      unfold Env.put at q
      rw [hs] at q
      exact .inl ⟨q, fun z => nomatch z⟩
  · refine ⟨_, E.mut hO hd (e' := e.put i (d', true)) ?_ ?_ (fun j z => nomatch z) ?_ ?_⟩
    · unfold Env.put; rw [hs]
    · intro j s q
      unfold Env.put at q
      rw [hs] at q
      exact .inl ⟨q, fun z => nomatch z⟩
    · unfold Env.put; rw [hs]; simp
    · intro k' p q
      unfold Env.put at q
      rw [hs] at q
      rcases set_get q with ⟨q1, q2⟩ | ⟨q1, q2⟩
      · subst q1
        exact .inr ⟨rfl, q2⟩
      · exact .inl ⟨q2, fun z => by cases z; exact q1 rfl⟩
theorem get_mid {α : Type} {l m : List α} {x y z : α} {j : Nat} (h : (l ++ y :: m)[j]? = some z) : (j = l.length ∧ z = y) ∨ (j ≠ l.length ∧ (l ++ x :: m)[j]? = some z) := by
  by_cases hj : j = l.length
  · subst hj
    simp at h
    exact .inl ⟨rfl, h.symm⟩
  · refine .inr ⟨hj, ?_⟩
    by_cases hl : j < l.length
    · rw [List.getElem?_append_left hl] at h ⊢
      exact h
    · rw [List.getElem?_append_right (by omega)] at h ⊢
      obtain ⟨k, hk⟩ : ∃ k, j - l.length = k + 1 := ⟨j - l.length - 1, by omega⟩
      rw [hk] at h ⊢
      simpa using h
theorem get_at {α : Type} {l m : List α} {x : α} : (l ++ x :: m)[l.length]? = some x := by simp
/-- w is taken as a value -/
theorem ER.tak (E : ER b F O σ H e (l1 ++ (v, w) :: l2)) (h : e.tak w = some (d, e')) : ∃ F' O', ER b F' O' σ H e' (l1 ++ (v, .d d) :: l2) ∧ Sub F F' ∧ Rep b.K F' d v ∧ e'.sl.length = e.sl.length := by
  unfold Env.tak at h
  cases hx : e.see w with
  | none => rw [hx] at h; cases h
  | some x =>
    obtain ⟨y, c⟩ := x
    rw [hx] at h
    obtain ⟨r1, r2⟩ := E.see get_at hx
    cases c with
    | false =>
      cases h
      refine ⟨F, O, { E with flr := fun j u x q => ?_ }, fun _ _ z => z, r1 rfl, rfl⟩
      rcases get_mid (x := (v, w)) q with ⟨q1, q2⟩ | ⟨q1, q2⟩
      · cases q2
        exact r1 rfl
      · exact E.flr j u x q2
    | true =>
      have h : (if fzb y then some (y, e.fz w y) else none) = some (d, e') := h
      by_cases hf : fzb y = true
      · rw [if_pos hf] at h
        cases w with
        | d z => cases hx
        | o z =>
          cases hx
          cases h
          obtain ⟨a, ow, q1, q2⟩ := r2 rfl
          obtain ⟨a', q3, q4⟩ := E.flr _ _ _ get_at
          cases q1
          cases q3
          rw [q4] at q2
          cases q2
          obtain ⟨E1, s⟩ := E.frz (e' := e) (fl' := l1 ++ (V.ref a, W.d d) :: l2) q4 hf rfl (fun i s z => .inl ⟨z, fun z => nomatch z⟩) (fun j u x q => by
            rcases get_mid (x := (V.ref a, W.o d)) q with ⟨q1, q2⟩ | ⟨q1, q2⟩
            · cases q2
              exact .inr ⟨rfl, rfl⟩
            · exact .inl ⟨q2, fun z => by cases z; exact q1 rfl⟩) rfl (fun k p z => .inl ⟨z, fun z => nomatch z⟩)
          exact ⟨_, _, E1, s, E1.flr _ _ _ get_at, rfl⟩
        | s i =>
          have hx : e.at i = some (y, true) := hx
          cases h
          obtain ⟨a, q1, q2⟩ := E.atOwn hx rfl
          have q3 := E.flr _ _ _ get_at
          have q3 : σ[i]? = some (some v) := q3
          rw [q1] at q3
          cases q3
          have hfl : ∀ {ow : Ow}, (∀ j, ow ≠ .fl j) → ∀ j u x, (l1 ++ (V.ref a, W.d d) :: l2)[j]? = some (u, x) → ((l1 ++ (V.ref a, W.s i) :: l2)[j]? = some (u, x) ∧ ow ≠ .fl j) ∨ (u = .ref a ∧ x = .d d) := fun ho j u x q => by
            rcases get_mid (x := (V.ref a, W.s i)) q with ⟨q1, q2⟩ | ⟨q1, q2⟩
            · cases q2
              exact .inr ⟨rfl, rfl⟩
            · exact .inl ⟨q2, ho j⟩
          rcases q2 with ⟨hs, hO⟩ | ⟨k, hs, hk, hA, hO⟩
          · obtain ⟨E1, s⟩ := E.frz (e' := e.put i (d, false)) hO hf (by unfold Env.put; rw [hs]; simp [Env.setS]) (fun j t q => by
              unfold Env.put at q
              rw [hs] at q
              rcases set_get q with ⟨q1', q2⟩ | ⟨q1', q2⟩
              · subst q1'
                exact .inr ⟨q2, q1⟩
              · exact .inl ⟨q2, fun z => by cases z; exact q1' rfl⟩) (hfl fun j z => nomatch z) (by unfold Env.put; rw [hs]; rfl) (fun k p q => by
              unfold Env.put at q
              rw [hs] at q
              exact .inl ⟨q, fun z => nomatch z⟩)
            exact ⟨_, _, E1, s, E1.flr _ _ _ get_at, by show (e.put i (d, false)).sl.length = _; unfold Env.put; rw [hs]; simp [Env.setS]⟩
          · obtain ⟨E1, s⟩ := E.frz (e' := e.put i (d, false)) hO hf (by unfold Env.put; rw [hs]) (fun j t q => by
              unfold Env.put at q
              rw [hs] at q
              exact .inl ⟨q, fun z => nomatch z⟩) (hfl fun j z => nomatch z) (by unfold Env.put; rw [hs]; simp) (fun k' p q => by
              unfold Env.put at q
              rw [hs] at q
              rcases set_get q with ⟨q1', q2⟩ | ⟨q1', q2⟩
              · subst q1'
                exact .inr ⟨rfl, q2⟩
              · exact .inl ⟨q2, fun z => by cases z; exact q1' rfl⟩)
            exact ⟨_, _, E1, s, E1.flr _ _ _ get_at, by show (e.put i (d, false)).sl.length = _; unfold Env.put; rw [hs]⟩
      · rw [if_neg hf] at h
        cases h
/-- a row of values is taken -/
theorem ER.taks : ∀ {ws : List W} {vs : List V} {fl : List (V × W)} {F : Hp} {O : Gh} {e e' : Env} {ds : List D}, ER b F O σ H e (fl ++ vs.zip ws) → vs.length = ws.length → e.taks ws = some (ds, e') →
    ∃ F' O', ER b F' O' σ H e' fl ∧ Sub F F' ∧ RepL b.K F' ds vs ∧ e'.sl.length = e.sl.length
  | [], [], fl, F, O, e, e', ds, E, _, h => by
    cases h
    exact ⟨F, O, E.drop, fun _ _ z => z, rfl, rfl⟩
  | [], _ :: _, _, _, _, _, _, _, _, hl, _ => by cases hl
  | _ :: _, [], _, _, _, _, _, _, _, hl, _ => by cases hl
  | w :: ws, v :: vs, fl, F, O, e, e', ds, E, hl, h => by
    unfold Env.taks at h
    cases h1 : e.tak w with
    | none => rw [h1] at h; cases h
    | some p =>
      obtain ⟨d, e1⟩ := p
      rw [h1] at h
      have h : (match e1.taks ws with | some (ds, e2) => some (d :: ds, e2) | none => none) = some (ds, e') := h
      cases h2 : e1.taks ws with
      | none => rw [h2] at h; cases h
      | some p =>
        obtain ⟨ds', e2⟩ := p
        rw [h2] at h
        cases h
        obtain ⟨F1, O1, E1, s1, r1, n1⟩ := E.tak (l1 := fl) (l2 := vs.zip ws) h1
        have E1' : ER b F1 O1 σ H e1 ((fl ++ [(v, .d d)]) ++ vs.zip ws) := by rw [List.append_assoc]; exact E1
        obtain ⟨F2, O2, E2, s2, r2, n2⟩ := ER.taks E1' (by simpa using hl) h2
        exact ⟨F2, O2, E2.drop, fun x o q => s2 _ _ (s1 _ _ q), ⟨v, vs, rfl, r1.mono s2, r2⟩, n2.trans n1⟩
/-- a value is stored -/
theorem ER.setV (E : ER b F O σ H e fl) {i : Nat} (hn : ∀ (j : Nat) (u : V) (k : Nat), fl[j]? = some (u, W.s k) → k ≠ i) (hi : i < σ.length) (r : Rep b.K F d v) : ER b F O (σ.set i (some v)) H (e.setS i (.val d)) fl := by
  refine { E with len := by simp [Env.setS, E.len], slot := fun k s h => ?_, flr := fun j u x h => ?_ }
  · rcases set_get h with ⟨h1, h2⟩ | ⟨h1, h2⟩
    · subst h1 h2
      exact ⟨v, by rw [List.getElem?_set_self hi], r⟩
    · have r := E.slot k s h2
      cases s <;> first | exact r | (obtain ⟨u, r1, r2⟩ := r; exact ⟨u, by rw [List.getElem?_set_ne (Ne.symm h1)]; exact r1, r2⟩)
  · have r := E.flr j u x h
    cases x with
    | s k => exact (by rw [List.getElem?_set_ne (Ne.symm (hn j u k h))]; exact r : (σ.set i (some v))[k]? = some (some u))
    | _ => exact r
/-- a slot is wiped -/
theorem ER.setN (E : ER b F O σ H e fl) {i : Nat} (hn : ∀ (j : Nat) (u : V) (k : Nat), fl[j]? = some (u, W.s k) → k ≠ i) : ER b F O (σ.set i none) H (e.setS i .no) fl := by
  refine { E with len := by simp [Env.setS, E.len], slot := fun k s h => ?_, flr := fun j u x h => ?_ }
  · rcases set_get h with ⟨h1, h2⟩ | ⟨h1, h2⟩
    · subst h1 h2
      exact True.intro
    · have r := E.slot k s h2
      cases s <;> first | exact r | (obtain ⟨u, r1, r2⟩ := r; exact ⟨u, by rw [List.getElem?_set_ne (Ne.symm h1)]; exact r1, r2⟩)
  · have r := E.flr j u x h
    cases x with
    | s k => exact (by rw [List.getElem?_set_ne (Ne.symm (hn j u k h))]; exact r : (σ.set i none)[k]? = some (some u))
    | _ => exact r
/-- a new thing is stored -/
theorem ER.setO (E : ER b F O σ H e (fl ++ [(v, .o d)])) {i : Nat} (hn : ∀ (j : Nat) (u : V) (k : Nat), fl[j]? = some (u, W.s k) → k ≠ i) (hi : i < σ.length) : ∃ O', ER b F O' (σ.set i (some v)) H (e.setS i (.own d)) fl := by
  obtain ⟨a, e1, hO⟩ := E.flr fl.length v (.o d) (by simp)
  subst e1
  obtain ⟨f, hown, _, h0⟩ := E.own _ _ _ hO
  have ne : ∀ {c ow' x}, O c = some (ow', x) → ow' ≠ .fl fl.length → c ≠ a := fun {c ow' x} q z y => by
    subst y
    rw [hO] at q
    cases q
    exact z rfl
  have E' := E.drop
  refine ⟨updO O a (some (.sl i, d)), { E' with len := by simp [Env.setS, E.len], slot := fun k s h => ?_, flr := fun j u x h => ?_, les := fun k c p h1 h2 => ?_, own := fun c ow' x q => ?_ }⟩
  · rcases set_get h with ⟨h1, h2⟩ | ⟨h1, h2⟩
    · subst h1 h2
      exact ⟨a, by rw [List.getElem?_set_self hi], updO_same⟩
    · have r := E'.slot k s h2
      cases s with
      | own x =>
        obtain ⟨c, r1, r2⟩ := r
        exact ⟨c, by rw [List.getElem?_set_ne (Ne.symm h1)]; exact r1, by rw [updO_ne (ne r2 (fun z => nomatch z))]; exact r2⟩
      | no => exact r
      | val x => obtain ⟨u, r1, r2⟩ := r; exact ⟨u, by rw [List.getElem?_set_ne (Ne.symm h1)]; exact r1, r2⟩
      | lent x => obtain ⟨u, r1, r2⟩ := r; exact ⟨u, by rw [List.getElem?_set_ne (Ne.symm h1)]; exact r1, r2⟩
  · have r := E'.flr j u x h
    cases x with
    | s k => exact (by rw [List.getElem?_set_ne (Ne.symm (hn j u k h))]; exact r : (σ.set i (some (V.ref a)))[k]? = some (some u))
    | o y =>
      obtain ⟨c, r1, r2⟩ := r
      have hj : j < fl.length := (List.getElem?_eq_some_iff.mp h).1
      exact ⟨c, r1, by rw [updO_ne (ne r2 (fun z => by cases z; exact absurd hj (Nat.lt_irrefl _)))]; exact r2⟩
    | d y => exact r
  · obtain ⟨r1, r2⟩ := E'.les k c p h1 h2
    exact ⟨fun z => by rw [updO_ne (ne (r1 z) (fun z => nomatch z))]; exact r1 z, r2⟩
  · by_cases hc : c = a
    · subst hc
      rw [updO_same] at q
      cases q
      exact ⟨f, hown, fun k z => (nomatch z), fun _ => h0 fun _ z => nomatch z⟩
    · rw [updO_ne hc] at q
      exact E'.own c ow' x q
end
end Mi

set_option Elab.async false
set_option linter.all false
set_option maxRecDepth 100000
set_option maxHeartbeats 1000000
/-! Mi4: a def's entry, its end, what a call leaves. -/
namespace Mi
open PySem L2
/-- what a def is handed -/
structure Pre (b : Bs) (as : List (D × Bool)) (vs : List V) : Prop where
  sub : Sub b.F0 b.H0
  len : as.length = vs.length
  lenA : b.A.length = vs.length
  val : ∀ (k : Nat) (d : D) (v : V), as[k]? = some (d, false) → vs[k]? = some v → Rep b.K b.F0 d v ∧ b.A[k]? = some none
  own : ∀ (k : Nat) (d : D) (v : V), as[k]? = some (d, true) → vs[k]? = some v → ∃ a, v = .ref a ∧ b.A[k]? = some (some a) ∧ b.F0 a = none ∧ Own b b.F0 b.H0 a d
  inj : ∀ (k k' : Nat) (a : Addr), b.A[k]? = some (some a) → b.A[k']? = some (some a) → k = k'
/-- what is true of a changed thing -/
def Now (b : Bs) (F H : Hp) (a : Addr) (p : D × Bool) : Prop := (p.2 = true → F a = none ∧ Own b F H a p.1) ∧ (p.2 = false → Rep b.K F p.1 (.ref a) ∧ ∃ o, F a = some o)
structure Post (b : Bs) (F H : Hp) (out : List (D × Bool)) : Prop where
  sub : Sub F H
  up : Sub b.F0 F
  keep : ∀ a o, b.H0 a = some o → some a ∉ b.A → H a = some o
  domF : ∀ a, F a ≠ none → b.F0 a ≠ none ∨ some a ∈ b.A ∨ b.H0 a = none
  len : out.length = b.A.length
  out : ∀ (k : Nat) (a : Addr) (p : D × Bool), b.A[k]? = some (some a) → out[k]? = some p → Now b F H a p
def Res (b : Bs) (F H : Hp) (v : V) (d : D) : Bool → Prop
  | false => Rep b.K F d v
  | true => ∃ a, v = .ref a ∧ b.H0 a = none ∧ F a = none ∧ Own b F H a d
theorem slotsOf_get : ∀ {as : List (D × Bool)} {k i : Nat}, (slotsOf as k)[i]? = (as[i]?).map fun p => if p.2 then Slot.lent (k + i) else .val p.1
  | [], k, i => by simp [slotsOf]
  | p :: ps, k, 0 => by simp [slotsOf]
  | p :: ps, k, i + 1 => by
    show (slotsOf ps (k + 1))[i]? = _
    rw [slotsOf_get]
    have : k + 1 + i = k + (i + 1) := by omega
    rw [this] <;> rfl
theorem slotsOf_length : ∀ {as : List (D × Bool)} {k : Nat}, (slotsOf as k).length = as.length
  | [], _ => rfl
  | p :: ps, k => by show (slotsOf ps (k + 1)).length + 1 = ps.length + 1; rw [slotsOf_length]
open Classical in
noncomputable def ghA (A : List (Option Addr)) (as : List (D × Bool)) : Gh := fun a => if h : ∃ (k : Nat) (p : D × Bool), A[k]? = some (some a) ∧ as[k]? = some p ∧ p.2 = true then some (.le h.choose, h.choose_spec.choose.1) else none
theorem ghA_some {A : List (Option Addr)} {as : List (D × Bool)} {a : Addr} {ow : Ow} {d : D} (h : ghA A as a = some (ow, d)) : ∃ k, ow = .le k ∧ A[k]? = some (some a) ∧ as[k]? = some (d, true) := by
  unfold ghA at h
  split at h
  · rename_i q
    cases h
    obtain ⟨h1, h2, h3⟩ := q.choose_spec.choose_spec
    exact ⟨_, rfl, h1, h2.trans (congrArg some (Prod.ext rfl h3))⟩
  · cases h
theorem ghA_at {A : List (Option Addr)} {as : List (D × Bool)} {a : Addr} {k : Nat} {d : D} (inj : ∀ (k k' : Nat) (a : Addr), A[k]? = some (some a) → A[k']? = some (some a) → k = k') (h1 : A[k]? = some (some a)) (h2 : as[k]? = some (d, true)) : ghA A as a = some (.le k, d) := by
  have q : ∃ (k : Nat) (p : D × Bool), A[k]? = some (some a) ∧ as[k]? = some p ∧ p.2 = true := ⟨k, (d, true), h1, h2, rfl⟩
  cases h : ghA A as a with
  | none =>
    unfold ghA at h
    rw [dif_pos q] at h
    cases h
  | some x =>
    obtain ⟨ow, d'⟩ := x
    obtain ⟨k', e1, e2, e3⟩ := ghA_some h
    have := inj k k' a h1 e2
    subst this e1
    rw [h2] at e3
    cases e3
    rfl
theorem entry {b : Bs} {as : List (D × Bool)} {vs : List V} {N : List Str} (p : Pre b as vs) (hn : vs.length ≤ N.length) : ER b b.F0 (ghA b.A as) (L2.start N vs) b.H0 (env0 N.length as) [] := by
  have hl : (env0 N.length as).sl.length = N.length := by
    show (slotsOf as 0 ++ List.replicate (N.length - as.length) Slot.no).length = _
    rw [List.length_append, slotsOf_length, List.length_replicate, p.len]
    omega
  refine { sub := p.sub, len := ?_, slot := fun i s h => ?_, flr := fun j v w h => by simp at h, lel := ?_, les := fun k a q h1 h2 => ?_, own := fun a ow d q => ?_, keep := fun a o h _ => h, domF := fun a h => .inl h, up := fun _ _ z => z }
  · rw [hl]
    unfold L2.start
    rw [List.length_append, List.length_map, List.length_replicate]
    omega
  · have h : (slotsOf as 0 ++ List.replicate (N.length - as.length) Slot.no)[i]? = some s := h
    rcases get_app h with h | ⟨_, h⟩
    · rw [slotsOf_get] at h
      cases ha : as[i]? with
      | none => rw [ha] at h; cases h
      | some x =>
        obtain ⟨d, c⟩ := x
        rw [ha] at h
        have hi : i < vs.length := by rw [← p.len]; exact (List.getElem?_eq_some_iff.mp ha).1
        have hv : vs[i]? = some vs[i] := List.getElem?_eq_getElem hi
        have hσ : (L2.start N vs)[i]? = some (some vs[i]) := by
          unfold L2.start
          rw [List.getElem?_append_left (by simpa using hi), List.getElem?_map, hv]
          rfl
        cases c with
        | false =>
          cases h
          exact ⟨_, hσ, (p.val i d _ ha hv).1⟩
        | true =>
          have e : Slot.lent (0 + i) = s := Option.some.inj h
          subst e
          obtain ⟨a, e1, e2, _⟩ := p.own i d _ ha hv
          refine ⟨a, by rw [hσ, e1], by rw [Nat.zero_add]; exact e2⟩
    · have : s = .no := by
        rw [List.getElem?_replicate] at h
        split at h
        · exact (Option.some.inj h).symm
        · cases h
      subst this
      exact True.intro
  · show as.length = _
    rw [p.len, p.lenA]
  · have h2 : as[k]? = some q := h2
    have hi : k < vs.length := by rw [← p.len]; exact (List.getElem?_eq_some_iff.mp h2).1
    obtain ⟨d, c⟩ := q
    cases c with
    | false =>
      have := (p.val k d _ h2 (List.getElem?_eq_getElem hi)).2
      rw [h1] at this
      cases this
    | true => exact ⟨fun _ => ghA_at p.inj h1 h2, fun z => (nomatch z)⟩
  · obtain ⟨k, e1, e2, e3⟩ := ghA_some q
    subst e1
    have hi : k < vs.length := by rw [← p.len]; exact (List.getElem?_eq_some_iff.mp e3).1
    obtain ⟨a', q1, q2, q3, q4⟩ := p.own k d _ e3 (List.getElem?_eq_getElem hi)
    rw [e2] at q2
    cases q2
    exact ⟨q3, q4, fun k' z => by cases z; exact e2, fun z => absurd rfl (z k)⟩
/-- the end of a def -/
theorem ER.post {b : Bs} {F : Hp} {O : Gh} {σ : L2.St} {H : Hp} {e : Env} {fl : List (V × W)} (E : ER b F O σ H e fl) : Post b F H e.le :=
  ⟨E.sub, E.up, E.keep, E.domF, E.lel, fun k a p h1 h2 => ⟨fun z => let ⟨q1, q2, _⟩ := E.own _ _ _ ((E.les k a p h1 h2).1 z); ⟨q1, q2⟩, (E.les k a p h1 h2).2⟩⟩

/-! ### a call's end, at the caller -/
/-- as ER, while the things that T names are changed in the heap but not yet in the frame -/
structure PE1 (b : Bs) (T : Addr → Option (D × Bool)) (F : Hp) (O : Gh) (σ : L2.St) (H : Hp) (e : Env) (fl : List (V × W)) : Prop where
  sub : Sub F H
  len : e.sl.length = σ.length
  slot : ∀ i s, e.sl[i]? = some s → SltR b F O σ i s
  flr : ∀ j v w, fl[j]? = some (v, w) → FlR b F O σ j v w
  lel : e.le.length = b.A.length
  les : ∀ k a p, b.A[k]? = some (some a) → e.le[k]? = some p → (p.2 = true → O a = some (.le k, p.1)) ∧ (p.2 = false → Rep b.K F p.1 (.ref a) ∧ ∃ o, F a = some o)
  own : ∀ a ow d, O a = some (ow, d) → (T a = none → F a = none ∧ Own b F H a d) ∧ (∀ p, T a = some p → Now b F H a p) ∧ (∀ k, ow = .le k → b.A[k]? = some (some a)) ∧ ((∀ k, ow ≠ .le k) → b.H0 a = none)
  keep : ∀ a o, b.H0 a = some o → some a ∉ b.A → H a = some o
  domF : ∀ a, F a ≠ none → b.F0 a ≠ none ∨ some a ∈ b.A ∨ b.H0 a = none
  up : Sub b.F0 F
def offT (T : Addr → Option (D × Bool)) (a : Addr) : Addr → Option (D × Bool) := fun c => if c = a then none else T c
section
variable {b : Bs} {T : Addr → Option (D × Bool)} {F : Hp} {O : Gh} {σ : L2.St} {H : Hp} {e e' : Env} {fl fl' : List (V × W)} {a : Addr} {ow : Ow} {d : D} {p : D × Bool}
theorem PE1.settle (E : PE1 b T F O σ H e fl) (hO : O a = some (ow, d)) (hT : T a = some p) (hl : e'.sl.length = e.sl.length)
    (hs : ∀ i s, e'.sl[i]? = some s → (e.sl[i]? = some s ∧ ow ≠ .sl i) ∨ (s = (if p.2 then .own p.1 else .val p.1) ∧ ow = .sl i ∧ σ[i]? = some (some (.ref a))))
    (hfl : ∀ j v w, fl'[j]? = some (v, w) → fl[j]? = some (v, w) ∧ ow ≠ .fl j) (hll : e'.le.length = e.le.length) (hle : ∀ k q, e'.le[k]? = some q → (e.le[k]? = some q ∧ ow ≠ .le k) ∨ (ow = .le k ∧ q = p)) :
    PE1 b (offT T a) F (updO O a (if p.2 then some (ow, p.1) else none)) σ H e' fl' := by
  obtain ⟨_, hn, o1, o2⟩ := E.own _ _ _ hO
  obtain ⟨n1, n2⟩ := hn p hT
  have ne : ∀ {c ow' x}, O c = some (ow', x) → ow' ≠ ow → c ≠ a := fun {c ow' x} q z y => by
    subst y
    rw [hO] at q
    cases q
    exact z rfl
  refine { sub := E.sub, len := hl.trans E.len, slot := fun i t h => ?_, flr := fun j u x h => ?_, lel := hll.trans E.lel, les := fun k c q h1 h2 => ?_, own := fun c ow' x q => ?_, keep := E.keep, domF := E.domF, up := E.up }
  · rcases hs i t h with ⟨h, n⟩ | ⟨h, n, r⟩
    · have r := E.slot i t h
      cases t with
      | own x =>
        obtain ⟨c, r1, r2⟩ := r
        exact ⟨c, r1, by rw [updO_ne (ne r2 (fun z => n z.symm))]; exact r2⟩
      | _ => exact r
    · subst n
      cases hp : p.2 with
      | true =>
        rw [hp, if_pos rfl] at h
        subst h
        exact ⟨a, r, by rw [updO_same, if_pos rfl]⟩
      | false =>
        rw [hp, if_neg Bool.false_ne_true] at h
        subst h
        exact ⟨_, r, (n2 hp).1⟩
  · obtain ⟨h, n⟩ := hfl j u x h
    have r := E.flr j u x h
    cases x with
    | o y =>
      obtain ⟨c, r1, r2⟩ := r
      exact ⟨c, r1, by rw [updO_ne (ne r2 (fun z => n z.symm))]; exact r2⟩
    | _ => exact r
  · rcases hle k q h2 with ⟨h, n⟩ | ⟨h, r⟩
    · obtain ⟨r1, r2⟩ := E.les k c q h1 h
      exact ⟨fun z => by rw [updO_ne (ne (r1 z) (fun z => n z.symm))]; exact r1 z, r2⟩
    · subst r h
      have e1 := o1 k rfl
      rw [h1] at e1
      cases e1
      exact ⟨fun z => by rw [updO_same, z, if_pos rfl], n2⟩
  · by_cases hc : c = a
    · subst hc
      rw [updO_same] at q
      cases hp : p.2 with
      | true =>
        rw [hp, if_pos rfl] at q
        cases q
        exact ⟨fun _ => n1 hp, (fun q z => by
          have z : (if c = c then none else T c) = some q := z
          rw [if_pos rfl] at z
          cases z), o1, o2⟩
      | false =>
        rw [hp, if_neg Bool.false_ne_true] at q
        cases q
    · rw [updO_ne hc] at q
      obtain ⟨r1, r2, r3⟩ := E.own c ow' x q
      unfold offT
      rw [if_neg hc]
      exact ⟨r1, r2, r3⟩
theorem PE1.done (E : PE1 b T F O σ H e fl) (hT : ∀ a x, O a = some x → T a = none) : ER b F O σ H e fl :=
  ⟨E.sub, E.len, E.slot, E.flr, E.lel, E.les, fun a ow d q => let ⟨h1, _, h3⟩ := E.own a ow d q; ⟨(h1 (hT _ _ q)).1, (h1 (hT _ _ q)).2, h3⟩, E.keep, E.domF, E.up⟩
theorem PE1.atOwn (E : PE1 b T F O σ H e fl) {i : Nat} {p : D × Bool} (h : e.at i = some p) (hb : p.2 = true) :
    ∃ a, σ[i]? = some (some (.ref a)) ∧ ((e.sl[i]? = some (.own p.1) ∧ O a = some (.sl i, p.1)) ∨ ∃ k, e.sl[i]? = some (.lent k) ∧ e.le[k]? = some p ∧ b.A[k]? = some (some a) ∧ O a = some (.le k, p.1)) := by
  unfold Env.at at h
  cases hs : e.sl[i]? with
  | none => rw [hs] at h; cases h
  | some s =>
    rw [hs] at h
    have r := E.slot i s hs
    cases s with
    | no => cases h
    | val x => cases h; cases hb
    | own x =>
      cases h
      obtain ⟨a, r1, r2⟩ := r
      exact ⟨a, r1, .inl ⟨rfl, r2⟩⟩
    | lent k =>
      have h : e.le[k]? = some p := h
      obtain ⟨a, r1, r2⟩ := r
      exact ⟨a, r1, .inr ⟨k, rfl, h, r2, (E.les k a p r2 h).1 hb⟩⟩
/-- a slot's changed thing is written into the frame -/
theorem PE1.put (E : PE1 b T F O σ H e fl) {i : Nat} {q : D × Bool} (h : e.at i = some q) (hb : q.2 = true) (ha : σ[i]? = some (some (.ref a))) (hT : T a = some p) :
    ∃ O', PE1 b (offT T a) F O' σ H (e.put i p) fl ∧ ∀ c, c ≠ a → O' c = O c := by
  obtain ⟨c, h1, h2⟩ := E.atOwn h hb
  rw [ha] at h1
  cases h1
  rcases h2 with ⟨hs, hO⟩ | ⟨k, hs, hk, hA, hO⟩
  · refine ⟨_, E.settle hO hT (e' := e.put i p) ?_ ?_ (fun j v w z => ⟨z, fun z => nomatch z⟩) ?_ ?_, fun c hc => updO_ne hc⟩
    · unfold Env.put; rw [hs]; simp [Env.setS]
    · intro j s z
      unfold Env.put at z
      rw [hs] at z
      rcases set_get z with ⟨q1, q2⟩ | ⟨q1, q2⟩
      · subst q1
        exact .inr ⟨q2, rfl, ha⟩
      · exact .inl ⟨q2, fun z => by cases z; exact q1 rfl⟩
    · unfold Env.put; rw [hs]; rfl
    · intro k z y
      unfold Env.put at y
      rw [hs] at y
      exact .inl ⟨y, fun z => nomatch z⟩
  · refine ⟨_, E.settle hO hT (e' := e.put i p) ?_ ?_ (fun j v w z => ⟨z, fun z => nomatch z⟩) ?_ ?_, fun c hc => updO_ne hc⟩
    · unfold Env.put; rw [hs]
    · intro j s z
      unfold Env.put at z
      rw [hs] at z
      exact .inl ⟨z, fun z => nomatch z⟩
    · unfold Env.put; rw [hs]; simp
    · intro k' z y
      unfold Env.put at y
      rw [hs] at y
      rcases set_get y with ⟨q1, q2⟩ | ⟨q1, q2⟩
      · subst q1
        exact .inr ⟨rfl, q2⟩
      · exact .inl ⟨q2, fun z => by cases z; exact q1 rfl⟩
end
end Mi

set_option Elab.async false
set_option linter.all false
set_option maxRecDepth 100000
set_option maxHeartbeats 1000000
/-! Mi5: a call, at the caller. -/
namespace Mi
open PySem L2
def vAdr : V → Option Addr
  | .ref a => some a
  | _ => none
def adr1 (v : V) (p : D × Bool) : Option Addr := if p.2 then vAdr v else none
def adrs : List V → List (D × Bool) → List (Option Addr)
  | v :: vs, p :: ps => adr1 v p :: adrs vs ps
  | _, _ => []
theorem adrs_length : ∀ {vs : List V} {as : List (D × Bool)}, as.length = vs.length → (adrs vs as).length = vs.length
  | [], [], _ => rfl
  | [], _ :: _, h => by cases h
  | _ :: _, [], h => by cases h
  | v :: vs, p :: ps, h => by
    show (adrs vs ps).length + 1 = vs.length + 1
    rw [adrs_length (by simpa using h)]
theorem adrs_get : ∀ {vs : List V} {as : List (D × Bool)} {k : Nat} {v : V} {p : D × Bool}, vs[k]? = some v → as[k]? = some p → (adrs vs as)[k]? = some (adr1 v p)
  | [], _, _, _, _, h, _ => by simp at h
  | _ :: _, [], _, _, _, _, h => by simp at h
  | v :: vs, p :: ps, 0, _, _, h1, h2 => by
    simp at h1 h2
    subst h1 h2
    rfl
  | v :: vs, p :: ps, k + 1, _, _, h1, h2 => by
    show (adrs vs ps)[k]? = _
    exact adrs_get (by simpa using h1) (by simpa using h2)
theorem hand_len {e : Env} : ∀ {ws : List W} {as : List (D × Bool)}, e.hand ws = some as → as.length = ws.length
  | [], as, h => by cases h; rfl
  | w :: ws, as, h => by
    unfold Env.hand at h
    cases h1 : e.see w with
    | none => rw [h1] at h; cases h
    | some p =>
      cases h2 : e.hand ws with
      | none => rw [h1, h2] at h; cases h
      | some ps =>
        rw [h1, h2] at h
        simp only at h
        split at h
        · cases h
        · cases h
          show ps.length + 1 = ws.length + 1
          rw [hand_len h2]
theorem hand_cons {e : Env} {w : W} {ws : List W} {as : List (D × Bool)} (h : e.hand (w :: ws) = some as) :
    ∃ p ps, as = p :: ps ∧ e.see w = some p ∧ e.hand ws = some ps ∧ (p.2 = true → ∀ u ∈ ws, sameKey e w u = false) := by
  unfold Env.hand at h
  cases h1 : e.see w with
  | none => rw [h1] at h; cases h
  | some p =>
    cases h2 : e.hand ws with
    | none => rw [h1, h2] at h; cases h
    | some ps =>
      rw [h1, h2] at h
      simp only at h
      split at h
      · cases h
      · rename_i hn
        cases h
        refine ⟨p, ps, rfl, rfl, rfl, fun hp u hu => ?_⟩
        cases q : sameKey e w u with
        | false => rfl
        | true =>
          refine absurd ?_ hn
          rw [hp, Bool.true_and]
          exact List.any_eq_true.mpr ⟨u, hu, q⟩
theorem hand_get {e : Env} : ∀ {ws : List W} {as : List (D × Bool)} {k : Nat} {p : D × Bool}, e.hand ws = some as → as[k]? = some p → ∃ w, ws[k]? = some w ∧ e.see w = some p
  | [], as, k, p, h, q => by cases h; simp at q
  | w :: ws, as, k, p, h, q => by
    obtain ⟨p', ps, rfl, h1, h2, _⟩ := hand_cons h
    cases k with
    | zero =>
      simp at q
      subst q
      exact ⟨w, rfl, h1⟩
    | succ k =>
      obtain ⟨u, e1, e2⟩ := hand_get (k := k) h2 (by simpa using q)
      exact ⟨u, by simpa using e1, e2⟩
theorem hand_apart {e : Env} : ∀ {ws : List W} {as : List (D × Bool)} {k k' : Nat} {p : D × Bool} {w u : W}, e.hand ws = some as → k < k' → as[k]? = some p → p.2 = true → ws[k]? = some w → ws[k']? = some u → sameKey e w u = false
  | [], as, k, k', p, w, u, h, _, q, _, _, _ => by cases h; simp at q
  | x :: ws, as, k, k', p, w, u, h, hk, q, hp, h1, h2 => by
    obtain ⟨p', ps, rfl, e1, e2, e3⟩ := hand_cons h
    cases k' with
    | zero => omega
    | succ k' =>
      have h2 : ws[k']? = some u := by simpa using h2
      cases k with
      | zero =>
        simp at q h1
        subst q h1
        exact e3 hp u (List.mem_of_getElem? h2)
      | succ k => exact hand_apart (k := k) (k' := k') e2 (by omega) (by simpa using q) hp (by simpa using h1) h2
section
variable {b : Bs} {F : Hp} {O : Gh} {σ : L2.St} {H : Hp} {e : Env} {fl : List (V × W)} {v : V} {d : D} {w : W}
/-- where a thing on its way stands, and who holds it -/
theorem ER.seeOwn (E : ER b F O σ H e fl) {j : Nat} (h : fl[j]? = some (v, w)) (q : e.see w = some (d, true)) :
    ∃ a, v = .ref a ∧ ((w = .o d ∧ O a = some (.fl j, d)) ∨ ∃ i, w = .s i ∧ σ[i]? = some (some (.ref a)) ∧ e.at i = some (d, true) ∧ ((e.okey w = some (false, i) ∧ O a = some (.sl i, d)) ∨ ∃ k, e.okey w = some (true, k) ∧ O a = some (.le k, d))) := by
  have r := E.flr j v w h
  cases w with
  | d d' => cases q
  | o d' =>
    cases q
    obtain ⟨a, r1, r2⟩ := r
    exact ⟨a, r1, .inl ⟨rfl, r2⟩⟩
  | s i =>
    have q : e.at i = some (d, true) := q
    have r : σ[i]? = some (some v) := r
    obtain ⟨a, h1, h2⟩ := E.atOwn q rfl
    rw [r] at h1
    cases h1
    refine ⟨a, rfl, .inr ⟨i, rfl, r, q, ?_⟩⟩
    rcases h2 with ⟨hs, hO⟩ | ⟨k, hs, _, _, hO⟩
    · exact .inl ⟨by show (match e.sl[i]? with | some (.own _) => some (false, i) | some (.lent k) => some (true, k) | _ => none) = _; rw [hs], hO⟩
    · exact .inr ⟨k, by show (match e.sl[i]? with | some (.own _) => some (false, i) | some (.lent k) => some (true, k) | _ => none) = _; rw [hs], hO⟩
theorem zip_get {vs : List V} {ws : List W} {k : Nat} {v : V} {w : W} (h1 : vs[k]? = some v) (h2 : ws[k]? = some w) : (fl ++ vs.zip ws)[fl.length + k]? = some (v, w) := by
  rw [List.getElem?_append_right (by omega)]
  have : fl.length + k - fl.length = k := by omega
  rw [this, List.getElem?_zip_eq_some]
  exact ⟨h1, h2⟩
/-- the caller hands over -/
theorem ER.pre {vs : List V} {ws : List W} {as : List (D × Bool)} (E : ER b F O σ H e (fl ++ vs.zip ws)) (hl : vs.length = ws.length) (hh : e.hand ws = some as) : Pre ⟨b.K, b.P, b.w, adrs vs as, F, H⟩ as vs := by
  have hla := (hand_len hh).trans hl.symm
  refine ⟨E.sub, hla, adrs_length hla, fun k d v h1 h2 => ?_, fun k d v h1 h2 => ?_, fun k k' a h1 h2 => ?_⟩
  · obtain ⟨w, q1, q2⟩ := hand_get hh h1
    exact ⟨(E.see (zip_get h2 q1) q2).1 rfl, by rw [adrs_get h2 h1]; rfl⟩
  · obtain ⟨w, q1, q2⟩ := hand_get hh h1
    obtain ⟨a, e1, hx⟩ := E.seeOwn (zip_get h2 q1) q2
    have hO : ∃ ow, O a = some (ow, d) := by
      rcases hx with ⟨_, h⟩ | ⟨i, _, _, _, ⟨_, h⟩ | ⟨k, _, h⟩⟩ <;> exact ⟨_, h⟩
    obtain ⟨ow, hO⟩ := hO
    obtain ⟨f, hown, _⟩ := E.own _ _ _ hO
    subst e1
    refine ⟨a, rfl, by rw [adrs_get h2 h1]; rfl, f, ?_⟩
    cases d <;> exact hown
  · -- one address is handed once
    have get : ∀ k : Nat, (adrs vs as)[k]? = some (some a) → ∃ (d : D) (w : W), as[k]? = some (d, true) ∧ ws[k]? = some w ∧ vs[k]? = some (.ref a) ∧ e.see w = some (d, true) := fun k h => by
      have hk : k < vs.length := by
        have := (List.getElem?_eq_some_iff.mp h).1
        rw [adrs_length hla] at this
        exact this
      have hk' : k < as.length := by omega
      have a1 := List.getElem?_eq_getElem hk
      have a2 := List.getElem?_eq_getElem hk'
      rw [adrs_get a1 a2] at h
      generalize vs[k] = v at a1 h
      generalize as[k] = p at a2 h
      obtain ⟨d, c⟩ := p
      cases c with
      | false => cases h
      | true =>
        have h : vAdr v = some a := Option.some.inj h
        cases v with
        | ref a' =>
          cases h
          obtain ⟨w, q1, q2⟩ := hand_get hh a2
          exact ⟨d, w, a2, q1, a1, q2⟩
        | _ => cases h
    have key : ∀ k k' : Nat, k < k' → (adrs vs as)[k]? = some (some a) → (adrs vs as)[k']? = some (some a) → False := fun k k' hlt h1 h2 => by
      obtain ⟨d, w, p1, p2, p3, p4⟩ := get k h1
      obtain ⟨d', u, q1, q2, q3, q4⟩ := get k' h2
      obtain ⟨c, e1, x⟩ := E.seeOwn (zip_get p3 p2) p4
      obtain ⟨c', e2, y⟩ := E.seeOwn (zip_get q3 q2) q4
      cases e1
      cases e2
      have nk := hand_apart hh hlt p1 rfl p2 q2
      rcases x with ⟨_, x⟩ | ⟨i, _, _, _, ⟨xk, x⟩ | ⟨m, xk, x⟩⟩ <;> rcases y with ⟨_, y⟩ | ⟨i', _, _, _, ⟨yk, y⟩ | ⟨m', yk, y⟩⟩ <;> rw [x] at y <;> simp only [Option.some.injEq, Prod.mk.injEq, Ow.fl.injEq, Ow.sl.injEq, Ow.le.injEq, reduceCtorEq, false_and] at y
      · omega
      · unfold sameKey at nk
        rw [xk, yk, y.1] at nk
        simp at nk
      · unfold sameKey at nk
        rw [xk, yk, y.1] at nk
        simp at nk
    rcases Nat.lt_trichotomy k k' with h | h | h
    · exact (key k k' h h1 h2).elim
    · exact h
    · exact (key k' k h h2 h1).elim
def mkT : List (Option Addr) → List (D × Bool) → Addr → Option (D × Bool)
  | some a :: As, p :: ps => fun c => if c = a then some p else mkT As ps c
  | none :: As, _ :: ps => mkT As ps
  | _, _ => fun _ => none
theorem mkT_some : ∀ {As : List (Option Addr)} {ps : List (D × Bool)} {c : Addr} {p : D × Bool}, mkT As ps c = some p → ∃ k : Nat, As[k]? = some (some c) ∧ ps[k]? = some p
  | [], _, _, _, h => by cases h
  | some a :: As, [], _, _, h => by cases h
  | none :: As, [], _, _, h => by cases h
  | some a :: As, q :: ps, c, p, h => by
    have h : (if c = a then some q else mkT As ps c) = some p := h
    by_cases hc : c = a
    · rw [if_pos hc] at h
      cases h
      subst hc
      exact ⟨0, rfl, rfl⟩
    · rw [if_neg hc] at h
      obtain ⟨k, h1, h2⟩ := mkT_some h
      exact ⟨k + 1, by simpa using h1, by simpa using h2⟩
  | none :: As, q :: ps, c, p, h => by
    obtain ⟨k, h1, h2⟩ := mkT_some (As := As) (ps := ps) h
    exact ⟨k + 1, by simpa using h1, by simpa using h2⟩
theorem mkT_none : ∀ {As : List (Option Addr)} {ps : List (D × Bool)} {c : Addr}, some c ∉ As → mkT As ps c = none
  | [], _, _, _ => rfl
  | some a :: As, [], _, _ => rfl
  | none :: As, [], _, _ => rfl
  | some a :: As, q :: ps, c, h => by
    show (if c = a then some q else mkT As ps c) = none
    rw [if_neg (fun z => h (by rw [z]; exact List.mem_cons_self))]
    exact mkT_none fun z => h (List.mem_cons_of_mem _ z)
  | none :: As, q :: ps, c, h => mkT_none (As := As) (ps := ps) fun z => h (List.mem_cons_of_mem _ z)
theorem mkT_mem : ∀ {As : List (Option Addr)} {ps : List (D × Bool)} {c : Addr}, As.length = ps.length → some c ∈ As → ∃ p, mkT As ps c = some p
  | [], _, _, _, h => by cases h
  | _ :: _, [], _, hl, _ => by cases hl
  | some a :: As, q :: ps, c, hl, h => by
    by_cases hc : c = a
    · exact ⟨q, if_pos hc⟩
    · obtain ⟨p, e⟩ := mkT_mem (As := As) (ps := ps) (c := c) (by simpa using hl) (by
        rcases List.mem_cons.mp h with z | z
        · exact absurd (Option.some.inj z) hc
        · exact z)
      exact ⟨p, (if_neg hc).trans e⟩
  | none :: As, q :: ps, c, hl, h => mkT_mem (As := As) (ps := ps) (c := c) (by simpa using hl) (by
      rcases List.mem_cons.mp h with z | z
      · cases z
      · exact z)
theorem at_put {b : Bs} {T : Addr → Option (D × Bool)} (E : PE1 b T F O σ H e fl) {i i' : Nat} {a a' : Addr} {p : D × Bool} (h1 : σ[i]? = some (some (.ref a))) (h2 : σ[i']? = some (some (.ref a'))) (n : a' ≠ a) : (e.put i p).at i' = e.at i' := by
  have hi : i' ≠ i := fun z => by
    subst z
    rw [h1] at h2
    cases h2
    exact n rfl
  unfold Env.put
  cases hs : e.sl[i]? with
  | none => rfl
  | some s =>
    cases s with
    | no => rfl
    | val x => rfl
    | own x =>
      show (e.setS i _).at i' = _
      unfold Env.at Env.setS
      rw [List.getElem?_set_ne (Ne.symm hi)]
    | lent k =>
      show (Env.mk e.sl (e.le.set k p)).at i' = _
      unfold Env.at
      cases hs' : e.sl[i']? with
      | none => rfl
      | some s' =>
        cases s' with
        | lent k' =>
          have hk : k' ≠ k := fun z => by
            subst z
            obtain ⟨c, q1, q2⟩ := E.slot i _ hs
            obtain ⟨c', q3, q4⟩ := E.slot i' _ hs'
            rw [q2] at q4
            cases q4
            rw [h1] at q1
            rw [h2] at q3
            cases q1
            cases q3
            exact n rfl
          show (e.le.set k p)[k']? = e.le[k']?
          rw [List.getElem?_set_ne (Ne.symm hk)]
        | _ => rfl
/-- what is asked of each argument -/
def ArgS (O : Gh) (σ : L2.St) (e : Env) (n : Nat) (v : V) (w : W) (p : D × Bool) : Prop := p.2 = true → ∃ a, v = .ref a ∧ (∃ ow d, O a = some (ow, d)) ∧
  ((∃ d j, w = .o d ∧ n ≤ j ∧ O a = some (.fl j, d)) ∨ ∃ i q, w = .s i ∧ σ[i]? = some (some (.ref a)) ∧ e.at i = some q ∧ q.2 = true)
theorem settleAll : ∀ {ws : List W} {vs : List V} {as out : List (D × Bool)} {O : Gh} {e : Env}, PE1 b (mkT (adrs vs as) out) F O σ H e fl → vs.length = ws.length → as.length = ws.length → out.length = ws.length →
    (∀ (k : Nat) (v : V) (w : W) (p : D × Bool), vs[k]? = some v → ws[k]? = some w → as[k]? = some p → ArgS O σ e fl.length v w p) →
    (∀ (k k' : Nat) (a : Addr), (adrs vs as)[k]? = some (some a) → (adrs vs as)[k']? = some (some a) → k = k') →
    ∃ O', ER b F O' σ H (e.back ws as out) fl ∧ ∀ c, O c = none → O' c = none
  | [], [], [], [], O, e, E, _, _, _, _, _ => ⟨O, E.done fun _ _ _ => rfl, fun _ h => h⟩
  | [], [], [], _ :: _, O, e, E, _, _, h, _, _ => by cases h
  | [], [], _ :: _, _, O, e, E, _, h, _, _, _ => by cases h
  | [], _ :: _, _, _, O, e, E, h, _, _, _, _ => by cases h
  | _ :: _, [], _, _, O, e, E, h, _, _, _, _ => by cases h
  | _ :: _, _ :: _, [], _, O, e, E, _, h, _, _, _ => by cases h
  | _ :: _, _ :: _, _ :: _, [], O, e, E, _, _, h, _, _ => by cases h
  | w :: ws, v :: vs, p :: as, q :: out, O, e, E, l1, l2, l3, hA, inj => by
    have m1 : vs.length = ws.length := by simpa using l1
    have m2 : as.length = ws.length := by simpa using l2
    have m3 : out.length = ws.length := by simpa using l3
    have inj' : ∀ (k k' : Nat) (a : Addr), (adrs vs as)[k]? = some (some a) → (adrs vs as)[k']? = some (some a) → k = k' := fun k k' a h1 h2 => by
      have := inj (k + 1) (k' + 1) a (by simpa [adrs] using h1) (by simpa [adrs] using h2)
      omega
    cases hp : p.2 with
    | false =>
      have e1 : adr1 v p = none := by unfold adr1; rw [hp]; rfl
      have E' : PE1 b (mkT (adrs vs as) out) F O σ H e fl := by
        have E : PE1 b (mkT (adr1 v p :: adrs vs as) (q :: out)) F O σ H e fl := E
        rw [e1] at E
        exact E
      have eb : e.back (w :: ws) (p :: as) (q :: out) = e.back ws as out := by
        cases w with
        | s i => show (if p.2 then e.put i q else e).back ws as out = _; rw [hp, if_neg Bool.false_ne_true]
        | d _ => rfl
        | o _ => rfl
      rw [eb]
      exact settleAll E' m1 m2 m3 (fun k v w p h1 h2 h3 => hA (k + 1) v w p (by simpa using h1) (by simpa using h2) (by simpa using h3)) inj'
    | true =>
      obtain ⟨a, ev, ⟨ow, d, hO⟩, hx⟩ := hA 0 v w p rfl rfl rfl hp
      subst ev
      have e1 : adr1 (.ref a) p = some a := by unfold adr1; rw [hp]; rfl
      have E1 : PE1 b (mkT (some a :: adrs vs as) (q :: out)) F O σ H e fl := by
        have E : PE1 b (mkT (adr1 (.ref a) p :: adrs vs as) (q :: out)) F O σ H e fl := E
        rw [e1] at E
        exact E
      have hT : mkT (some a :: adrs vs as) (q :: out) a = some q := if_pos rfl
      have nin : some a ∉ adrs vs as := fun z => by
        obtain ⟨k, hk⟩ := List.getElem?_of_mem z
        have := inj 0 (k + 1) a (by show some (adr1 (.ref a) p) = _; rw [e1]) (by simpa [adrs] using hk)
        omega
      have eT : offT (mkT (some a :: adrs vs as) (q :: out)) a = mkT (adrs vs as) out := by
        funext c
        show (if c = a then none else (if c = a then some q else mkT (adrs vs as) out c)) = _
        by_cases hc : c = a
        · rw [if_pos hc, hc, mkT_none nin]
        · rw [if_neg hc, if_neg hc]
      -- the later arguments stand elsewhere
      have apart : ∀ (k : Nat) (a' : Addr) (p' : D × Bool), vs[k]? = some (.ref a') → as[k]? = some p' → p'.2 = true → a' ≠ a := fun k a' p' h1 h2 h3 z => nin (by
        have := adrs_get h1 h2
        have e2 : adr1 (.ref a') p' = some a' := by unfold adr1; rw [h3]; rfl
        rw [e2, z] at this
        exact List.mem_of_getElem? this)
      rcases hx with ⟨d', j, ew, hj, hO'⟩ | ⟨i, q', ew, hσ, hat, hq'⟩
      · subst ew
        have E2 := E1.settle (e' := e) (fl' := fl) hO' hT rfl (fun i s z => .inl ⟨z, fun z => nomatch z⟩) (fun k v w z => ⟨z, fun y => by
          cases y
          have := (List.getElem?_eq_some_iff.mp z).1
          omega⟩) rfl (fun k z y => .inl ⟨y, fun z => nomatch z⟩)
        rw [eT] at E2
        obtain ⟨O', E3, h3⟩ := settleAll E2 m1 m2 m3 (fun k v w p h1 h2 h3 hp' => by
          obtain ⟨a', ev, ⟨ow', d'', hO''⟩, hy⟩ := hA (k + 1) v w p (by simpa using h1) (by simpa using h2) (by simpa using h3) hp'
          subst ev
          have n := apart k a' p h1 h3 hp'
          refine ⟨a', rfl, ⟨ow', d'', by rw [updO_ne n]; exact hO''⟩, ?_⟩
          rcases hy with ⟨x1, x2, x3, x4, x5⟩ | hy
          · exact .inl ⟨x1, x2, x3, x4, by rw [updO_ne n]; exact x5⟩
          · exact .inr hy) inj'
        refine ⟨O', E3, fun c hc => h3 c ?_⟩
        have : c ≠ a := fun z => by rw [z, hO] at hc; cases hc
        rw [updO_ne this]
        exact hc
      · subst ew
        obtain ⟨O1, E2, h2⟩ := E1.put hat hq' hσ hT
        rw [eT] at E2
        have eb : e.back (W.s i :: ws) (p :: as) (q :: out) = (e.put i q).back ws as out := by
          show (if p.2 then e.put i q else e).back ws as out = _
          rw [hp, if_pos rfl]
        rw [eb]
        obtain ⟨O', E3, h3⟩ := settleAll E2 m1 m2 m3 (fun k v w p h1 h2' h3 hp' => by
          obtain ⟨a', ev, ⟨ow', d'', hO''⟩, hy⟩ := hA (k + 1) v w p (by simpa using h1) (by simpa using h2') (by simpa using h3) hp'
          subst ev
          have n := apart k a' p h1 h3 hp'
          refine ⟨a', rfl, ⟨ow', d'', by rw [h2 _ n]; exact hO''⟩, ?_⟩
          rcases hy with ⟨x1, x2, x3, x4, x5⟩ | ⟨i', q'', y1, y2, y3, y4⟩
          · exact .inl ⟨x1, x2, x3, x4, by rw [h2 _ n]; exact x5⟩
          · exact .inr ⟨i', q'', y1, y2, by rw [at_put E1 hσ y2 n]; exact y3, y4⟩) inj'
        refine ⟨O', E3, fun c hc => h3 c ?_⟩
        have : c ≠ a := fun z => by rw [z, hO] at hc; cases hc
        rw [h2 c this]
        exact hc
/-- behind a call -/
theorem ER.called {vs : List V} {ws : List W} {as out : List (D × Bool)} {F' H' : Hp} (E : ER b F O σ H e (fl ++ vs.zip ws)) (hl : vs.length = ws.length) (hh : e.hand ws = some as)
    (p : Post ⟨b.K, b.P, b.w, adrs vs as, F, H⟩ F' H' out) : ∃ O', ER b F' O' σ H' (e.back ws as out) fl ∧ ∀ c, H c = none → O' c = none := by
  have P0 := E.pre hl hh
  have hla := (hand_len hh).trans hl.symm
  have hAl : (adrs vs as).length = out.length := p.len.symm
  have Ow' : ∀ {G h : Hp} {a : Addr} {d : D}, Own ⟨b.K, b.P, b.w, adrs vs as, F, H⟩ G h a d → Own b G h a d := fun {G h a d} x => by cases d <;> exact x
  have E1 : PE1 b (mkT (adrs vs as) out) F' O σ H' e fl := by
    refine { sub := p.sub, len := E.len, slot := fun i s h => ?_, flr := fun j v w h => ?_, lel := E.lel, les := fun k a q h1 h2 => ?_, own := fun a ow d q => ?_, keep := fun a o h1 h2 => ?_, domF := fun a h => ?_, up := fun a o q => p.up _ _ (E.up _ _ q) }
    · have r := E.slot i s h
      cases s with
      | val x => obtain ⟨u, r1, r2⟩ := r; exact ⟨u, r1, r2.mono p.up⟩
      | _ => exact r
    · have r := E.drop.flr j v w h
      cases w with
      | d y => exact Rep.mono p.up r
      | _ => exact r
    · obtain ⟨r1, r2⟩ := E.les k a q h1 h2
      exact ⟨r1, fun z => let ⟨x, o, y⟩ := r2 z; ⟨x.mono p.up, o, p.up _ _ y⟩⟩
    · obtain ⟨r1, r2, r3, r4⟩ := E.own a ow d q
      refine ⟨fun hT => ?_, fun x hT => ?_, r3, r4⟩
      · have nin : some a ∉ adrs vs as := fun z => by
          obtain ⟨x, hx⟩ := mkT_mem hAl z
          rw [hT] at hx
          cases hx
        obtain ⟨o, ho⟩ := r2.some
        refine ⟨?_, r2.at p.up ((p.keep a o ho nin).trans ho.symm)⟩
        cases hF : F' a with
        | none => rfl
        | some u =>
          rcases p.domF a (by rw [hF]; exact fun z => nomatch z) with z | z | z
          · exact absurd r1 z
          · exact absurd z nin
          · have z : H a = none := z
            rw [ho] at z
            cases z
      · obtain ⟨k, h1, h2⟩ := mkT_some hT
        obtain ⟨n1, n2⟩ := p.out k a x h1 h2
        exact ⟨fun z => ⟨(n1 z).1, Ow' (n1 z).2⟩, n2⟩
    · have ho := E.keep a o h1 h2
      by_cases hm : some a ∈ adrs vs as
      · -- a lent thing of ours is handed on: it was lent to us or is new
        obtain ⟨k, hk⟩ := List.getElem?_of_mem hm
        have hk1 : k < vs.length := by
          have := (List.getElem?_eq_some_iff.mp hk).1
          rw [adrs_length hla] at this
          exact this
        have a1 := List.getElem?_eq_getElem hk1
        have a2 := List.getElem?_eq_getElem (show k < as.length by omega)
        rw [adrs_get a1 a2] at hk
        generalize vs[k] = v at a1 hk
        generalize as[k] = y at a2 hk
        obtain ⟨d, c⟩ := y
        cases c with
        | false => cases hk
        | true =>
          have hk : vAdr v = some a := Option.some.inj hk
          cases v with
          | ref a' =>
            cases hk
            obtain ⟨w, q1, q2⟩ := hand_get hh a2
            obtain ⟨c, e1, x⟩ := E.seeOwn (zip_get a1 q1) q2
            cases e1
            have hO : ∃ ow, O a = some (ow, d) := by
              rcases x with ⟨_, h⟩ | ⟨i, _, _, _, ⟨_, h⟩ | ⟨k, _, h⟩⟩ <;> exact ⟨_, h⟩
            obtain ⟨ow, hO⟩ := hO
            obtain ⟨_, _, o1, o2⟩ := E.own _ _ _ hO
            cases ow with
            | le k => exact absurd (List.mem_of_getElem? (o1 k rfl)) h2
            | sl i => rw [o2 fun _ z => nomatch z] at h1; cases h1
            | fl i => rw [o2 fun _ z => nomatch z] at h1; cases h1
          | _ => cases hk
      · exact p.keep a o ho hm
    · rcases p.domF a h with z | z | z
      · exact E.domF a z
      · obtain ⟨k, hk⟩ := List.getElem?_of_mem z
        have hk1 : k < vs.length := by
          have := (List.getElem?_eq_some_iff.mp hk).1
          rw [adrs_length hla] at this
          exact this
        have a1 := List.getElem?_eq_getElem hk1
        have a2 := List.getElem?_eq_getElem (show k < as.length by omega)
        rw [adrs_get a1 a2] at hk
        generalize vs[k] = v at a1 hk
        generalize as[k] = y at a2 hk
        obtain ⟨d, c⟩ := y
        cases c with
        | false => cases hk
        | true =>
          have hk : vAdr v = some a := Option.some.inj hk
          cases v with
          | ref a' =>
            cases hk
            obtain ⟨w, q1, q2⟩ := hand_get hh a2
            obtain ⟨c, e1, x⟩ := E.seeOwn (zip_get a1 q1) q2
            cases e1
            have hO : ∃ ow, O a = some (ow, d) := by
              rcases x with ⟨_, h⟩ | ⟨i, _, _, _, ⟨_, h⟩ | ⟨k, _, h⟩⟩ <;> exact ⟨_, h⟩
            obtain ⟨ow, hO⟩ := hO
            obtain ⟨_, _, o1, o2⟩ := E.own _ _ _ hO
            cases ow with
            | le k => exact .inr (.inl (List.mem_of_getElem? (o1 k rfl)))
            | sl i => exact .inr (.inr (o2 fun _ z => nomatch z))
            | fl i => exact .inr (.inr (o2 fun _ z => nomatch z))
          | _ => cases hk
      · have z : H a = none := z
        exact .inr (.inr (E.new z).2.2)
  obtain ⟨O', E2, h2⟩ := settleAll E1 hl (hand_len hh) (by rw [p.len]; show (adrs vs as).length = _; rw [adrs_length hla]; exact hl) (fun k v w q h1 h2 h3 hq => by
    obtain ⟨d, c⟩ := q
    cases hq
    obtain ⟨w', q1, q2⟩ := hand_get hh h3
    rw [h2] at q1
    cases q1
    obtain ⟨a, e1, x⟩ := E.seeOwn (zip_get h1 h2) q2
    refine ⟨a, e1, ?_, ?_⟩
    · rcases x with ⟨_, h⟩ | ⟨i, _, _, _, ⟨_, h⟩ | ⟨k, _, h⟩⟩ <;> exact ⟨_, _, h⟩
    · rcases x with ⟨x1, x2⟩ | ⟨i, x1, x2, x3, _⟩
      · exact .inl ⟨d, _, x1, Nat.le_add_right _ _, x2⟩
      · exact .inr ⟨i, _, x1, x2, x3, rfl⟩) P0.inj
  exact ⟨O', E2, fun c hc => h2 c (E.new hc).2.1⟩
/-- a call's new thing -/
theorem ER.pushR {F' H' : Hp} {O' : Gh} {r : Addr} (E : ER b F' O' σ H' e fl) (hO : O' r = none) (hF : F' r = none) (hd : Own b F' H' r d) (h0 : b.H0 r = none) :
    ER b F' (updO O' r (some (.fl fl.length, d))) σ H' e (fl ++ [(.ref r, .o d)]) := by
  have ne : ∀ {a x}, O' a = some x → a ≠ r := fun {a x} q z => by rw [z, hO] at q; cases q
  refine { E with slot := fun i s h => ?_, flr := fun j u w h => ?_, les := fun k a q h1 h2 => ?_, own := fun a ow d' q => ?_ }
  · have t := E.slot i s h
    cases s with
    | own d' =>
      obtain ⟨a, r1, r2⟩ := t
      exact ⟨a, r1, by rw [updO_ne (ne r2)]; exact r2⟩
    | _ => exact t
  · rcases get_one h with h | ⟨hj, h⟩
    · have t := E.flr j u w h
      cases w with
      | o d' =>
        obtain ⟨a, r1, r2⟩ := t
        exact ⟨a, r1, by rw [updO_ne (ne r2)]; exact r2⟩
      | _ => exact t
    · cases h
      exact ⟨r, rfl, by rw [updO_same, hj]⟩
  · obtain ⟨r1, r2⟩ := E.les k a q h1 h2
    exact ⟨fun z => by rw [updO_ne (ne (r1 z))]; exact r1 z, r2⟩
  · by_cases ha : a = r
    · subst ha
      rw [updO_same] at q
      cases q
      exact ⟨hF, hd, fun k z => (nomatch z), fun _ => h0⟩
    · rw [updO_ne ha] at q
      exact E.own a ow d' q
end
end Mi

set_option Elab.async false
set_option linter.all false
set_option maxRecDepth 100000
set_option maxHeartbeats 1000000
/-! Mi6: operators and built-in functions, by the hand layer's rules. -/
namespace Mi
open PySem L2
theorem lim_eq : lim = sizeLine := by rw [sizeLine_eq]; rfl
section
variable {b : Bs} {F : Hp} {O : Gh} {σ : L2.St} {H : Hp} {e : Env} {fl : List (V × W)} {v x y : V} {d p q : D} {w : W}
theorem Has.non (h : Has b F H .non v) : v = .non := by
  rcases h with h | ⟨a, _, h⟩
  · exact h
  · exact h.elim
theorem Has.bl {c : Bool} (h : Has b F H (.bl c) v) : v = .bl c := by
  rcases h with h | ⟨a, _, h⟩
  · exact h
  · exact h.elim
theorem Has.int {i : Int} (h : Has b F H (.int i) v) : v = .int i := by
  rcases h with h | ⟨a, _, h⟩
  · exact h
  · exact h.elim
theorem Has.str {z : Str} (h : Has b F H (.str z) v) : v = .str z ∧ z.length ≤ sizeLine := by
  rw [← lim_eq]
  rcases h with h | ⟨a, _, h⟩
  · exact h
  · exact h.elim
theorem Has.lst {ds : List D} (s : Sub F H) (h : Has b F H (.lst ds) v) : ∃ a vs, v = .ref a ∧ SqL b.K H a vs ∧ RepL b.K F ds vs := by
  rcases h with ⟨a, vs, e, h, r⟩ | ⟨a, e, vs, h, r⟩
  · exact ⟨a, vs, e, sqL_mono s h, r⟩
  · exact ⟨a, vs, e, SqL.of h, r⟩
theorem Has.tup {ds : List D} (s : Sub F H) (h : Has b F H (.tup ds) v) : ∃ a vs, v = .ref a ∧ SqT b.K H a vs ∧ RepL b.K F ds vs := by
  rcases h with ⟨a, vs, e, h, r⟩ | ⟨a, e, h⟩
  · exact ⟨a, vs, e, sqT_mono s h, r⟩
  · exact h.elim
theorem Has.kset {ks : List Key} (h : Has b F H (.kset ks) v) : ∃ a, v = .ref a ∧ H a = some (SetK b.P b.w a (fun k => keyIn k ks) ks.length) := by
  rcases h with h | ⟨a, e, h⟩
  · exact h.elim
  · exact ⟨a, e, h⟩
mutual
theorem Rep.dp {K : PySem.W.Frag} {F H : Hp} (s : Sub F H) : ∀ {d : D} {v : V} {p : PyData}, Rep K F d v → toPy d = some p → Dp K H v p
  | .non, v, p, h, e => by cases e; cases (show v = .non from h); exact .non
  | .bl c, v, p, h, e => by cases e; cases (show v = .bl c from h); exact .bl c
  | .int i, v, p, h, e => by cases e; cases (show v = .int i from h); exact .int i
  | .str x, v, p, h, e => by cases e; obtain ⟨h, _⟩ := h; cases h; exact .str x
  | .lst ds, v, p, ⟨a, vs, ev, h, r⟩, e => by
    unfold toPy at e
    cases q : toPys ds with
    | none => rw [q] at e; cases e
    | some ps =>
      rw [q] at e
      cases e
      subst ev
      exact .lst (sqL_mono s h) (RepL.dp s r q)
  | .tup ds, v, p, ⟨a, vs, ev, h, r⟩, e => by
    unfold toPy at e
    cases q : toPys ds with
    | none => rw [q] at e; cases e
    | some ps =>
      rw [q] at e
      cases e
      subst ev
      exact .tup (sqT_mono s h) (RepL.dp s r q)
  | .ins _ _ _, _, _, _, e => by cases e
  | .dct _ _, _, _, _, e => by cases e
  | .exn _ _ _, _, _, _, e => by cases e
  | .kset _, _, _, _, e => by cases e
theorem RepL.dp {K : PySem.W.Frag} {F H : Hp} (s : Sub F H) : ∀ {ds : List D} {vs : List V} {ps : List PyData}, RepL K F ds vs → toPys ds = some ps → DpAll K H vs ps
  | [], vs, ps, h, e => by cases e; cases (show vs = [] from h); exact .nil
  | d :: ds, vs, ps, ⟨v, r, ev, h, t⟩, e => by
    unfold toPys at e
    cases q1 : toPy d with
    | none => rw [q1] at e; cases e
    | some p =>
      cases q2 : toPys ds with
      | none => rw [q1, q2] at e; cases e
      | some ps' =>
        rw [q1, q2] at e
        cases e
        subst ev
        exact .cons (Rep.dp s h q1) (RepL.dp s t q2)
end
theorem Has.dp {p : PyData} (s : Sub F H) (h : Has b F H d v) (e : toPy d = some p) : Dp b.K H v p := by
  rcases h with h | ⟨a, ev, h⟩
  · exact h.dp s e
  · cases d with
    | lst ds =>
      obtain ⟨vs, h, r⟩ := h
      unfold toPy at e
      cases q : toPys ds with
      | none => rw [q] at e; cases e
      | some ps =>
        rw [q] at e
        cases e
        subst ev
        exact .lst (SqL.of h) (r.dp s q)
    | ins _ _ _ => cases e
    | dct _ _ => cases e
    | kset _ => cases e
    | _ => exact h.elim
theorem Has.key {k : Key} (h : Has b F H d v) (e : keyD d = some k) : v = kV k := by
  cases d with
  | int i => cases e; exact h.int
  | str x => cases e; exact h.str.1
  | _ => cases e
theorem Rep.flat {K : PySem.W.Frag} {d : D} {v : V} (h : Rep K F d v) (f : flatD d = true) : flatV v = true := by
  cases d with
  | non => cases (show v = .non from h); rfl
  | bl c => cases (show v = .bl c from h); rfl
  | int i => cases (show v = .int i from h); rfl
  | str x => obtain ⟨h, _⟩ := h; cases h; rfl
  | _ => cases f
theorem Rep.eqf {K : PySem.W.Frag} {d d' : D} {v v' : V} (h : Rep K F d v) (h' : Rep K F d' v') (f : flatD d = true) (f' : flatD d' = true) : eqV v v' = eqF d d' := by
  cases d with
  | non => cases (show v = .non from h); cases d' with
    | non => cases (show v' = .non from h'); rfl
    | bl c => cases (show v' = .bl c from h'); rfl
    | int i => cases (show v' = .int i from h'); rfl
    | str x => obtain ⟨h', _⟩ := h'; cases h'; rfl
    | _ => cases f'
  | bl c => cases (show v = .bl c from h); cases d' with
    | non => cases (show v' = .non from h'); rfl
    | bl c => cases (show v' = .bl c from h'); rfl
    | int i => cases (show v' = .int i from h'); rfl
    | str x => obtain ⟨h', _⟩ := h'; cases h'; rfl
    | _ => cases f'
  | int i => cases (show v = .int i from h); cases d' with
    | non => cases (show v' = .non from h'); rfl
    | bl c => cases (show v' = .bl c from h'); rfl
    | int i => cases (show v' = .int i from h'); rfl
    | str x => obtain ⟨h', _⟩ := h'; cases h'; rfl
    | _ => cases f'
  | str x => obtain ⟨h, _⟩ := h; cases h; cases d' with
    | non => cases (show v' = .non from h'); rfl
    | bl c => cases (show v' = .bl c from h'); rfl
    | int i => cases (show v' = .int i from h'); rfl
    | str x => obtain ⟨h', _⟩ := h'; cases h'; rfl
    | _ => cases f'
  | _ => cases f
theorem RepL.inf {K : PySem.W.Frag} {d : D} {v : V} (h : Rep K F d v) (f : flatD d = true) : ∀ {ds : List D} {vs : List V}, RepL K F ds vs → ds.all flatD = true → vs.all flatV = true ∧ inV v vs = inF d ds
  | [], vs, e, _ => by cases (show vs = [] from e); exact ⟨rfl, rfl⟩
  | x :: ds, vs, ⟨u, r, e, q, t⟩, hf => by
    subst e
    have hf : (flatD x && ds.all flatD) = true := by simpa using hf
    obtain ⟨f1, f2⟩ := Bool.and_eq_true_iff.mp hf
    obtain ⟨i1, i2⟩ := RepL.inf h f t f2
    refine ⟨by simp [q.flat f1]; simpa using i1, ?_⟩
    unfold inV inF at i2 ⊢
    rw [List.any_cons, List.any_cons, q.eqf h f1 f, i2]
theorem Has.rep (h : Has b F H d v) (f : flatD d = true) : Rep b.K F d v := by
  rcases h with h | ⟨a, _, h⟩
  · exact h
  · cases d <;> first | exact h.elim | cases f
theorem ixN_lt {n : Nat} {i : Int} {j : Nat} (h : ixN n i = some j) : j < n := (ixN_seq h).2.1
theorem RepL.atI {K : PySem.W.Frag} {ds : List D} {vs : List V} {i : Int} {d : D} (r : RepL K F ds vs) (h : L2.atI ds i = some d) : ∃ v, L2.atI vs i = some v ∧ Rep K F d v := by
  unfold L2.atI at h ⊢
  rw [← r.length]
  cases q : ixN ds.length i with
  | none => rw [q] at h; cases h
  | some j =>
    rw [q] at h
    exact r.get (i := j) h
theorem RepL.cut {K : PySem.W.Frag} {ds : List D} {vs : List V} (lo hi : Option Int) (r : RepL K F ds vs) : RepL K F (cutD ds lo hi) (cutV vs lo hi) := by
  unfold cutD cutV
  rw [r.length]
  exact (r.drop _).take _
end

section
variable {X : Cx}
/-- what is wanted of a value that comes -/
abbrev Giv (b : Bs) (σ : L2.St) (e : Env) (fl : List (V × W)) (Q : VK) (w : W) : Prop := ∀ v H', ERx b σ H' e (fl ++ [(v, w)]) → Q v H'
theorem Giv.d {b : Bs} {F : Hp} {O : Gh} {σ : L2.St} {H : Hp} {e : Env} {fl : List (V × W)} {Q : VK} {d : D} {v : V} (g : Giv b σ e fl Q (.d d)) (E : ER b F O σ H e fl) (r : Rep b.K F d v) : Q v H := g v H ⟨F, O, E.pushD r⟩
theorem Giv.new {b : Bs} {F : Hp} {O : Gh} {σ : L2.St} {H : Hp} {e : Env} {fl : List (V × W)} {Q : VK} {ds : List D} {vs : List V} (g : Giv b σ e fl Q (.o (.lst ds))) (E : ER b F O σ H e fl) (r : RepL b.K F ds vs) :
    ∀ p, H p = none → Q (.ref p) (upd H p (.lst vs)) := fun p hp => g _ _ ⟨_, _, E.pushO hp ⟨vs, upd_same, r⟩⟩
theorem Giv.tup {b : Bs} {F : Hp} {O : Gh} {σ : L2.St} {H : Hp} {e : Env} {fl : List (V × W)} {Q : VK} {ds : List D} {vs : List V} (g : Giv b σ e fl Q (.d (.tup ds))) (E : ER b F O σ H e fl) (r : RepL b.K F ds vs) :
    ∀ p, H p = none → Q (.ref p) (upd H p (.tup vs)) := fun p hp => g _ _ ⟨_, _, E.pushT hp r⟩
def Bok (X : Cx) (b : Bs) : Prop := b.K = X.K ∧ b.P = X.prog ∧ b.w = X.w
/-- a rule of two values does what o says of values -/
def Op2 (X : Cx) (f : D → D → Option W) (r : R2) : Prop := ∀ (b : Bs) (F : Hp) (O : Gh) (σ : L2.St) (H : Hp) (e : Env) (fl : List (V × W)) (x y : V) (p q : D) (w : W) (Q : VK), Bok X b → ER b F O σ H e fl → Has b F H p x → Has b F H q y → f p q = some w → Giv b σ e fl Q w → r x y H Q
theorem op2_none {f : Value → Value → Sem Value} : OpR X f (fun _ _ _ _ => False) := fun _ _ _ _ _ _ _ _ _ _ _ _ h => h.elim
theorem line64 : (2 : Nat) ^ 63 < 2 ^ 64 := by decide
theorem mulOk_of {i j : Int} (h : mulOk i j = true) : CMul i j ∨ CMulW i j := by
  unfold mulOk at h
  simp only [Bool.or_eq_true, decide_eq_true_eq] at h
  rcases h with (h | h) | h
  · exact .inl (.inl (by omega))
  · exact .inl (.inr (by omega))
  · exact .inr h
/-- list + list, as they are read -/
def rCatL (K : PySem.W.Frag) : R2 := fun x y H Q => ∃ l b xs zs, x = .ref l ∧ y = .ref b ∧ SqL K H l xs ∧ SqL K H b zs ∧ xs.length + zs.length ≤ sizeLine ∧ ∀ p, H p = none → Q (.ref p) (upd H p (.lst (xs ++ zs)))
theorem op_catL : OpR X (binaryOp .Add) (rCatL X.K) := by
  intro pins s σ H x y v u Q I rx ry h
  obtain ⟨l, b, xs, zs, rfl, rfl, h1, h2, hz, q⟩ := h
  cases rx
  cases ry
  obtain ⟨its, r, ⟨o, n, e, hc, hd, dd⟩, z⟩ := I.list h1
  obtain ⟨its2, r2, ⟨o2, n2, e2, hc2, hd2, dd2⟩, z2⟩ := I.list h2
  obtain ⟨cl, di, da, sl⟩ := o
  obtain ⟨cl2, di2, da2, sl2⟩ := o2
  dsimp only at hc hd dd hc2 hd2 dd2
  subst hc hd dd hc2 hd2 dd2
  refine concat_meets ⟨_, e, rfl⟩ ⟨_, e2, rfl⟩ noFill_list_add seq_list_add PySem.F.slot_list_add PySem.F.entry_list_add (PySem.F.args_list_add_2 _ _) (PyProof.Rows.list_addW l b its.toArray its2.toArray n n2 none none sl sl2 (by rw [List.size_toArray, List.size_toArray, ← r.length, ← r2.length]; exact hz)) ⟨e, e2, ?_⟩
  have ea : its.toArray ++ its2.toArray = (its ++ its2).toArray := by simp
  rw [ea]
  exact ⟨.ref _, _, I.lnew (t' := s.toks) (r.append r2) (by rw [List.length_append]; omega), rfl, q _ I.fresh⟩
theorem fold_size {xs : Array Nat} : ∀ {n : Nat} {acc : Array Nat}, ((List.replicate n xs).foldl (· ++ ·) acc).size = acc.size + xs.size * n
  | 0, acc => by simp
  | n + 1, acc => by
    rw [List.replicate_succ, List.foldl_cons, fold_size, Array.size_append, Nat.mul_succ]
    omega
theorem strMul_length {z : Str} {n : Int} (h1 : z.length ≤ lim) (h2 : z.length * n.toNat ≤ lim) : (strMul z n).length ≤ lim := by
  unfold strMul
  split
  · show 0 ≤ lim; decide
  · split
    · exact h1
    · show ((List.replicate n.toNat z.cps).foldl (· ++ ·) #[]).size ≤ lim
      rw [fold_size]
      have : (#[] : Array Nat).size = 0 := rfl
      rw [this, Nat.zero_add]
      exact h2
/-- text * int -/
def rMulS : R2 := fun x y H Q => ∃ z n, x = .str z ∧ y = .int n ∧ n.natAbs < 2 ^ 31 ∧ z.length ≤ sizeLine ∧ z.length * n.toNat ≤ sizeLine ∧ Q (.str (strMul z n)) H
theorem op_mulS : OpR X (binaryOp .Mult) rMulS := by
  intro pins s σ H x y v u Q I rx ry h
  obtain ⟨z, n, rfl, rfl, hn, hz, hm, q⟩ := h
  obtain ⟨t, rfl⟩ := rx
  obtain ⟨t', rfl⟩ := ry
  have hs : (sizeLine : Nat) = 16777216 := sizeLine_eq
  refine PySem.P.mul_str (by rw [decide_eq_false (by omega), decide_eq_false (by omega)]; rfl) (fun h1 _ => ?_) (fun _ _ => ?_) ?_
  · have h2 : (z.length : Int) ≤ (2 ^ 63 - 1) / n := by
      refine (Int.le_ediv_iff_mul_le (by omega)).mpr ?_
      have e : ((z.length * n.toNat : Nat) : Int) = (z.length : Int) * n := by
        rw [Int.natCast_mul, Int.toNat_of_nonneg (by omega)]
      rw [← e]
      omega
    omega
  · show decide (z.length * n.toNat > sizeLine) = false
    exact decide_eq_false (by omega)
  · unfold strMul at q
    by_cases h1 : n < 1
    · rw [if_pos h1] at q ⊢
      exact ⟨by decide, ⟨.str Str.empty, H, I.tok _, ⟨_, rfl⟩, q⟩⟩
    · rw [if_neg h1] at q ⊢
      by_cases h2 : (n == 1 || z.length == 0) = true
      · rw [if_pos h2] at q ⊢
        exact ⟨.str z, H, I.tok _, ⟨_, rfl⟩, q⟩
      · rw [if_neg h2] at q ⊢
        refine ⟨?_, ⟨.str ⟨(List.replicate n.toNat z.cps).foldl (· ++ ·) #[]⟩, H, I.tok _, ⟨_, rfl⟩, q⟩⟩
        show ((List.replicate n.toNat z.cps).foldl (· ++ ·) #[]).size ≤ sizeLine
        rw [fold_size]
        have : (#[] : Array Nat).size = 0 := rfl
        rw [this, Nat.zero_add]
        exact hm
theorem bin_ok (o : Operator) : ∃ r, OpR X (binaryOp o) r ∧ Op2 X (opBin o) r := by
  cases o with
  | Add =>
    refine ⟨_, op_add.or (op_add_str.or (op_catL.or op_catA)), fun b F O σ H e fl x y p q w Q hb E hp hq h g => ?_⟩
    cases p with
    | int i =>
      cases q with
      | int j => cases h; exact .inl ⟨i, j, hp.int, hq.int, g.d E rfl⟩
      | _ => cases h
    | str i =>
      cases q with
      | str j =>
        have h : (if i.length + j.length ≤ lim then some (W.d (.str (i ++ j))) else none) = some w := h
        by_cases hz : i.length + j.length ≤ lim
        · rw [if_pos hz] at h
          cases h
          refine .inr (.inl ⟨i, j, hp.str.1, hq.str.1, by rw [← lim_eq]; exact hz, g.d E ⟨rfl, ?_⟩⟩)
          have : (i ++ j).length = i.length + j.length := by
            show (i ++ j).cps.size = i.cps.size + j.cps.size
            exact Array.size_append
          omega
        · rw [if_neg hz] at h; cases h
      | _ => cases h
    | lst xs =>
      cases q with
      | lst ys =>
        have h : (if xs.length + ys.length ≤ lim then some (W.o (.lst (xs ++ ys))) else none) = some w := h
        by_cases hz : xs.length + ys.length ≤ lim
        · rw [if_pos hz] at h
          cases h
          obtain ⟨a, vs, rfl, h1, r1⟩ := hp.lst E.sub
          obtain ⟨c, us, rfl, h2, r2⟩ := hq.lst E.sub
          exact .inr (.inr (.inl ⟨a, c, vs, us, rfl, rfl, by rw [← hb.1]; exact h1, by rw [← hb.1]; exact h2, by rw [← r1.length, ← r2.length, ← lim_eq]; exact hz, g.new E (r1.append r2)⟩))
        · rw [if_neg hz] at h; cases h
      | _ => cases h
    | tup xs =>
      cases q with
      | tup ys =>
        have h : (if xs.length + ys.length ≤ lim then some (W.d (.tup (xs ++ ys))) else none) = some w := h
        by_cases hz : xs.length + ys.length ≤ lim
        · rw [if_pos hz] at h
          cases h
          have s1 := hp.tup E.sub
          have s2 := hq.tup E.sub
          obtain ⟨a, vs, rfl, h1, r1⟩ := s1
          obtain ⟨c, us, rfl, h2, r2⟩ := s2
          rw [hb.1] at h1 h2
          have f1 : Rep b.K F (.tup xs) (.ref a) := by
            rcases hp with h | ⟨_, _, h⟩
            · exact h
            · exact h.elim
          have f2 : Rep b.K F (.tup ys) (.ref c) := by
            rcases hq with h | ⟨_, _, h⟩
            · exact h
            · exact h.elim
          refine .inr (.inr (.inr ⟨a, c, vs, us, rfl, rfl, h1, h2, by rw [← r1.length, ← r2.length, ← lim_eq]; exact hz, fun z => ?_, fun _ z => ?_, fun _ _ => g.tup E (r1.append r2)⟩))
          · have : xs = [] := by
              have := r1.length
              rw [z] at this
              exact List.length_eq_zero_iff.mp this
            subst this
            exact g.d E f2
          · have : ys = [] := by
              have := r2.length
              rw [z] at this
              exact List.length_eq_zero_iff.mp this
            subst this
            rw [List.append_nil] at g
            exact g.d E f1
        · rw [if_neg hz] at h; cases h
      | _ => cases h
    | _ => cases h
  | Sub =>
    refine ⟨_, op_sub, fun b F O σ H e fl x y p q w Q hb E hp hq h g => ?_⟩
    cases p with
    | int i =>
      cases q with
      | int j => cases h; exact ⟨i, j, hp.int, hq.int, g.d E rfl⟩
      | _ => cases h
    | _ => cases h
  | Mult =>
    refine ⟨_, op_mul.or (op_mulW.or op_mulS), fun b F O σ H e fl x y p q w Q hb E hp hq h g => ?_⟩
    cases p with
    | int i =>
      cases q with
      | int j =>
        have h : (if mulOk i j then some (W.d (.int (i * j))) else none) = some w := h
        by_cases hz : mulOk i j = true
        · rw [if_pos hz] at h
          cases h
          rcases mulOk_of hz with c | c
          · exact .inl ⟨i, j, hp.int, hq.int, c, g.d E rfl⟩
          · exact .inr (.inl ⟨i, j, hp.int, hq.int, c, g.d E rfl⟩)
        · rw [if_neg hz] at h; cases h
      | _ => cases h
    | str z =>
      cases q with
      | int n =>
        have h : (if (decide (n.natAbs < 2 ^ 31) && (decide (z.length ≤ lim) && decide (z.length * n.toNat ≤ lim))) = true then some (W.d (.str (strMul z n))) else none) = some w := h
        by_cases hz : (decide (n.natAbs < 2 ^ 31) && (decide (z.length ≤ lim) && decide (z.length * n.toNat ≤ lim))) = true
        · rw [if_pos hz] at h
          cases h
          simp only [Bool.and_eq_true, decide_eq_true_eq] at hz
          obtain ⟨z1, z2, z3⟩ := hz
          exact .inr (.inr ⟨z, n, hp.str.1, hq.int, z1, by rw [← lim_eq]; exact z2, by rw [← lim_eq]; exact z3, g.d E ⟨rfl, strMul_length z2 z3⟩⟩)
        · rw [if_neg hz] at h; cases h
      | _ => cases h
    | _ => cases h
  | FloorDiv =>
    refine ⟨_, op_fdivW, fun b F O σ H e fl x y p q w Q hb E hp hq h g => ?_⟩
    cases p with
    | int i =>
      cases q with
      | int j =>
        have h : (if (decide (0 < j) && decide (j.natAbs.log2 < 9000)) = true then some (W.d (.int (i / j))) else none) = some w := h
        by_cases hz : (decide (0 < j) && decide (j.natAbs.log2 < 9000)) = true
        · rw [if_pos hz] at h
          cases h
          simp only [Bool.and_eq_true, decide_eq_true_eq] at hz
          exact ⟨i, j, hp.int, hq.int, hz, g.d E rfl⟩
        · rw [if_neg hz] at h; cases h
      | _ => cases h
    | _ => cases h
  | Mod =>
    refine ⟨_, op_mod, fun b F O σ H e fl x y p q w Q hb E hp hq h g => ?_⟩
    cases p with
    | int i =>
      cases q with
      | int j =>
        have h : (if 0 < j then some (W.d (.int (i % j))) else none) = some w := h
        by_cases hz : 0 < j
        · rw [if_pos hz] at h
          cases h
          exact ⟨i, j, hp.int, hq.int, hz, g.d E rfl⟩
        · rw [if_neg hz] at h; cases h
      | _ => cases h
    | _ => cases h
  | Pow =>
    refine ⟨_, op_pow, fun b F O σ H e fl x y p q w Q hb E hp hq h g => ?_⟩
    cases p with
    | int i =>
      cases q with
      | int j =>
        have h : (if (decide (0 ≤ j) && (decide (j ≤ 1000000) && decide (i.natAbs < 2 ^ 64))) = true then some (W.d (.int (i ^ j.toNat))) else none) = some w := h
        by_cases hz : (decide (0 ≤ j) && (decide (j ≤ 1000000) && decide (i.natAbs < 2 ^ 64))) = true
        · rw [if_pos hz] at h
          cases h
          simp only [Bool.and_eq_true, decide_eq_true_eq] at hz
          exact ⟨i, j, hp.int, hq.int, hz, g.d E rfl⟩
        · rw [if_neg hz] at h; cases h
      | _ => cases h
    | _ => cases h
  | _ => exact ⟨_, op2_none, fun b F O σ H e fl x y p q w Q hb E hp hq h g => by cases p <;> cases q <;> cases h⟩
/-! ### comparisons -/
def rEqLen (K : PySem.W.Frag) : R2 := fun x y H Q => ∃ a c xs ys, x = .ref a ∧ y = .ref c ∧ SqL K H a xs ∧ SqL K H c ys ∧ xs.length ≠ ys.length ∧ Q (.bl false) H
theorem op_eqLen (hu : X.A.units < cLine) : OpR X (compareOp .Eq) (rEqLen X.K) := by
  intro pins s σ H x y v u Q I rx ry h
  obtain ⟨a, c, xs, ys, rfl, rfl, h1, h2, n, q⟩ := h
  cases rx
  cases ry
  obtain ⟨its, r1, p1, _⟩ := I.list h1
  obtain ⟨its2, r2, p2, _⟩ := I.list h2
  refine SeqAt.RcAt.lists_lengths p1.isList p2.isList ?_ hu X.prog X.w X.xe _ ⟨.bl false, H, I, rfl, q⟩
  have e1 := r1.length
  have e2 := r2.length
  simp
  omega
def rNeLen (K : PySem.W.Frag) : R2 := fun x y H Q => ∃ a c xs ys, x = .ref a ∧ y = .ref c ∧ SqL K H a xs ∧ SqL K H c ys ∧ xs.length ≠ ys.length ∧ Q (.bl true) H
theorem op_neLen (hu : X.A.units < cLine) : OpR X (compareOp .NotEq) (rNeLen X.K) := by
  intro pins s σ H x y v u Q I rx ry h
  obtain ⟨a, c, xs, ys, rfl, rfl, h1, h2, n, q⟩ := h
  cases rx
  cases ry
  obtain ⟨its, r1, p1, _⟩ := I.list h1
  obtain ⟨its2, r2, p2, _⟩ := I.list h2
  refine SeqAt.RcNeAt.lists_lengths p1.isList p2.isList ?_ hu X.prog X.w X.xe _ ⟨.bl true, H, I, rfl, q⟩
  have e1 := r1.length
  have e2 := r2.length
  simp
  omega
abbrev oBl (o : Option Bool) : Option W := o.map fun c => .d (.bl c)
theorem oBl_some {o : Option Bool} {w : W} (h : oBl o = some w) : ∃ c, o = some c ∧ w = .d (.bl c) := by
  cases o with
  | none => cases h
  | some c => cases h; exact ⟨c, rfl, rfl⟩
theorem eq_ok {b : Bs} {F : Hp} {O : Gh} {σ : L2.St} {H : Hp} {e : Env} {fl : List (V × W)} {x y : V} {p q : D} {c : Bool} (hb : Bok X b) (E : ER b F O σ H e fl) (hp : Has b F H p x) (hq : Has b F H q y) (h : eqD p q = some c) :
    (∃ d e, Dp X.K H x d ∧ Dp X.K H y e ∧ SeqAt.shaped d = true ∧ SeqAt.shaped e = true ∧ PyData.eqv d e = c) ∨ (c = false ∧ ∃ a c xs ys, x = .ref a ∧ y = .ref c ∧ SqL X.K H a xs ∧ SqL X.K H c ys ∧ xs.length ≠ ys.length) := by
  have two : eqLen p q = some c → c = false ∧ ∃ a c xs ys, x = .ref a ∧ y = .ref c ∧ SqL X.K H a xs ∧ SqL X.K H c ys ∧ xs.length ≠ ys.length := by
    intro h
    cases p with
    | lst xs =>
      cases q with
      | lst ys =>
        have h : (if xs.length = ys.length then none else some false) = some c := h
        by_cases hz : xs.length = ys.length
        · rw [if_pos hz] at h; cases h
        · rw [if_neg hz] at h
          cases h
          obtain ⟨a, vs, rfl, h1, r1⟩ := hp.lst E.sub
          obtain ⟨c, us, rfl, h2, r2⟩ := hq.lst E.sub
          exact ⟨rfl, a, c, vs, us, rfl, rfl, by rw [← hb.1]; exact h1, by rw [← hb.1]; exact h2, by rw [← r1.length, ← r2.length]; exact hz⟩
      | _ => cases h
    | _ => cases h
  unfold eqD at h
  cases e1 : toPy p with
  | none => rw [e1] at h; exact .inr (two h)
  | some d =>
    cases e2 : toPy q with
    | none => rw [e1, e2] at h; exact .inr (two h)
    | some d' =>
      rw [e1, e2] at h
      have h : (if (SeqAt.shaped d && SeqAt.shaped d') = true then some (PyData.eqv d d') else eqLen p q) = some c := h
      by_cases hz : (SeqAt.shaped d && SeqAt.shaped d') = true
      · rw [if_pos hz] at h
        obtain ⟨z1, z2⟩ := Bool.and_eq_true_iff.mp hz
        exact .inl ⟨d, d', by rw [← hb.1]; exact hp.dp E.sub e1, by rw [← hb.1]; exact hq.dp E.sub e2, z1, z2, Option.some.inj h⟩
      · rw [if_neg hz] at h; exact .inr (two h)
theorem in_ok {b : Bs} {F : Hp} {O : Gh} {σ : L2.St} {H : Hp} {e : Env} {fl : List (V × W)} {x y : V} {p q : D} {c : Bool} (hb : Bok X b) (E : ER b F O σ H e fl) (hp : Has b F H p x) (hq : Has b F H q y) (h : opIn p q = some c) :
    (∃ a xs, y = .ref a ∧ (SqL X.K H a xs ∨ SqT X.K H a xs) ∧ flatV x = true ∧ xs.all flatV = true ∧ inV x xs = c) ∨ (∃ n z, x = .str ⟨#[n]⟩ ∧ y = .str z ∧ ∀ inst : Decidable (n ∈ z.cps.toList), @decide _ inst = c) ∨ (∃ k a S n, x = kV k ∧ y = .ref a ∧ H a = some (SetK X.prog X.w a S n) ∧ S k = c) := by
  obtain ⟨b1, b2, b3⟩ := hb
  cases q with
  | lst ys =>
    left
    have h : (if (flatD p && ys.all flatD) = true then some (inF p ys) else none) = some c := by cases p <;> exact h
    by_cases hz : (flatD p && ys.all flatD) = true
    · rw [if_pos hz] at h
      obtain ⟨z1, z2⟩ := Bool.and_eq_true_iff.mp hz
      obtain ⟨a, vs, rfl, h1, r1⟩ := hq.lst E.sub
      have rp := hp.rep z1
      obtain ⟨i1, i2⟩ := RepL.inf rp z1 r1 z2
      exact ⟨a, vs, rfl, .inl (by rw [← b1]; exact h1), rp.flat z1, i1, i2.trans (Option.some.inj h)⟩
    · rw [if_neg hz] at h; cases h
  | tup ys =>
    left
    have h : (if (flatD p && ys.all flatD) = true then some (inF p ys) else none) = some c := by cases p <;> exact h
    by_cases hz : (flatD p && ys.all flatD) = true
    · rw [if_pos hz] at h
      obtain ⟨z1, z2⟩ := Bool.and_eq_true_iff.mp hz
      obtain ⟨a, vs, rfl, h1, r1⟩ := hq.tup E.sub
      have rp := hp.rep z1
      obtain ⟨i1, i2⟩ := RepL.inf rp z1 r1 z2
      exact ⟨a, vs, rfl, .inr (by rw [← b1]; exact h1), rp.flat z1, i1, i2.trans (Option.some.inj h)⟩
    · rw [if_neg hz] at h; cases h
  | str z =>
    cases p with
    | str t =>
      right; left
      have h : (match t.cps.toList with | [n] => some (decide (n ∈ z.cps.toList)) | _ => none) = some c := h
      split at h
      · rename_i n hn
        refine ⟨n, z, ?_, hq.str.1, fun inst => by rw [← Option.some.inj h]; congr⟩
        rw [hp.str.1]
        have : t = ⟨#[n]⟩ := by
          obtain ⟨cs⟩ := t
          have hn : cs.toList = [n] := hn
          congr
          apply Array.toList_inj.mp
          rw [hn]
        rw [this]
      · cases h
    | _ => cases h
  | kset ks =>
    right; right
    have h : ((keyD p).map fun k => keyIn k ks) = some c := by cases p <;> exact h
    cases e1 : keyD p with
    | none => rw [e1] at h; cases h
    | some k =>
      rw [e1] at h
      obtain ⟨a, rfl, h1⟩ := hq.kset
      rw [b2, b3] at h1
      exact ⟨k, a, _, _, hp.key e1, rfl, h1, Option.some.inj h⟩
  | _ => cases p <;> cases h
end
end Mi

set_option Elab.async false
set_option linter.all false
set_option maxRecDepth 100000
set_option maxHeartbeats 1000000
/-! Mi7: comparisons, items, slices, built-in functions and methods, truth. -/
namespace Mi
open PySem L2
section
variable {X : Cx} {b : Bs} {F : Hp} {O : Gh} {σ : L2.St} {H : Hp} {e : Env} {fl : List (V × W)} {v x y : V} {d p q : D} {w : W} {Q : VK}
theorem Has.nonB (h : Has b F H d v) : decide (v = .non) = isNonD d := by
  cases d with
  | non => cases h.non; rfl
  | bl c => cases h.bl; rfl
  | int i => cases h.int; rfl
  | str z => cases h.str.1; rfl
  | lst ds => rcases h with ⟨a, vs, e, _⟩ | ⟨a, e, _⟩ <;> (subst e; rfl)
  | tup ds => rcases h with ⟨a, vs, e, _⟩ | ⟨a, e, _⟩ <;> (subst e; rfl)
  | ins c ns ds => rcases h with ⟨a, dx, gs, e, _⟩ | ⟨a, e, _⟩ <;> (subst e; rfl)
  | dct ks ds => rcases h with ⟨a, gs, e, _⟩ | ⟨a, e, _⟩ <;> (subst e; rfl)
  | kset ks => rcases h with h | ⟨a, e, _⟩
               · exact h.elim
               · subst e; rfl
  | exn c ns ds => rcases h with ⟨a, e, _⟩ | ⟨a, e, h⟩
                   · subst e; rfl
                   · exact h.elim
theorem cmp_ok (hu : X.A.units + 64 < cLine) (o : CmpOp) : ∃ r, OpR X (compareOp o) r ∧ Op2 X (fun p q => oBl (opCmp o p q)) r := by
  cases o with
  | Eq =>
    refine ⟨_, (op_eqD hu).or (op_eqLen (by omega)), fun b F O σ H e fl x y p q w Q hb E hp hq h g => ?_⟩
    obtain ⟨c, h1, rfl⟩ := oBl_some h
    rcases eq_ok hb E hp hq h1 with ⟨d, e, q1, q2, q3, q4, q5⟩ | ⟨rfl, a, c', xs, ys, q1, q2, q3, q4, q5⟩
    · exact .inl ⟨d, e, q1, q2, q3, q4, g.d E (by rw [q5]; rfl)⟩
    · exact .inr ⟨a, c', xs, ys, q1, q2, q3, q4, q5, g.d E rfl⟩
  | NotEq =>
    refine ⟨_, (op_neD hu).or (op_neLen (by omega)), fun b F O σ H e fl x y p q w Q hb E hp hq h g => ?_⟩
    obtain ⟨c, h1, rfl⟩ := oBl_some h
    have h1 : (eqD p q).map (!·) = some c := h1
    cases h2 : eqD p q with
    | none => rw [h2] at h1; cases h1
    | some c' =>
      rw [h2] at h1
      cases h1
      rcases eq_ok hb E hp hq h2 with ⟨d, e, q1, q2, q3, q4, q5⟩ | ⟨rfl, a, c', xs, ys, q1, q2, q3, q4, q5⟩
      · exact .inl ⟨d, e, q1, q2, q3, q4, g.d E (by rw [q5]; rfl)⟩
      · exact .inr ⟨a, c', xs, ys, q1, q2, q3, q4, q5, g.d E rfl⟩
  | Lt =>
    refine ⟨_, op_lt, fun b F O σ H e fl x y p q w Q hb E hp hq h g => ?_⟩
    cases p with
    | int i =>
      cases q with
      | int j => cases h; exact ⟨i, j, hp.int, hq.int, g.d E rfl⟩
      | _ => cases h
    | _ => cases q <;> cases h
  | LtE =>
    refine ⟨_, op_le, fun b F O σ H e fl x y p q w Q hb E hp hq h g => ?_⟩
    cases p with
    | int i =>
      cases q with
      | int j => cases h; exact ⟨i, j, hp.int, hq.int, g.d E rfl⟩
      | _ => cases h
    | _ => cases q <;> cases h
  | Gt =>
    refine ⟨_, op_gt, fun b F O σ H e fl x y p q w Q hb E hp hq h g => ?_⟩
    cases p with
    | int i =>
      cases q with
      | int j => cases h; exact ⟨i, j, hp.int, hq.int, g.d E rfl⟩
      | _ => cases h
    | _ => cases q <;> cases h
  | GtE =>
    refine ⟨_, op_ge, fun b F O σ H e fl x y p q w Q hb E hp hq h g => ?_⟩
    cases p with
    | int i =>
      cases q with
      | int j => cases h; exact ⟨i, j, hp.int, hq.int, g.d E rfl⟩
      | _ => cases h
    | _ => cases q <;> cases h
  | Is =>
    refine ⟨_, op_isN, fun b F O σ H e fl x y p q w Q hb E hp hq h g => ?_⟩
    cases q with
    | non =>
      refine ⟨hq.non, ?_⟩
      rw [hp.nonB]
      have h : oBl (some (isNonD p)) = some w := h
      obtain rfl : W.d (.bl (isNonD p)) = w := Option.some.inj h
      exact g.d E rfl
    | _ => cases p <;> cases h
  | IsNot =>
    refine ⟨_, op_notN, fun b F O σ H e fl x y p q w Q hb E hp hq h g => ?_⟩
    cases q with
    | non =>
      refine ⟨hq.non, ?_⟩
      rw [hp.nonB]
      have h : oBl (some (!isNonD p)) = some w := h
      obtain rfl : W.d (.bl (!isNonD p)) = w := Option.some.inj h
      exact g.d E rfl
    | _ => cases p <;> cases h
  | In =>
    refine ⟨_, op_in_seq.or (op_in_sign.or or_sinK), fun b F O σ H e fl x y p q w Q hb E hp hq h g => ?_⟩
    obtain ⟨c, h1, rfl⟩ := oBl_some h
    rcases in_ok hb E hp hq h1 with ⟨a, xs, q1, q2, q3, q4, q5⟩ | ⟨n, z, q1, q2, q3⟩ | ⟨k, a, S, n, q1, q2, q3, q4⟩
    · exact .inl ⟨a, xs, q1, q2, q3, q4, g.d E (congrArg V.bl q5)⟩
    · exact .inr (.inl ⟨n, z, q1, q2, g.d E (congrArg V.bl (q3 _))⟩)
    · exact .inr (.inr ⟨k, a, S, n, q1, q2, q3, g.d E (congrArg V.bl q4)⟩)
  | NotIn =>
    refine ⟨_, op_notIn_seq.or (op_notIn_sign.or or_snotinK), fun b F O σ H e fl x y p q w Q hb E hp hq h g => ?_⟩
    obtain ⟨c, h1, rfl⟩ := oBl_some h
    have h1 : (opIn p q).map (!·) = some c := h1
    cases h2 : opIn p q with
    | none => rw [h2] at h1; cases h1
    | some c' =>
      rw [h2] at h1
      cases h1
      rcases in_ok hb E hp hq h2 with ⟨a, xs, q1, q2, q3, q4, q5⟩ | ⟨n, z, q1, q2, q3⟩ | ⟨k, a, S, n, q1, q2, q3, q4⟩
      · exact .inl ⟨a, xs, q1, q2, q3, q4, g.d E (congrArg (fun t => V.bl (!t)) q5)⟩
      · exact .inr (.inl ⟨n, z, q1, q2, g.d E (congrArg (fun t => V.bl (!t)) (q3 _))⟩)
      · exact .inr (.inr ⟨k, a, S, n, q1, q2, q3, g.d E (congrArg (fun t => V.bl (!t)) q4)⟩)
theorem ix_ok : ∃ r, IxR X r ∧ Op2 X (fun p q => (opIx p q).map .d) r := by
  refine ⟨_, ix_seq, fun b F O σ H e fl x y p q w Q hb E hp hq h g => ?_⟩
  cases q with
  | int i =>
    cases p with
    | lst ds =>
      have h : (L2.atI ds i).map W.d = some w := h
      cases h1 : L2.atI ds i with
      | none => rw [h1] at h; cases h
      | some d =>
        rw [h1] at h
        cases h
        obtain ⟨a, vs, rfl, e1, r1⟩ := hp.lst E.sub
        obtain ⟨v, e2, r2⟩ := r1.atI h1
        exact .inl ⟨a, vs, i, v, rfl, hq.int, (by rw [← hb.1]; exact e1), e2, g.d E r2⟩
    | tup ds =>
      have h : (L2.atI ds i).map W.d = some w := h
      cases h1 : L2.atI ds i with
      | none => rw [h1] at h; cases h
      | some d =>
        rw [h1] at h
        cases h
        obtain ⟨a, vs, rfl, e1, r1⟩ := hp.tup E.sub
        obtain ⟨v, e2, r2⟩ := r1.atI h1
        exact .inr (.inl ⟨a, vs, i, v, rfl, hq.int, by rw [← hb.1]; exact e1, e2, g.d E r2⟩)
    | str z =>
      have h : ((L2.atI z.cps.toList i).map fun c => D.str ⟨#[c]⟩).map W.d = some w := h
      cases h1 : L2.atI z.cps.toList i with
      | none => rw [h1] at h; cases h
      | some c =>
        rw [h1] at h
        cases h
        obtain ⟨e1, e2⟩ := hp.str
        exact .inr (.inr ⟨z, i, c, e1, hq.int, e2, h1, g.d E ⟨rfl, by show 1 ≤ lim; decide⟩⟩)
    | _ => cases h
  | _ => cases p <;> cases h
theorem sl_ok : ∃ r, SlR X r ∧ ∀ (b : Bs) (F : Hp) (O : Gh) (σ : L2.St) (H : Hp) (e : Env) (fl : List (V × W)) (x : V) (p : D) (lo hi : Option Int) (w : W) (Q : VK), Bok X b → ER b F O σ H e fl → Has b F H p x → opSl p lo hi = some w → Giv b σ e fl Q w → r x lo hi H Q := by
  refine ⟨_, sl_list.or (sl_tupA.or sl_str), fun b F O σ H e fl x p lo hi w Q hb E hp h g => ?_⟩
  cases p with
  | lst ds =>
    cases h
    obtain ⟨a, vs, rfl, e1, r1⟩ := hp.lst E.sub
    exact .inl ⟨a, vs, rfl, (by rw [← hb.1]; exact e1), g.new E (r1.cut lo hi)⟩
  | tup ds =>
    cases h
    have f1 : Rep b.K F (.tup ds) x := by
      rcases hp with h | ⟨_, _, h⟩
      · exact h
      · exact h.elim
    obtain ⟨a, vs, rfl, e1, r1⟩ := hp.tup E.sub
    refine .inr (.inl ⟨a, vs, rfl, by rw [← hb.1]; exact e1, fun z => ?_, fun _ => g.tup E (r1.cut lo hi)⟩)
    have : cutD ds lo hi = ds := by
      unfold cutD
      rw [r1.length, z.1, z.2]
      rw [List.drop_zero, Nat.sub_zero, ← r1.length, List.take_length]
    rw [this] at g
    exact g.d E f1
  | str z =>
    cases h
    obtain ⟨e1, e2⟩ := hp.str
    exact .inr (.inr ⟨z, e1, e2, g.d E ⟨rfl, Nat.le_trans (cutS_length z lo hi) (by rw [lim_eq]; exact e2)⟩⟩)
  | _ => cases h
/-! ### built-in functions -/
def biV : Bi → Value
  | .len => .builtin "len"
  | .abs => .builtin "abs"
  | .int => .type "int"
  | .tuple => .type "tuple"
  | .list => .type "list"
  | .set => .type "set"
def biN : Bi → Str
  | .len => "len"
  | .abs => "abs"
  | .int => "int"
  | .tuple => "tuple"
  | .list => "list"
  | .set => "set"
def HasL (b : Bs) (F H : Hp) : List D → List V → Prop
  | [], vs => vs = []
  | d :: ds, vs => ∃ v r, vs = v :: r ∧ Has b F H d v ∧ HasL b F H ds r
theorem HasL.one {vs : List V} (h : HasL b F H [d] vs) : ∃ v, vs = [v] ∧ Has b F H d v := by
  obtain ⟨v, r, e, h, t⟩ := h
  cases (show r = [] from t)
  exact ⟨v, e, h⟩
theorem bi_ok (c : Bi) : ∃ r, CallR X (biV c) r ∧ ∀ (b : Bs) (F : Hp) (O : Gh) (σ : L2.St) (H : Hp) (e : Env) (fl : List (V × W)) (vs : List V) (ds : List D) (w : W) (Q : VK), Bok X b → ER b F O σ H e fl → HasL b F H ds vs → biOp c ds = some w → Giv b σ e fl Q w → r vs H Q := by
  cases c with
  | len =>
    refine ⟨_, call_len_seq.or call_len_str, fun b F O σ H e fl vs ds w Q hb E hv h g => ?_⟩
    cases ds with
    | nil => cases h
    | cons d ds =>
      cases ds with
      | cons _ _ => cases d <;> cases h
      | nil =>
        obtain ⟨v, rfl, hd⟩ := hv.one
        cases d with
        | lst xs =>
          cases h
          obtain ⟨a, us, rfl, e1, r1⟩ := hd.lst E.sub
          exact .inl ⟨a, us, rfl, .inl (by rw [← hb.1]; exact e1), g.d E (by rw [← r1.length]; rfl)⟩
        | tup xs =>
          cases h
          obtain ⟨a, us, rfl, e1, r1⟩ := hd.tup E.sub
          exact .inl ⟨a, us, rfl, .inr (by rw [← hb.1]; exact e1), g.d E (by rw [← r1.length]; rfl)⟩
        | str z =>
          cases h
          exact .inr ⟨z, by rw [hd.str.1], hd.str.2, g.d E rfl⟩
        | _ => cases h
  | abs =>
    refine ⟨_, call_abs, fun b F O σ H e fl vs ds w Q hb E hv h g => ?_⟩
    cases ds with
    | nil => cases h
    | cons d ds =>
      cases ds with
      | cons _ _ => cases d <;> cases h
      | nil =>
        obtain ⟨v, rfl, hd⟩ := hv.one
        cases d with
        | int i => cases h; exact ⟨i, by rw [hd.int], g.d E rfl⟩
        | _ => cases h
  | int =>
    refine ⟨_, call_int1, fun b F O σ H e fl vs ds w Q hb E hv h g => ?_⟩
    cases ds with
    | nil => cases h
    | cons d ds =>
      cases ds with
      | cons _ _ => cases d <;> cases h
      | nil =>
        obtain ⟨v, rfl, hd⟩ := hv.one
        cases d with
        | int i => cases h; exact .inl ⟨i, by rw [hd.int], g.d E rfl⟩
        | bl c => cases h; exact .inr ⟨c, by rw [hd.bl], g.d E rfl⟩
        | _ => cases h
  | tuple =>
    refine ⟨_, call_tuple_of, fun b F O σ H e fl vs ds w Q hb E hv h g => ?_⟩
    cases ds with
    | nil => cases h
    | cons d ds =>
      cases ds with
      | cons _ _ => cases d <;> cases h
      | nil =>
        obtain ⟨v, rfl, hd⟩ := hv.one
        cases d with
        | lst xs =>
          cases h
          obtain ⟨a, us, rfl, e1, r1⟩ := hd.lst E.sub
          exact ⟨a, us, rfl, .inl ⟨(by rw [← hb.1]; exact e1), g.tup E r1⟩⟩
        | tup xs =>
          cases h
          have f1 : Rep b.K F (.tup xs) v := by
            rcases hd with h | ⟨_, _, h⟩
            · exact h
            · exact h.elim
          obtain ⟨a, us, rfl, e1, r1⟩ := hd.tup E.sub
          exact ⟨a, us, rfl, .inr ⟨by rw [← hb.1]; exact e1, g.d E f1⟩⟩
        | _ => cases h
  | list =>
    refine ⟨_, call_list_of, fun b F O σ H e fl vs ds w Q hb E hv h g => ?_⟩
    cases ds with
    | nil => cases h
    | cons d ds =>
      cases ds with
      | cons _ _ => cases d <;> cases h
      | nil =>
        obtain ⟨v, rfl, hd⟩ := hv.one
        cases d with
        | lst xs =>
          cases h
          obtain ⟨a, us, rfl, e1, r1⟩ := hd.lst E.sub
          exact ⟨a, us, rfl, .inl (by rw [← hb.1]; exact e1), g.new E r1⟩
        | tup xs =>
          cases h
          obtain ⟨a, us, rfl, e1, r1⟩ := hd.tup E.sub
          exact ⟨a, us, rfl, .inr (by rw [← hb.1]; exact e1), g.new E r1⟩
        | _ => cases h
  | set =>
    refine ⟨_, cr_set0K, fun b F O σ H e fl vs ds w Q hb E hv h g => ?_⟩
    cases ds with
    | cons d ds => cases h
    | nil =>
      cases h
      cases (show vs = [] from hv)
      refine ⟨rfl, fun p hp => g _ _ ⟨_, _, E.pushO hp ?_⟩⟩
      show upd H p _ p = _
      rw [upd_same, hb.2.1, hb.2.2]
      rfl
/-! ### truth -/
theorem Has.tru {k : Bool} (hb : Bok X b) (s : Sub F H) (h : Has b F H d v) (t : truth d = some k) : TruV X.K v H k := by
  cases d with
  | non => cases t; cases h.non; rfl
  | bl c => cases t; cases h.bl; rfl
  | int i => cases t; cases h.int; rfl
  | str z => cases t; obtain ⟨e1, e2⟩ := h.str; cases e1; exact ⟨e2, rfl⟩
  | lst ds =>
    cases t
    obtain ⟨a, vs, rfl, e1, r1⟩ := h.lst s
    refine .inl ⟨vs, (by rw [← hb.1]; exact e1), ?_⟩
    have := r1.length
    cases ds <;> cases vs <;> first | rfl | (simp at this)
  | tup ds =>
    cases t
    obtain ⟨a, vs, rfl, e1, r1⟩ := h.tup s
    refine .inr (.inl ⟨vs, by rw [← hb.1]; exact e1, ?_⟩)
    have := r1.length
    cases ds <;> cases vs <;> first | rfl | (simp at this)
  | dct ks ds =>
    cases t
    have : ∃ a kvs, v = .ref a ∧ H a = some (.dK kvs) ∧ kvs.map (·.1) = ks := by
      rcases h with ⟨a, kvs, e, h, n, _⟩ | ⟨a, e, kvs, h, n, _⟩
      · exact ⟨a, kvs, e, s _ _ h, n⟩
      · exact ⟨a, kvs, e, h, n⟩
    obtain ⟨a, kvs, rfl, h1, n⟩ := this
    refine .inr (.inr ⟨kvs, h1, ?_⟩)
    subst n
    cases kvs <;> rfl
  | _ => cases t
/-! ### types -/
theorem Has.ty {n : String} (hb : Bok X b) (s : Sub F H) (h : Has b F H d v) (t : tyName d = some n) : TyX X.K H v (.type n) := by
  cases d with
  | non => cases t; cases h.non; exact .base .non
  | bl c => cases t; cases h.bl; exact .base (.bl c)
  | int i => cases t; cases h.int; exact .base (.int i)
  | str z => cases t; cases h.str.1; exact .base (.str z)
  | lst ds =>
    cases t
    obtain ⟨a, vs, rfl, e1, _⟩ := h.lst s
    rw [hb.1] at e1
    rcases e1 with (e1 | ⟨o, e1⟩) | ⟨o, its, n, e1, e2, _⟩
    · exact .base (.lst e1)
    · exact .base (.frz e1)
    · exact .kList e1 e2
  | tup ds =>
    cases t
    obtain ⟨a, vs, rfl, e1, _⟩ := h.tup s
    rw [hb.1] at e1
    rcases e1 with (e1 | ⟨o, e1⟩) | ⟨o, its, n, e1, e2, _⟩
    · exact .base (.tup e1)
    · exact .fTuple e1
    · exact .kTuple e1 e2
  | _ => cases t
end
end Mi

set_option Elab.async false
set_option linter.all false
set_option maxRecDepth 100000
set_option maxHeartbeats 1000000
/-! Mi8: what a piece of the program's text and its form in the small language have to do with each other. -/
namespace Mi
open PySem L2
/-! ### the look: does this text have that form -/
inductive GK where
  | fn (j lo hi : Nat) (ps : List Str) | cst (d : D) | exc
/-- what is known of a def's names: all names by slot, the scope; of the module's -/
structure Inf where
  N : List Str
  sc : Scope
  nm : List (Str × GK)
  fr : List Str
def visB (sc : Scope) (x : Str) : Bool := match sc.names.lookup x with
  | some .local => true
  | some .cell => true
  | some .free => true
  | _ => false
def locB (sc : Scope) (x : Str) : Bool := match sc.names.lookup x with
  | some .local => true
  | some .cell => true
  | _ => false
def plainN (x : Str) : Bool := (x != "__debug__" && x != "__classdict__") && x != "__name__"
def gloB (I : Inf) (x : Str) : Bool := plainN x && decide (I.sc.names.lookup x = some .globalImplicit)
def frB (I : Inf) (x : Str) : Bool := gloB I x && I.fr.contains x
def varB (I : Inf) (i : Nat) (x : Str) : Bool := plainN x && (visB I.sc x && decide (I.N[i]? = some x))
def setB (I : Inf) (i : Nat) (x : Str) : Bool := locB I.sc x && decide (I.N[i]? = some x)
def lookN (nm : List (Str × GK)) (x : Str) : Option GK := match nm with
  | [] => none
  | (y, k) :: r => if y = x then some k else lookN r x
def tyN : List (String × Str) := [("int", "int"), ("bool", "bool"), ("str", "str"), ("list", "list"), ("tuple", "tuple")]
def chkTgs (I : Inf) : List Nat → List Expr → Bool
  | [], [] => true
  | i :: is, .Name x _ :: es => setB I i x && chkTgs I is es
  | _, _ => false
def chkTg (I : Inf) : Tg → Expr → Bool
  | .one i, .Name x _ => setB I i x
  | .many is, .Tuple es _ _ => chkTgs I is es
  | _, _ => false
def ownOf (N : List Str) (is : List Nat) : List (Str × Nat) := is.map fun i => (N.getD i Str.empty, i)
def isTup : Expr → Bool
  | .Tuple _ _ _ => true
  | _ => false
def meName : Me → Str
  | .append => "append"
  | .extend => "extend"
  | .add => "add"
def baseOk : Expr → Bool
  | .Call .. => false
  | _ => true
def tyOk (I : Inf) : List String → Expr → Bool
  | [c], .Name y _ => frB I y && tyN.contains (c, y)
  | [c, c'], .Tuple [.Name y _, .Name z _] _ _ => (frB I y && tyN.contains (c, y)) && (frB I z && tyN.contains (c', z))
  | _, _ => false
structure CB where
  E : Inf → Expr → Bool
  A : Inf → List Expr → Bool
  O : Inf → Option Expr → Bool
  I : Inf → Bool → Expr → Bool
  K : Inf → List Keyword → Bool
def permB (ps : List Str) (m : Nat) (ks : List Str) (perm : List Nat) : Bool :=
  !ks.isEmpty && (decide (m ≤ ps.length) && (decide ks.Nodup && (((ks.all fun k => (ps.drop m).contains k) && ((ps.drop m).all fun p => ks.contains p)) && (decide (ks.length = ps.length - m) && decide (perm = (List.range m) ++ (ps.drop m).map fun p => m + ks.idxOf p)))))
def kwNames : List Keyword → List Str
  | [] => []
  | ⟨some x, _, _⟩ :: r => x :: kwNames r
  | ⟨none, _, _⟩ :: r => kwNames r
def notSet : Expr → Bool
  | .Set .. => false
  | _ => true
def cbE (E : Inf → Expr → Bool) : CB := ⟨E, fun _ _ => false, fun I o => match o with
  | some e => E I e
  | none => false, fun I _ e => notSet e && E I e, fun _ _ => false⟩
def cbN : CB := ⟨fun _ _ => false, fun _ _ => false, fun _ _ => false, fun _ _ _ => false, fun _ _ => false⟩
def isYes : Ex → Bool
  | .k (.bl true) => true
  | _ => false
def chkIfs (f : Expr → Bool) (y : Bool) : List Expr → Bool
  | [] => y
  | [e] => f e
  | _ => false
def ck : Ex → CB
  | .k d => cbE (fun I x => match d, x with
    | .non, .Constant .none _ _ => true
    | .bl c, .Constant (.bool c') _ _ => c == c'
    | .int i, .Constant (.int j) _ _ => decide (i = j)
    | .str x, .Constant (.str y) _ _ => decide (x = y) && decide (x.length ≤ lim)
    | _, _ => false)
  | .v i => cbE (fun I ex => match ex with
    | .Name x _ => varB I i x
    | _ => false)
  | .g x d => cbE (fun I ex => match ex with
    | .Name y _ => decide (x = y) && (gloB I x && (match lookN I.nm x with | some (.cst d') => beqD d d' | _ => false))
    | _ => false)
  | .op o a b => cbE (fun I ex => match ex with
    | .BinOp ea o' eb _ => decide (o = o') && ((ck a).E I ea && (ck b).E I eb)
    | _ => false)
  | .neg a => cbE (fun I ex => match ex with
    | .UnaryOp .USub ea _ => (ck a).E I ea
    | _ => false)
  | .cmp o a b => cbE (fun I ex => match ex with
    | .Compare ea [o'] [eb] _ => decide (o = o') && (!behindInMarks o eb && ((ck a).E I ea && (ck b).E I eb))
    | _ => false)
  | .chain o1 o2 a b c => cbE (fun I ex => match ex with
    | .Compare ea [o1', o2'] [eb, ec] _ => (decide (o1 = o1') && decide (o2 = o2')) && (!behindInMarks o2 ec && ((ck a).E I ea && ((ck b).E I eb && (ck c).E I ec)))
    | _ => false)
  | .and a b => cbE (fun I ex => match ex with
    | .BoolOp .And [ea, eb] _ => (ck a).E I ea && (ck b).E I eb
    | .BoolOp .And (ea :: eb :: ec :: r) p => (ck a).E I ea && (ck b).E I (.BoolOp .And (eb :: ec :: r) p)
    | _ => false)
  | .or a b => cbE (fun I ex => match ex with
    | .BoolOp .Or [ea, eb] _ => (ck a).E I ea && (ck b).E I eb
    | .BoolOp .Or (ea :: eb :: ec :: r) p => (ck a).E I ea && (ck b).E I (.BoolOp .Or (eb :: ec :: r) p)
    | _ => false)
  | .not a => cbE (fun I ex => match ex with
    | .UnaryOp .Not ea _ => (ck a).E I ea
    | _ => false)
  | .ife c a b => cbE (fun I ex => match ex with
    | .IfExp ec ea eb _ => (ck c).E I ec && ((ck a).E I ea && (ck b).E I eb)
    | _ => false)
  | .tup es => cbE (fun I ex => match ex with
    | .Tuple xs _ _ => (ck es).A I xs
    | _ => false)
  | .lst es => cbE (fun I ex => match ex with
    | .List xs _ => (ck es).A I xs
    | _ => false)
  | .sl a lo hi => cbE (fun I ex => match ex with
    | .Subscript ea (.Slice el eh none _) _ => (ck a).E I ea && ((ck lo).O I el && (ck hi).O I eh)
    | _ => false)
  | .ix a b => cbE (fun I ex => match ex with
    | .Subscript ea eb _ => (ck a).E I ea && (ck b).E I eb
    | _ => false)
  | .bi c es => cbE (fun I ex => match ex with
    | .Call (.Name x _) xs [] _ => decide (x = biN c) && (frB I x && (ck es).A I xs)
    | _ => false)
  | .me m o es => cbE (fun I ex => match ex with
    | .Call (.Attribute eo nm ap) xs [] cp => (ck o).E I eo && ((ck es).A I xs && (baseOk eo && (decide (ap.endLine = cp.line) && (!xs.isEmpty && (decide (xs.length < 20) && decide (nm = meName m))))))
    | _ => false)
  | .call f es => cbE (fun I ex => match ex with
    | .Call (.Name x _) xs [] _ => gloB I x && ((ck es).A I xs && (match lookN I.nm x with | some (.fn j lo hi _) => decide (f = j) && (decide (lo ≤ xs.length) && decide (xs.length ≤ hi)) | _ => false))
    | _ => false)
  | .callk f es ks perm => cbE (fun I ex => match ex with
    | .Call (.Name x _) xs kws _ => gloB I x && ((ck es).A I xs && ((ck ks).K I kws && (match lookN I.nm x with | some (.fn j _ _ ps) => decide (f = j) && permB ps xs.length (kwNames kws) perm | _ => false)))
    | _ => false)
  | .isi a cs => cbE (fun I ex => match ex with
    | .Call (.Name x _) [ea, ec] [] _ => decide (x = "isinstance") && (frB I x && ((ck a).E I ea && tyOk I cs ec))
    | _ => false)
  | .mk c => cbE (fun I ex => match ex with
    | .Call (.Name x _) [] [] _ => decide (x = c) && (gloB I x && (match lookN I.nm x with | some .exc => true | _ => false))
    | _ => false)
  | .lc tg el it c => cbE (fun I ex => match ex with
    | .ListComp eel [gc] sc _ => decide (gc.is_async = 0) && ((ck it).I I (isTup gc.target) gc.iter && (chkTg { I with sc := sc } tg gc.target && ((ck el).E { I with sc := relS sc I.sc } eel && (chkIfs ((ck c).E { I with sc := relS sc I.sc }) (isYes c) gc.ifs && (decide (tg.ids.Nodup) && blkC I.N I.sc sc (ownOf I.N tg.ids))))))
    | _ => false)
  | .nil => { cbN with
    A := fun _ es => es.isEmpty
    K := fun _ ks => ks.isEmpty }
  | .cons a r => { cbN with
    A := fun I es => (match es with
      | e :: es => (ck a).E I e && (ck r).A I es
      | [] => false)
    K := fun I ks => (match ks with
      | ⟨some _, e, _⟩ :: ks => (ck a).E I e && (ck r).K I ks
      | _ => false) }
  | .no => { cbN with O := fun _ o => o.isNone }
  | .rng1 a => { cbN with I := fun I t x => match x with
    | .Call (.Name x _) [ea] [] _ => decide (x = "range") && (frB I x && (ck a).E I ea)
    | _ => false }
  | .rng2 a b => { cbN with I := fun I t x => match x with
    | .Call (.Name x _) [ea, eb] [] _ => decide (x = "range") && (frB I x && ((ck a).E I ea && (ck b).E I eb))
    | _ => false }
  | .en a => { cbN with I := fun I t x => match x with
    | .Call (.Name x _) [ea] [] _ => t && (decide (x = "enumerate") && (frB I x && (ck a).E I ea))
    | _ => false }
  | .zp a b => { cbN with I := fun I t x => match x with
    | .Call (.Name x _) [ea, eb] [] _ => t && (decide (x = "zip") && (frB I x && ((ck a).E I ea && (ck b).E I eb)))
    | _ => false }
def chkE (I : Inf) (m : Ex) (e : Expr) : Bool := (ck m).E I e
def chkA (I : Inf) (m : Ex) (es : List Expr) : Bool := (ck m).A I es
def chkO (I : Inf) (m : Ex) (o : Option Expr) : Bool := (ck m).O I o
def chkK (I : Inf) (m : Ex) (ks : List Keyword) : Bool := (ck m).K I ks
def chkI (I : Inf) (m : Ex) (t : Bool) (e : Expr) : Bool := (ck m).I I t e
end Mi

set_option Elab.async false
set_option linter.all false
set_option maxRecDepth 100000
set_option maxHeartbeats 1000000
/-! Mi9: what an expression gives in the small language it gives in the program. -/
namespace Mi
open PySem L2
abbrev Kx := L2.St → XK
/-- an exception's class and own dict -/
def ExR (b : Bs) (F : Hp) (x : D) (cls : Value) (d : Option Addr) : Prop := match x with
  | .exn c ns xs => cls = .ref (He.ga b.K c) ∧ ((ns = [] ∧ xs = [] ∧ d = none) ∨ ∃ dx gs, d = some dx ∧ F dx = some (.xd gs) ∧ gs.map (·.1) = ns ∧ RepL b.K F xs (gs.map (·.2)))
  | _ => False
def ERex (b : Bs) (σ : L2.St) (H : Hp) (e : Env) (fl : List (V × W)) (x : D) (cls : Value) (d : Option Addr) : Prop := ∃ F O, ER b F O σ H e fl ∧ ExR b F x cls d
theorem ERex.drop {b : Bs} {σ : L2.St} {H : Hp} {e : Env} {fl l : List (V × W)} {x : D} {cls : Value} {d : Option Addr} (h : ERex b σ H e (fl ++ l) x cls d) : ERex b σ H e fl x cls d := let ⟨F, O, E, r⟩ := h; ⟨F, O, E.drop, r⟩
/-- what is wanted of an end -/
def outG {α β : Type} (okr : α → β → Prop) (psh : α → β → List (V × W)) (Wx : Kx) (b : Bs) (σ : L2.St) (fl : List (V × W)) (Q : β → Hp → Prop) : R α → Prop
  | .ok a e => ∀ y H', okr a y → ERx b σ H' e (fl ++ psh a y) → Q y H'
  | .exc x e => ∀ H' cls d, ERex b σ H' e fl x cls d → Wx σ cls d H'
  | .bad => False
section
variable {α β γ δ : Type} {okr : α → β → Prop} {psh : α → β → List (V × W)} {okr2 : γ → δ → Prop} {psh2 : γ → δ → List (V × W)} {Wx : Kx} {b : Bs} {σ : L2.St} {fl : List (V × W)}
theorem outG.mono {Q Q' : β → Hp → Prop} {r : R α} (h : outG okr psh Wx b σ fl Q r) (hQ : ∀ y H, Q y H → Q' y H) : outG okr psh Wx b σ fl Q' r := by
  cases r with
  | ok a e => exact fun y H' h1 h2 => hQ _ _ (h y H' h1 h2)
  | exc x e => exact h
  | bad => exact h
theorem outG.bnd {Q : δ → Hp → Prop} {r : R α} {f : α → Env → R γ} (mid : List (V × W)) (h : outG okr2 psh2 Wx b σ fl Q (r.bnd f)) :
    outG okr psh Wx b σ (fl ++ mid) (fun y H1 => ∃ a e1, okr a y ∧ ERx b σ H1 e1 ((fl ++ mid) ++ psh a y) ∧ outG okr2 psh2 Wx b σ fl Q (f a e1)) r := by
  cases r with
  | ok a e => exact fun y H' h1 h2 => ⟨a, e, h1, h2, h⟩
  | exc x e => exact fun H' cls d h1 => h H' cls d h1.drop
  | bad => exact h
theorem outG.bnd0 {Q : δ → Hp → Prop} {r : R α} {f : α → Env → R γ} (h : outG okr2 psh2 Wx b σ fl Q (r.bnd f)) :
    outG okr psh Wx b σ fl (fun y H1 => ∃ a e1, okr a y ∧ ERx b σ H1 e1 (fl ++ psh a y) ∧ outG okr2 psh2 Wx b σ fl Q (f a e1)) r := by
  have := outG.bnd (okr := okr) (psh := psh) [] h
  simpa using this
end
abbrev outE := @outG W V (fun _ _ => True) (fun w v => [(v, w)])
abbrev outA := @outG (List W) (List V) (fun ws vs => vs.length = ws.length) (fun ws vs => vs.zip ws)
abbrev outO := @outG (Option Int) (Option Int) (fun o o' => o' = o) (fun _ _ => [])
abbrev outT := @outG Bool Bool (fun o o' => o' = o) (fun _ _ => [])
theorem outE_ofO {Wx : Kx} {b : Bs} {σ : L2.St} {fl : List (V × W)} {Q : VK} {o : Option W} {e : Env} (h : outE Wx b σ fl Q (R.ofO o e)) : ∃ w, o = some w ∧ Giv b σ e fl Q w := by
  cases o with
  | none => exact h.elim
  | some w => exact ⟨w, rfl, fun v H' h1 => h v H' True.intro h1⟩

/-- what is fixed: the program, what the top left, what calls do -/
structure Gi where
  P : Program
  w : World
  K : PySem.W.Frag
  mg : Str → Option Value
  base : Heap
  CX : CXT
  T : Nat → Option Fn
def Gi.b (g : Gi) (A : List (Option Addr)) (F H : Hp) : Bs := ⟨g.K, g.P, g.w, A, F, H⟩
def outC (b : Bs) (Q : VK) (E : XK) : CR → Prop
  | .ok d own out => ∀ F' H' v, Post b F' H' out → Res b F' H' v d own → Q v H'
  | .exc x out => ∀ F' H' cls d, Post b F' H' out → ExR b F' x cls d → E cls d H'
  | .bad => False
/-- the promise of the j-th def, n calls deep -/
def spM (g : Gi) (n j : Nat) : Sp := fun vs H Q E => ∃ (F : Hp) (as : List (D × Bool)) (A : List (Option Addr)), Pre (g.b A F H) as vs ∧ (∀ f, g.T j = some f → as.length = f.np) ∧ outC (g.b A F H) Q E (callA g.T n j as)
/-- what is known of the module's names -/
structure GOk (g : Gi) (nm : List (Str × GK)) (fr : List Str) (n : Nat) : Prop where
  fr : ∀ x, fr.contains x = true → g.mg x = none
  cst : ∀ x d, lookN nm x = some (.cst d) → ∃ u v, g.mg x = some u ∧ RelV v u ∧ ∀ F, Rep g.K F d v
  fn : ∀ x j lo hi ps, lookN nm x = some (.fn j lo hi ps) → ∃ (f : Addr) (fd : FuncData) (fn : Fn), g.mg x = some (.ref f) ∧ PySem.W.keepIn g.K (.ref f) = true ∧ g.T j = some fn ∧ FnOk g.P g.w g.K g.mg g.base g.CX n f fd ps (spM g n j) ∧
    (∀ m : Nat, lo ≤ m → m ≤ hi → m + (fn.pads m).length = fn.np ∧ ∃ dvs ds, Binds g.K fd ps ds ∧ Vals dvs ds ∧ ∀ F, RepL g.K F (fn.pads m) dvs) ∧
    ∀ (m : Nat) (ks : List Str) (perm : List Nat), permB ps m ks perm = true → perm.length = fn.np ∧ ∃ (gf : List Value → List Value → List Value) (gV : List V → List V → List V), KBn g.K fd ps m ks gf gV ∧ ∀ vs zs : List V, vs.length = m → zs.length = ks.length → picks (vs ++ zs) perm = some (gV vs zs)
  exc : ∀ x, lookN nm x = some .exc → g.mg x = some (.ref (He.ga g.K x)) ∧ PySem.W.keepIn g.K (.ref (He.ga g.K x)) = true ∧ PySem.W.excIn g.K (He.ga g.K x) He.veBase "ValueError.__new__" = true ∧ excB g.K x = true
  cx0 : ∀ st H s e s', g.CX st H s (fun _ _ _ => False) e s' → False
/-- the context of a def's body, of a comprehension -/
structure XO (g : Gi) (I : Inf) (n : Nat) (Wx : Kx) (X : Cx) : Prop where
  hP : X.prog = g.P
  hw : X.w = g.w
  hK : X.K = g.K
  hm : X.mg = g.mg
  hb : X.base = g.base
  hN : X.N = I.N
  nd : I.N.Nodup
  sc : X.env.scope = I.sc
  calm : X.calm = true
  room : Room n X.A
  pass : ∀ σ, PassesAt g.CX X σ (Wx σ)
section
variable {g : Gi} {I : Inf} {n : Nat} {Wx : Kx} {X : Cx}
theorem XO.units (o : XO g I n Wx X) : X.A.units + 64 < cLine := o.room.units
theorem XO.vis (o : XO g I n Wx X) {i : Nat} {x : Str} (h : varB I i x = true) : X.N[i]? = some x ∧ Vis X.env.scope x ∧ (x == ("__debug__" : Str)) = false ∧ (x == ("__classdict__" : Str)) = false := by
  unfold varB plainN at h
  simp only [Bool.and_eq_true, bne_iff_ne, ne_eq, decide_eq_true_eq] at h
  obtain ⟨⟨⟨h1, h2⟩, _⟩, h3, h4⟩ := h
  refine ⟨by rw [o.hN]; exact h4, ?_, beq_eq_false_iff_ne.mpr h1, beq_eq_false_iff_ne.mpr h2⟩
  rw [o.sc]
  unfold visB at h3
  unfold Vis
  split at h3 <;> first | (rename_i q; simp [q]) | cases h3
theorem XO.glo (o : XO g I n Wx X) {x : Str} (h : gloB I x = true) : Gl X x ∧ (x == ("__debug__" : Str)) = false ∧ x ≠ "__name__" := by
  unfold gloB plainN at h
  simp only [Bool.and_eq_true, bne_iff_ne, ne_eq, decide_eq_true_eq] at h
  obtain ⟨⟨⟨h1, h2⟩, h3⟩, h4⟩ := h
  exact ⟨by show X.env.scope.names.lookup x = _; rw [o.sc]; exact h4, beq_eq_false_iff_ne.mpr h1, h3⟩
theorem XO.free (o : XO g I n Wx X) (G : GOk g I.nm I.fr n) {x : Str} (h : frB I x = true) : Gl X x ∧ X.mg x = none ∧ (x == ("__debug__" : Str)) = false ∧ x ≠ "__name__" := by
  obtain ⟨h1, h2⟩ := Bool.and_eq_true_iff.mp h
  obtain ⟨q1, q2, q3⟩ := o.glo h1
  exact ⟨q1, by rw [o.hm]; exact G.fr x h2, q2, q3⟩
def BokG (g : Gi) (b : Bs) : Prop := b.K = g.K ∧ b.P = g.P ∧ b.w = g.w
theorem XO.bok (o : XO g I n Wx X) {b : Bs} (h : BokG g b) : Bok X b := ⟨by rw [o.hK]; exact h.1, by rw [o.hP]; exact h.2.1, by rw [o.hw]; exact h.2.2⟩
def rdE (g : Gi) (n : Nat) (Wx : Kx) (m : Ex) : TE := fun σ H Q => ∃ b e fl, BokG g b ∧ ERx b σ H e fl ∧ outE Wx b σ fl Q (evE (callN g.T n) m e)
def rdA (g : Gi) (n : Nat) (Wx : Kx) (m : Ex) : TA := fun σ H Q => ∃ b e fl, BokG g b ∧ ERx b σ H e fl ∧ outA Wx b σ fl Q (evA (callN g.T n) m e)
def rdO (g : Gi) (n : Nat) (Wx : Kx) (m : Ex) : TO := fun σ H Q => ∃ b e fl, BokG g b ∧ ERx b σ H e fl ∧ outO Wx b σ fl Q (evO (callN g.T n) m e)
def rdT (g : Gi) (n : Nat) (Wx : Kx) (m : Ex) : TT := fun σ H Q => ∃ b e fl, BokG g b ∧ ERx b σ H e fl ∧ outT Wx b σ fl Q (evT (callN g.T n) m e)
/-- what a loop walks: the values xs; what must stay meanwhile -/
structure ItOk (b : Bs) (J : It) (xs : List D) (ent : List (V × W)) : Prop where
  nos : ∀ p ∈ ent, ∃ d, p.2 = .d d
  go : ∀ F O σ H e fl i, ER b F O σ H e (fl ++ ent) → i < xs.length → J.go i H
  stop : ∀ F O σ H e fl, ER b F O σ H e (fl ++ ent) → J.stop xs.length H
  yld : ∀ F O σ H e fl i x H' d, ER b F O σ H e (fl ++ ent) → xs[i]? = some d → J.yld i H x H' → ∃ F' O', ER b F' O' σ H' e (fl ++ ent) ∧ Rep b.K F' d x
def rdI (g : Gi) (n : Nat) (Wx : Kx) (m : Ex) : TI := fun σ H R => ∃ b e fl, BokG g b ∧ ERx b σ H e fl ∧ (match evI (callN g.T n) m e with
  | .ok xs e1 => ∀ J H' ent, ItOk b J xs ent → ERx b σ H' e1 (fl ++ ent) → R J H'
  | .exc x e1 => ∀ H' cls d, ERex b σ H' e1 fl x cls d → Wx σ cls d H'
  | .bad => False)
theorem wkE {e : Expr} {t t' : TE} (h : PE X e t) (w : ∀ σ H Q, t' σ H Q → t σ H Q) : PE X e t' := ⟨fun pins s σ H Q I q => h.run pins s σ H Q I (w _ _ _ q)⟩
theorem wkT {e : Expr} {t t' : TT} (h : PT X e t) (w : ∀ σ H Q, t' σ H Q → t σ H Q) : PT X e t' := ⟨fun pins s σ H Q I q => h.run pins s σ H Q I (w _ _ _ q)⟩
theorem wkW {e : Expr} {t t' : TT} (h : PW X e t) (w : ∀ σ H Q, t' σ H Q → t σ H Q) : PW X e t' := ⟨fun wh pins s σ H Q I q => h.run wh pins s σ H Q I (w _ _ _ q)⟩
theorem wkA {es : List Expr} {t t' : TA} (h : PA X es t) (w : ∀ σ H Q, t' σ H Q → t σ H Q) : PA X es t' := ⟨fun pos pins s σ H Q I q => h.run pos pins s σ H Q I (w _ _ _ q)⟩
theorem wkK {ks : List Keyword} {t t' : TA} (h : PK X ks t) (w : ∀ σ H Q, t' σ H Q → t σ H Q) : PK X ks t' := ⟨fun pos pins s σ H Q I q => h.run pos pins s σ H Q I (w _ _ _ q)⟩
theorem wkO {e : Option Expr} {t t' : TO} (h : PO X e t) (w : ∀ σ H Q, t' σ H Q → t σ H Q) : PO X e t' := ⟨fun pins s σ H Q I q => h.run pins s σ H Q I (w _ _ _ q)⟩
theorem wkI {tg e : Expr} {t t' : TI} (h : PI X tg e t) (w : ∀ σ H Q, t' σ H Q → t σ H Q) : PI X tg e t' := ⟨fun pins s σ H Q I q => h.run pins s σ H Q I (w _ _ _ q)⟩
/-! ### syntax -/
def isStarE : Expr → Bool
  | .Starred _ _ => true
  | _ => false
theorem star_cons {e : Expr} {es : List Expr} {env : PySem.Env} (h : isStarE e = false) : starEach (e :: es) env = (false, eval e env) :: starEach es env := by
  cases e <;> first | rfl | cases h
theorem star_any {env : PySem.Env} {pos : Pos} : ∀ {es : List Expr}, (∀ e ∈ es, isStarE e = false) → (backTo pos (starEach es env)).any (·.1) = false
  | [], _ => rfl
  | e :: es, h => by
    rw [star_cons (h e List.mem_cons_self)]
    show (false || (backTo pos (starEach es env)).any (·.1)) = false
    rw [star_any fun x hx => h x (List.mem_cons_of_mem _ hx)]
    rfl
theorem star_len {env : PySem.Env} {pos : Pos} : ∀ {es : List Expr}, (∀ e ∈ es, isStarE e = false) → (backTo pos (starEach es env)).all (fun x => !x.1) = true
  | [], _ => rfl
  | e :: es, h => by
    rw [star_cons (h e List.mem_cons_self)]
    show (true && (backTo pos (starEach es env)).all (fun x => !x.1)) = true
    rw [star_len fun x hx => h x (List.mem_cons_of_mem _ hx)]
    rfl
theorem cbE_star {f : Inf → Expr → Bool} (hf : ∀ I e, isStarE e = true → f I e = false) {e : Expr} (h : (cbE f).E I e = true) : isStarE e = false := by
  cases q : isStarE e with
  | false => rfl
  | true => rw [show (cbE f).E I e = f I e from rfl, hf I e q] at h; cases h
theorem chkE_star {m : Ex} {e : Expr} (h : chkE I m e = true) : isStarE e = false := by
  cases e with
  | Starred v p =>
    exfalso
    unfold chkE at h
    cases m with
    | k d => cases d <;> cases h
    | _ => cases h
  | _ => rfl
theorem chkA_cons {a r : Ex} {e : Expr} {es : List Expr} (h : chkA I (.cons a r) (e :: es) = true) : chkE I a e = true ∧ chkA I r es = true := Bool.and_eq_true_iff.mp h
theorem chkA_shape {m : Ex} {es : List Expr} (h : chkA I m es = true) : (m = .nil ∧ es = []) ∨ ∃ a r e es', m = .cons a r ∧ es = e :: es' ∧ chkE I a e = true ∧ chkA I r es' = true := by
  cases m with
  | nil =>
    cases es with
    | nil => exact .inl ⟨rfl, rfl⟩
    | cons _ _ => cases h
  | cons a r =>
    cases es with
    | nil => cases h
    | cons e es => exact .inr ⟨a, r, e, es, rfl, rfl, chkA_cons h⟩
  | _ => cases h
theorem chkA_star : ∀ {es : List Expr} {m : Ex}, chkA I m es = true → ∀ e ∈ es, isStarE e = false
  | [], m, _, e, he => by cases he
  | e :: es, m, h, x, hx => by
    rcases chkA_shape h with ⟨_, h2⟩ | ⟨a, r, e', es', _, h2, h3, h4⟩
    · cases h2
    · cases h2
      rcases List.mem_cons.mp hx with rfl | hx
      · exact chkE_star h3
      · exact chkA_star h4 x hx
/-! ### what is shown of each form -/
def SE (g : Gi) (n : Nat) (m : Ex) : Prop := ∀ (I : Inf) (X : Cx) (Wx : Kx), GOk g I.nm I.fr n → XO g I n Wx X → ∀ e : Expr, chkE I m e = true → PE X e (rdE g n Wx m)
def SA (g : Gi) (n : Nat) (m : Ex) : Prop := ∀ (I : Inf) (X : Cx) (Wx : Kx), GOk g I.nm I.fr n → XO g I n Wx X → ∀ es : List Expr, chkA I m es = true → PA X es (rdA g n Wx m)
def SO (g : Gi) (n : Nat) (m : Ex) : Prop := ∀ (I : Inf) (X : Cx) (Wx : Kx), GOk g I.nm I.fr n → XO g I n Wx X → ∀ e : Option Expr, chkO I m e = true → PO X e (rdO g n Wx m)
def SK (g : Gi) (n : Nat) (m : Ex) : Prop := ∀ (I : Inf) (X : Cx) (Wx : Kx), GOk g I.nm I.fr n → XO g I n Wx X → ∀ ks : List Keyword, chkK I m ks = true → PK X ks (rdA g n Wx m)
def isBool : Expr → Bool
  | .BoolOp _ _ _ => true
  | _ => false
def STs (g : Gi) (n : Nat) (m : Ex) : Prop := ∀ (I : Inf) (X : Cx) (Wx : Kx), GOk g I.nm I.fr n → XO g I n Wx X → ∀ e : Expr, chkE I m e = true → PT X e (rdT g n Wx m) ∧ (isBool e = true → PW X e (rdT g n Wx m))
def SI (g : Gi) (n : Nat) (m : Ex) : Prop := ∀ (I : Inf) (X : Cx) (Wx : Kx), GOk g I.nm I.fr n → XO g I n Wx X → ∀ (tg e : Expr), chkI I m (isTup tg) e = true → PI X tg e (rdI g n Wx m)
end
end Mi

set_option Elab.async false
set_option linter.all false
set_option maxRecDepth 100000
set_option maxHeartbeats 1000000
/-! Mi10: names, constants, operators, displays, items, slices. -/
namespace Mi
open PySem L2
section
variable {g : Gi} {n : Nat}
theorem ERx.get {b : Bs} {σ : L2.St} {H : Hp} {e : Env} {fl : List (V × W)} (h : ERx b σ H e fl) : ∃ F O, ER b F O σ H e fl := h
theorem ERx.drop {b : Bs} {σ : L2.St} {H : Hp} {e : Env} {fl l : List (V × W)} (h : ERx b σ H e (fl ++ l)) : ERx b σ H e fl := let ⟨F, O, E⟩ := h; ⟨F, O, E.drop⟩
theorem ER.atV {b : Bs} {F : Hp} {O : Gh} {σ : L2.St} {H : Hp} {e : Env} {fl : List (V × W)} (E : ER b F O σ H e fl) {i : Nat} {p : D × Bool} (h : e.at i = some p) : ∃ v, σ[i]? = some (some v) := by
  unfold Env.at at h
  cases hs : e.sl[i]? with
  | none => rw [hs] at h; cases h
  | some s =>
    rw [hs] at h
    have r := E.slot i s hs
    cases s with
    | no => cases h
    | val x => obtain ⟨v, r, _⟩ := r; exact ⟨v, r⟩
    | own x => obtain ⟨a, r, _⟩ := r; exact ⟨_, r⟩
    | lent k => obtain ⟨a, r, _⟩ := r; exact ⟨_, r⟩
theorem s_k (d : D) : SE g n (.k d) := by
  intro I X Wx G o e h
  have fin : ∀ {v : V}, (∀ (K : PySem.W.Frag) (F : Hp), Rep K F d v) → PE X e (tC v) → PE X e (rdE g n Wx (.k d)) := fun {v} r p => wkE p fun σ H Q ⟨b, e, fl, hb, ⟨F, O, E⟩, h⟩ => by
    have h : outE Wx b σ fl Q (.ok (.d d) e) := h
    exact h v H True.intro ⟨F, O, E.pushD (r _ _)⟩
  cases e with
  | Constant c k p =>
    cases d with
    | non =>
      cases c with
      | none => exact fin (fun _ _ => rfl) pe_non
      | _ => cases h
    | bl c1 =>
      cases c with
      | bool c2 =>
        have h : (c1 == c2) = true := h
        rw [eq_of_beq h] at fin ⊢
        exact fin (fun _ _ => rfl) pe_bl
      | _ => cases h
    | int i =>
      cases c with
      | int j =>
        have h : decide (i = j) = true := h
        rw [of_decide_eq_true h] at fin ⊢
        exact fin (fun _ _ => rfl) pe_int
      | _ => cases h
    | str x =>
      cases c with
      | str y =>
        have h : (decide (x = y) && decide (x.length ≤ lim)) = true := h
        simp only [Bool.and_eq_true, decide_eq_true_eq] at h
        obtain ⟨rfl, h2⟩ := h
        exact fin (fun _ _ => ⟨rfl, h2⟩) pe_str
      | _ => cases h
    | _ => cases h
  | _ => cases d <;> cases h
theorem s_v (i : Nat) : SE g n (.v i) := by
  intro I X Wx G o e h
  cases e with
  | Name x p =>
    have h : varB I i x = true := h
    obtain ⟨h1, h2, h3, h4⟩ := o.vis h
    refine wkE (pe_var h1 h2 h3 h4) fun σ H Q ⟨b, e, fl, hb, ⟨F, O, E⟩, h⟩ => ?_
    have h : outE Wx b σ fl Q (match e.at i with | some _ => .ok (.s i) e | none => .bad) := h
    cases hs : e.at i with
    | none => rw [hs] at h; exact h.elim
    | some q =>
      rw [hs] at h
      obtain ⟨v, hv⟩ := E.atV hs
      exact ⟨v, hv, h v H True.intro ⟨F, O, E.pushS hv⟩⟩
  | _ => cases h
theorem s_g (x : Str) (d : D) : SE g n (.g x d) := by
  intro I X Wx G o e h
  cases e with
  | Name y p =>
    have h : (decide (x = y) && (gloB I x && (match lookN I.nm x with | some (.cst d') => beqD d d' | _ => false))) = true := h
    simp only [Bool.and_eq_true, decide_eq_true_eq] at h
    obtain ⟨rfl, h2, h3⟩ := h
    obtain ⟨q1, q2, _⟩ := o.glo h2
    split at h3
    · rename_i d' hl
      have := beqD_eq h3
      subst this
      obtain ⟨u, v, e1, e2, e3⟩ := G.cst x d hl
      refine wkE (pe_glob q1 (by rw [o.hm]; exact e1) e2 q2) fun σ H Q ⟨b, e, fl, hb, ⟨F, O, E⟩, h⟩ => ?_
      have h : outE Wx b σ fl Q (.ok (.d d) e) := h
      exact h v H True.intro ⟨F, O, E.pushD (by rw [hb.1]; exact e3 F)⟩
    · cases h3
  | _ => cases h
/-- two values, then an operation of them -/
theorem two_rd {Wx : Kx} {a c : Ex} {f : D → D → Option W} {r : R2} {X : Cx} {I : Inf} (o : XO g I n Wx X) (hr : Op2 X f r) {m : Ex}
    (hm : ∀ e, evE (callN g.T n) m e = (evE (callN g.T n) a e).bnd fun x e1 => (evE (callN g.T n) c e1).bnd fun y e2 => match e2.cur x, e2.cur y with
      | some p, some q => R.ofO (f p q) e2
      | _, _ => .bad) {σ : L2.St} {H : Hp} {Q : VK} (h : rdE g n Wx m σ H Q) : tOp r (rdE g n Wx a) (rdE g n Wx c) σ H Q := by
  obtain ⟨b, e, fl, hb, E, h⟩ := h
  rw [hm] at h
  refine ⟨b, e, fl, hb, E, (outG.bnd0 h).mono ?_⟩
  rintro x H1 ⟨wx, e1, _, E1, h1⟩
  refine ⟨b, e1, fl ++ [(x, wx)], hb, E1, (outG.bnd [(x, wx)] h1).mono ?_⟩
  rintro y H2 ⟨wy, e2, _, ⟨F, O, E2⟩, h2⟩
  cases c1 : e2.cur wx with
  | none => rw [c1] at h2; exact h2.elim
  | some p =>
    cases c2 : e2.cur wy with
    | none => rw [c1, c2] at h2; exact h2.elim
    | some q =>
      rw [c1, c2] at h2
      obtain ⟨w, q1, q2⟩ := outE_ofO h2
      have hx : Has b F H2 p x := E2.has (j := fl.length) (w := wx) (by simp) c1
      have hy : Has b F H2 q y := E2.has (j := fl.length + 1) (w := wy) (by simp) c2
      exact hr b F O σ H2 e2 fl x y p q w Q (o.bok hb) E2.drop.drop hx hy q1 q2
theorem s_op (op : Operator) (a c : Ex) (ha : SE g n a) (hc : SE g n c) : SE g n (.op op a c) := by
  intro I X Wx G o e h
  cases e with
  | BinOp ea op' ec p =>
    have h : (decide (op = op') && (chkE I a ea && chkE I c ec)) = true := h
    simp only [Bool.and_eq_true, decide_eq_true_eq] at h
    obtain ⟨rfl, h1, h2⟩ := h
    obtain ⟨r, h3, h4⟩ := bin_ok (X := X) op
    exact wkE (pe_op h3 (ha I X Wx G o ea h1) (hc I X Wx G o ec h2)) fun σ H Q h => two_rd o h4 (fun e => evE_op _ e) h
  | _ => cases h
theorem s_cmp (op : CmpOp) (a c : Ex) (ha : SE g n a) (hc : SE g n c) : SE g n (.cmp op a c) := by
  intro I X Wx G o e h
  cases e with
  | Compare ea ops es p =>
    match ops, es, h with
    | [op'], [ec], h =>
      have h : (decide (op = op') && (!behindInMarks op ec && (chkE I a ea && chkE I c ec))) = true := h
      simp only [Bool.and_eq_true, decide_eq_true_eq, Bool.not_eq_true'] at h
      obtain ⟨rfl, hm, h1, h2⟩ := h
      obtain ⟨r, h3, h4⟩ := cmp_ok (X := X) o.units op
      exact wkE (pe_cmpR h3 (ha I X Wx G o ea h1) (hc I X Wx G o ec h2) hm) fun σ H Q h => two_rd o h4 (fun e => evE_cmp _ e) h
    | [], _, h => cases h
    | _ :: _ :: [], [_], h => cases h
    | _ :: _ :: _ :: _, _, h => cases h
    | [_], [], h => cases h
    | [_], _ :: _ :: _, h => cases h
    | [_, _], [], h => cases h
    | [_, _], [_, _], h => cases h
    | [_, _], _ :: _ :: _ :: _, h => cases h
  | _ => cases h
theorem s_ix (a c : Ex) (ha : SE g n a) (hc : SE g n c) : SE g n (.ix a c) := by
  intro I X Wx G o e h
  cases e with
  | Subscript ea ec p =>
    have h : (chkE I a ea && chkE I c ec) = true := h
    simp only [Bool.and_eq_true] at h
    obtain ⟨h1, h2⟩ := h
    obtain ⟨r, h3, h4⟩ := ix_ok (X := X)
    have hp : PlainIx ec := by
      intro v u
      cases ec with
      | Slice lo hi st p =>
        exfalso
        unfold chkE at h2
        cases c with
        | k d => cases d <;> cases h2
        | _ => cases h2
      | _ => rfl
    exact wkE (pe_ix h3 (ha I X Wx G o ea h1) (hc I X Wx G o ec h2) hp) fun σ H Q h => two_rd o h4 (fun e => evE_ix _ e) h
  | _ => cases h
theorem s_neg (a : Ex) (ha : SE g n a) : SE g n (.neg a) := by
  intro I X Wx G o e h
  cases e with
  | UnaryOp op ea p =>
    cases op with
    | USub =>
      have h : chkE I a ea = true := h
      refine wkE (pe_un un_neg (ha I X Wx G o ea h)) fun σ H Q ⟨b, e, fl, hb, E, h⟩ => ?_
      rw [evE_neg] at h
      refine ⟨b, e, fl, hb, E, (outG.bnd0 h).mono ?_⟩
      rintro x H1 ⟨wx, e1, _, ⟨F, O, E1⟩, h1⟩
      cases c1 : e1.cur wx with
      | none => rw [c1] at h1; exact h1.elim
      | some q =>
        rw [c1] at h1
        have hx : Has b F H1 q x := E1.has (j := fl.length) (w := wx) (by simp) c1
        cases q with
        | int i =>
          have h1 : outE Wx b σ fl Q (.ok (.d (.int (-i))) e1) := h1
          exact ⟨i, hx.int, h1 _ H1 True.intro ⟨F, O, E1.drop.pushD rfl⟩⟩
        | _ => exact h1.elim
    | _ => cases h
  | _ => cases h
/-- a value, then its truth -/
theorem tru_rd {Wx : Kx} {X : Cx} {I : Inf} (o : XO g I n Wx X) {b : Bs} {F : Hp} {O : Gh} {σ : L2.St} {H : Hp} {e : Env} {fl : List (V × W)} {x : V} {w : W} {k : Bool} (hb : BokG g b) (E : ER b F O σ H e (fl ++ [(x, w)])) (h : (e.cur w).bind truth = some k) : TruV X.K x H k := by
  cases c1 : e.cur w with
  | none => rw [c1] at h; cases h
  | some q =>
    rw [c1] at h
    have hx : Has b F H q x := E.has (j := fl.length) (w := w) (by simp) c1
    exact hx.tru (o.bok hb) E.sub h
theorem s_not (a : Ex) (ha : SE g n a) : SE g n (.not a) := by
  intro I X Wx G o e h
  cases e with
  | UnaryOp op ea p =>
    cases op with
    | Not =>
      have h : chkE I a ea = true := h
      refine wkE (pe_notT (ha I X Wx G o ea h)) fun σ H Q ⟨b, e, fl, hb, E, h⟩ => ?_
      rw [evE_not] at h
      refine ⟨b, e, fl, hb, E, (outG.bnd0 h).mono ?_⟩
      rintro x H1 ⟨wx, e1, _, ⟨F, O, E1⟩, h1⟩
      cases c1 : (e1.cur wx).bind truth with
      | none => rw [c1] at h1; exact h1.elim
      | some k =>
        rw [c1] at h1
        have h1 : outE Wx b σ fl Q (.ok (.d (.bl (!k))) e1) := h1
        exact ⟨k, tru_rd o hb E1 c1, h1 _ H1 True.intro ⟨F, O, E1.drop.pushD rfl⟩⟩
    | _ => cases h
  | _ => cases h
theorem and_rd {Wx : Kx} {a c : Ex} {X : Cx} {I : Inf} (o : XO g I n Wx X) {σ : L2.St} {H : Hp} {Q : VK} (h : rdE g n Wx (.and a c) σ H Q) : tAndT X.K (rdE g n Wx a) (rdE g n Wx c) σ H Q := by
  obtain ⟨b, e, fl, hb, E, h⟩ := h
  rw [evE_and] at h
  refine ⟨b, e, fl, hb, E, (outG.bnd0 h).mono ?_⟩
  rintro x H1 ⟨wx, e1, _, ⟨F, O, E1⟩, h1⟩
  cases c1 : (e1.cur wx).bind truth with
  | none => rw [c1] at h1; exact h1.elim
  | some k =>
    rw [c1] at h1
    refine ⟨k, tru_rd o hb E1 c1, ?_⟩
    cases k with
    | true =>
      rw [if_pos rfl]
      exact ⟨b, e1, fl, hb, ⟨F, O, E1.drop⟩, h1⟩
    | false =>
      rw [if_neg Bool.false_ne_true]
      exact h1 x H1 True.intro ⟨F, O, E1⟩
theorem or_rd {Wx : Kx} {a c : Ex} {X : Cx} {I : Inf} (o : XO g I n Wx X) {σ : L2.St} {H : Hp} {Q : VK} (h : rdE g n Wx (.or a c) σ H Q) : tOrT X.K (rdE g n Wx a) (rdE g n Wx c) σ H Q := by
  obtain ⟨b, e, fl, hb, E, h⟩ := h
  rw [evE_or] at h
  refine ⟨b, e, fl, hb, E, (outG.bnd0 h).mono ?_⟩
  rintro x H1 ⟨wx, e1, _, ⟨F, O, E1⟩, h1⟩
  cases c1 : (e1.cur wx).bind truth with
  | none => rw [c1] at h1; exact h1.elim
  | some k =>
    rw [c1] at h1
    refine ⟨k, tru_rd o hb E1 c1, ?_⟩
    cases k with
    | true =>
      rw [if_pos rfl]
      exact h1 x H1 True.intro ⟨F, O, E1⟩
    | false =>
      rw [if_neg Bool.false_ne_true]
      exact ⟨b, e1, fl, hb, ⟨F, O, E1.drop⟩, h1⟩
theorem s_and (a c : Ex) (ha : SE g n a) (hc : SE g n c) : SE g n (.and a c) := by
  intro I X Wx G o e h
  cases e with
  | BoolOp op es p =>
    cases op with
    | And =>
      match es, h with
      | [ea, ec], h =>
        have h : (chkE I a ea && chkE I c ec) = true := h
        obtain ⟨h1, h2⟩ := Bool.and_eq_true_iff.mp h
        exact wkE (pe_andT (ha I X Wx G o ea h1) (pe_one (hc I X Wx G o ec h2))) fun σ H Q h => and_rd o h
      | ea :: ec :: ed :: r, h =>
        have h : (chkE I a ea && chkE I c (.BoolOp .And (ec :: ed :: r) p)) = true := h
        obtain ⟨h1, h2⟩ := Bool.and_eq_true_iff.mp h
        exact wkE (pe_andT (ha I X Wx G o ea h1) (hc I X Wx G o _ h2)) fun σ H Q h => and_rd o h
      | [], h => cases h
      | [_], h => cases h
    | Or => cases h
  | _ => cases h
theorem s_or (a c : Ex) (ha : SE g n a) (hc : SE g n c) : SE g n (.or a c) := by
  intro I X Wx G o e h
  cases e with
  | BoolOp op es p =>
    cases op with
    | Or =>
      match es, h with
      | [ea, ec], h =>
        have h : (chkE I a ea && chkE I c ec) = true := h
        obtain ⟨h1, h2⟩ := Bool.and_eq_true_iff.mp h
        exact wkE (pe_orT (ha I X Wx G o ea h1) (pe_one (hc I X Wx G o ec h2))) fun σ H Q h => or_rd o h
      | ea :: ec :: ed :: r, h =>
        have h : (chkE I a ea && chkE I c (.BoolOp .Or (ec :: ed :: r) p)) = true := h
        obtain ⟨h1, h2⟩ := Bool.and_eq_true_iff.mp h
        exact wkE (pe_orT (ha I X Wx G o ea h1) (hc I X Wx G o _ h2)) fun σ H Q h => or_rd o h
      | [], h => cases h
      | [_], h => cases h
    | And => cases h
  | _ => cases h
theorem s_ife (c a d : Ex) (hc : STs g n c) (ha : SE g n a) (hd : SE g n d) : SE g n (.ife c a d) := by
  intro I X Wx G o e h
  cases e with
  | IfExp ec ea ed p =>
    have h : (chkE I c ec && (chkE I a ea && chkE I d ed)) = true := h
    simp only [Bool.and_eq_true] at h
    obtain ⟨h1, h2, h3⟩ := h
    refine wkE (pe_ifExp (hc I X Wx G o ec h1).1 (ha I X Wx G o ea h2) (hd I X Wx G o ed h3)) fun σ H Q ⟨b, e, fl, hb, E, h⟩ => ?_
    rw [evE_ife] at h
    refine ⟨b, e, fl, hb, E, (outG.bnd0 h).mono ?_⟩
    rintro t H1 ⟨t', e1, rfl, E1, h1⟩
    have E1 := E1.drop
    cases t with
    | true => exact ⟨b, e1, fl, hb, E1, h1⟩
    | false => exact ⟨b, e1, fl, hb, E1, h1⟩
  | _ => cases h
theorem s_nil : SA g n .nil := by
  intro I X Wx G o es h
  cases es with
  | nil =>
    refine wkA pa_nil fun σ H Q ⟨b, e, fl, hb, E, h⟩ => ?_
    have h : outA Wx b σ fl Q (.ok [] e) := h
    exact h [] H rfl (by simpa using E)
  | cons _ _ => cases h
theorem s_cons (a r : Ex) (ha : SE g n a) (hr : SA g n r) : SA g n (.cons a r) := by
  intro I X Wx G o es h
  cases es with
  | nil => cases h
  | cons ea es =>
    obtain ⟨h1, h2⟩ := chkA_cons h
    refine wkA (pa_cons (ha I X Wx G o ea h1) (hr I X Wx G o es h2) (star_cons (chkE_star h1))) fun σ H Q ⟨b, e, fl, hb, E, h⟩ => ?_
    rw [evA_cons] at h
    refine ⟨b, e, fl, hb, E, (outG.bnd0 h).mono ?_⟩
    rintro x H1 ⟨wx, e1, _, E1, h1⟩
    refine ⟨b, e1, fl ++ [(x, wx)], hb, E1, (outG.bnd [(x, wx)] h1).mono ?_⟩
    rintro vs H2 ⟨ws, e2, hl, E2, h2⟩
    have h2 : outA Wx b σ fl Q (.ok (wx :: ws) e2) := h2
    refine h2 (x :: vs) H2 (by simp [hl]) ?_
    rw [List.append_assoc] at E2
    exact E2
theorem sk_nil : SK g n .nil := by
  intro I X Wx G o ks h
  cases ks with
  | nil =>
    refine wkK pk_nil fun σ H Q ⟨b, e, fl, hb, E, h⟩ => ?_
    have h : outA Wx b σ fl Q (.ok [] e) := h
    exact h [] H rfl (by simpa using E)
  | cons _ _ => cases h
theorem sk_cons (a r : Ex) (ha : SE g n a) (hr : SK g n r) : SK g n (.cons a r) := by
  intro I X Wx G o ks h
  match ks, h with
  | [], h => cases h
  | ⟨none, _, _⟩ :: _, h => cases h
  | ⟨some y, ea, kp⟩ :: ks, h =>
    obtain ⟨h1, h2⟩ := Bool.and_eq_true_iff.mp (show (chkE I a ea && chkK I r ks) = true from h)
    refine wkK (pk_cons (ha I X Wx G o ea h1) (hr I X Wx G o ks h2)) fun σ H Q ⟨b, e, fl, hb, E, h⟩ => ?_
    rw [evA_cons] at h
    refine ⟨b, e, fl, hb, E, (outG.bnd0 h).mono ?_⟩
    rintro x H1 ⟨wx, e1, _, E1, h1⟩
    refine ⟨b, e1, fl ++ [(x, wx)], hb, E1, (outG.bnd [(x, wx)] h1).mono ?_⟩
    rintro vs H2 ⟨ws, e2, hl, E2, h2⟩
    have h2 : outA Wx b σ fl Q (.ok (wx :: ws) e2) := h2
    refine h2 (x :: vs) H2 (by simp [hl]) ?_
    rw [List.append_assoc] at E2
    exact E2
theorem s_tup (es : Ex) (hes : SA g n es) : SE g n (.tup es) := by
  intro I X Wx G o e h
  cases e with
  | Tuple xs k p =>
    have h : chkA I es xs = true := h
    refine wkE (pe_tup (hes I X Wx G o xs h)) fun σ H Q ⟨b, e, fl, hb, E, h⟩ => ?_
    rw [evE_tup] at h
    refine ⟨b, e, fl, hb, E, (outG.bnd0 h).mono ?_⟩
    rintro vs H1 ⟨ws, e1, hl, ⟨F, O, E1⟩, h1⟩
    cases c1 : e1.taks ws with
    | none => rw [c1] at h1; exact h1.elim
    | some q =>
      obtain ⟨ds, e2⟩ := q
      rw [c1] at h1
      have h1 : outE Wx b σ fl Q (if ds.length ≤ lim then .ok (.d (.tup ds)) e2 else .bad) := h1
      obtain ⟨F', O', E2, s, r, _⟩ := E1.taks hl c1
      by_cases hz : ds.length ≤ lim
      · rw [if_pos hz] at h1
        refine ⟨by rw [← r.length, ← lim_eq]; exact hz, fun p hp => h1 _ _ True.intro ⟨_, _, E2.pushT hp r⟩⟩
      · rw [if_neg hz] at h1; exact h1.elim
  | _ => cases h
theorem s_lst (es : Ex) (hes : SA g n es) : SE g n (.lst es) := by
  intro I X Wx G o e h
  cases e with
  | List xs p =>
    have h : chkA I es xs = true := h
    refine wkE (pe_lst (hes I X Wx G o xs h)) fun σ H Q ⟨b, e, fl, hb, E, h⟩ => ?_
    rw [evE_lst] at h
    refine ⟨b, e, fl, hb, E, (outG.bnd0 h).mono ?_⟩
    rintro vs H1 ⟨ws, e1, hl, ⟨F, O, E1⟩, h1⟩
    cases c1 : e1.taks ws with
    | none => rw [c1] at h1; exact h1.elim
    | some q =>
      obtain ⟨ds, e2⟩ := q
      rw [c1] at h1
      have h1 : outE Wx b σ fl Q (if ds.length ≤ lim then .ok (.o (.lst ds)) e2 else .bad) := h1
      obtain ⟨F', O', E2, s, r, _⟩ := E1.taks hl c1
      by_cases hz : ds.length ≤ lim
      · rw [if_pos hz] at h1
        refine ⟨by rw [← r.length, ← lim_eq]; exact hz, fun p hp => h1 _ _ True.intro ⟨_, _, E2.pushO hp ⟨vs, upd_same, r⟩⟩⟩
      · rw [if_neg hz] at h1; exact h1.elim
  | _ => cases h
theorem s_no : SO g n .no := by
  intro I X Wx G o e h
  cases e with
  | none =>
    refine wkO po_none fun σ H Q ⟨b, e, fl, hb, E, h⟩ => ?_
    have h : outO Wx b σ fl Q (.ok none e) := h
    exact h none H rfl (by simpa using E)
  | some _ => cases h
/-- an optional part that stands there -/
theorem so_of {a : Ex} (ha : SE g n a) (hk : ∀ I o, chkO I a o = true → ∃ e, o = some e ∧ chkE I a e = true) (hv : ∀ cal e, evO cal a e = bO (evE cal a) e) : SO g n a := by
  intro I X Wx G o e h
  obtain ⟨ea, rfl, h1⟩ := hk I e h
  refine wkO (po_some (ha I X Wx G o ea h1)) fun σ H Q ⟨b, e, fl, hb, E, h⟩ => ?_
  rw [hv] at h
  refine ⟨b, e, fl, hb, E, (outG.bnd0 h).mono ?_⟩
  rintro x H1 ⟨wx, e1, _, ⟨F, O, E1⟩, h1⟩
  cases c1 : e1.cur wx with
  | none => rw [c1] at h1; exact h1.elim
  | some q =>
    rw [c1] at h1
    have hx : Has b F H1 q x := E1.has (j := fl.length) (w := wx) (by simp) c1
    cases q with
    | int i =>
      have h1 : outO Wx b σ fl Q (.ok (some i) e1) := h1
      exact ⟨i, hx.int, h1 (some i) H1 rfl ⟨F, O, by simpa using E1.drop⟩⟩
    | _ => exact h1.elim
theorem s_sl (a lo hi : Ex) (ha : SE g n a) (hl : SO g n lo) (hh : SO g n hi) : SE g n (.sl a lo hi) := by
  intro I X Wx G o e h
  cases e with
  | Subscript ea es p =>
    cases es with
    | Slice el eh st p2 =>
      cases st with
      | some _ => cases h
      | none =>
        have h : (chkE I a ea && (chkO I lo el && chkO I hi eh)) = true := h
        simp only [Bool.and_eq_true] at h
        obtain ⟨h1, h2, h3⟩ := h
        obtain ⟨r, h4, h5⟩ := sl_ok (X := X)
        refine wkE (pe_slice h4 (ha I X Wx G o ea h1) (hl I X Wx G o el h2) (hh I X Wx G o eh h3)) fun σ H Q ⟨b, e, fl, hb, E, h⟩ => ?_
        rw [evE_sl] at h
        refine ⟨b, e, fl, hb, E, (outG.bnd0 h).mono ?_⟩
        rintro x H1 ⟨wx, e1, _, E1, h1⟩
        refine ⟨b, e1, fl ++ [(x, wx)], hb, E1, (outG.bnd [(x, wx)] h1).mono ?_⟩
        rintro l H2 ⟨l', e2, rfl, E2, h2⟩
        refine ⟨b, e2, fl ++ [(x, wx)], hb, by simpa using E2, (outG.bnd [(x, wx)] h2).mono ?_⟩
        rintro u H3 ⟨u', e3, rfl, ⟨F, O, E3⟩, h3⟩
        have E3 := E3.drop
        cases c1 : e3.cur wx with
        | none => rw [c1] at h3; exact h3.elim
        | some q =>
          rw [c1] at h3
          obtain ⟨w, q1, q2⟩ := outE_ofO h3
          have hx : Has b F H3 q x := E3.has (j := fl.length) (w := wx) (by simp) c1
          exact h5 b F O σ H3 e3 fl x q l u w Q (o.bok hb) E3.drop hx q1 q2
    | _ => cases h
  | _ => cases h
end
end Mi

set_option Elab.async false
set_option linter.all false
set_option maxRecDepth 100000
set_option maxHeartbeats 1000000
/-! Mi11: chains, built-in functions and methods, calls, isinstance. -/
namespace Mi
open PySem L2
section
variable {g : Gi} {n : Nat}
theorem chain_rd {Wx : Kx} {X : Cx} {I : Inf} (o : XO g I n Wx X) {op op' : CmpOp} {a c d : Ex} {r r' : R2} (r2 : Op2 X (fun p q => oBl (opCmp op p q)) r) (r4 : Op2 X (fun p q => oBl (opCmp op' p q)) r') {σ : L2.St} {H : Hp} {Q : VK}
    (h : rdE g n Wx (.chain op op' a c d) σ H Q) : tChain r r' (rdE g n Wx a) (rdE g n Wx c) (rdE g n Wx d) σ H Q := by
  obtain ⟨b, e, fl, hb, E, h⟩ := h
  rw [evE_chain] at h
  refine ⟨b, e, fl, hb, E, (outG.bnd0 h).mono ?_⟩
  rintro x H1 ⟨wx, e1, _, E1, h1⟩
  refine ⟨b, e1, fl ++ [(x, wx)], hb, E1, (outG.bnd [(x, wx)] h1).mono ?_⟩
  rintro y H2 ⟨wy, e2, _, ⟨F, O, E2⟩, h2⟩
  cases c1 : e2.cur wx with
  | none => rw [c1] at h2; exact h2.elim
  | some q =>
    cases c2 : e2.cur wy with
    | none => rw [c1, c2] at h2; exact h2.elim
    | some q' =>
      rw [c1, c2] at h2
      have hx : Has b F H2 q x := E2.has (j := fl.length) (w := wx) (by simp) c1
      have hy : Has b F H2 q' y := E2.has (j := fl.length + 1) (w := wy) (by simp) c2
      cases c3 : opCmp op q q' with
      | none =>
        have h2 : outE Wx b σ fl Q (match opCmp op q q' with
          | some true => (evE (callN g.T n) d e2).bnd fun z e3 => (match e3.cur wy, e3.cur z with
            | some q', some r => R.ofO ((opCmp op' q' r).map fun c => .d (.bl c)) e3
            | _, _ => .bad)
          | some false => .ok (.d (.bl false)) e2
          | none => .bad) := h2
        rw [c3] at h2
        exact h2.elim
      | some k =>
        have h2 : outE Wx b σ fl Q (match opCmp op q q' with
          | some true => (evE (callN g.T n) d e2).bnd fun z e3 => (match e3.cur wy, e3.cur z with
            | some q', some r => R.ofO ((opCmp op' q' r).map fun c => .d (.bl c)) e3
            | _, _ => .bad)
          | some false => .ok (.d (.bl false)) e2
          | none => .bad) := h2
        rw [c3] at h2
        refine r2 b F O σ H2 e2 _ x y q q' (.d (.bl k)) _ (o.bok hb) E2 hx hy (by show oBl (opCmp op q q') = _; rw [c3]; rfl) ?_
        rintro z H3 ⟨F3, O3, E3⟩
        have hz : z = .bl k := E3.flr (fl.length + 2) z (.d (.bl k)) (by simp)
        refine ⟨k, hz, ?_⟩
        have E3' : ER b F3 O3 σ H3 e2 (fl ++ [(x, wx)] ++ [(y, wy)]) := E3.drop
        cases k with
        | true =>
          rw [if_pos rfl]
          refine ⟨b, e2, fl ++ [(x, wx), (y, wy)], hb, ⟨F3, O3, by simpa using E3'⟩, (outG.bnd [(x, wx), (y, wy)] h2).mono ?_⟩
          rintro w' H4 ⟨wz, e4, _, ⟨F4, O4, E4⟩, h4⟩
          cases d1 : e4.cur wy with
          | none => rw [d1] at h4; exact h4.elim
          | some p' =>
            cases d2 : e4.cur wz with
            | none => rw [d1, d2] at h4; exact h4.elim
            | some p'' =>
              rw [d1, d2] at h4
              obtain ⟨w, q1, q2⟩ := outE_ofO h4
              have hy' : Has b F4 H4 p' y := E4.has (j := fl.length + 1) (w := wy) (by simp) d1
              have hz' : Has b F4 H4 p'' w' := E4.has (j := fl.length + 2) (w := wz) (by simp) d2
              have E5 : ER b F4 O4 σ H4 e4 (fl ++ ([(x, wx), (y, wy)] ++ [(w', wz)])) := by simpa using E4
              exact r4 b F4 O4 σ H4 e4 fl y w' p' p'' w Q (o.bok hb) E5.drop hy' hz' q1 q2
        | false =>
          rw [if_neg Bool.false_ne_true]
          have h2 : outE Wx b σ fl Q (.ok (.d (.bl false)) e2) := h2
          have E4 : ER b F3 O3 σ H3 e2 (fl ++ ([(x, wx)] ++ [(y, wy)])) := by simpa using E3'
          exact h2 _ H3 True.intro ⟨F3, O3, E4.drop.pushD rfl⟩
theorem s_chain (op op' : CmpOp) (a c d : Ex) (ha : SE g n a) (hc : SE g n c) (hd : SE g n d) : SE g n (.chain op op' a c d) := by
  intro I X Wx G o e h
  cases e with
  | Compare ea ops es p =>
    match ops, es, h with
    | [o1, o2], [ec, ed], h =>
      have h : ((decide (op = o1) && decide (op' = o2)) && (!behindInMarks op' ed && (chkE I a ea && (chkE I c ec && chkE I d ed)))) = true := h
      simp only [Bool.and_eq_true, decide_eq_true_eq, Bool.not_eq_true'] at h
      obtain ⟨⟨rfl, rfl⟩, hm, h1, h2, h3⟩ := h
      obtain ⟨r, r1, r2⟩ := cmp_ok (X := X) o.units op
      obtain ⟨r', r3, r4⟩ := cmp_ok (X := X) o.units op'
      exact wkE (pe_chain r1 r3 (ha I X Wx G o ea h1) (hc I X Wx G o ec h2) (hd I X Wx G o ed h3) hm) fun σ H Q q => chain_rd o r2 r4 q
    | [], _, h => cases h
    | [_], [_], h => cases h
    | [_], [], h => cases h
    | [_], _ :: _ :: _, h => cases h
    | _ :: _ :: _ :: _, _, h => cases h
    | [_, _], [], h => cases h
    | [_, _], [_], h => cases h
    | [_, _], _ :: _ :: _ :: _, h => cases h
  | _ => cases h
theorem pe_false {X : Cx} {e : Expr} : PE X e (fun _ _ _ => False) := ⟨fun _ _ _ _ _ _ h => h.elim⟩
theorem curs_has {b : Bs} {F : Hp} {O : Gh} {σ : L2.St} {H : Hp} {e : Env} {fl : List (V × W)} : ∀ {ws : List W} {vs : List V} {ds : List D} (pre : List (V × W)), ER b F O σ H e (fl ++ pre ++ vs.zip ws) → vs.length = ws.length → e.curs ws = some ds → HasL b F H ds vs
  | [], [], ds, pre, _, _, h => by cases h; rfl
  | [], _ :: _, _, _, _, h, _ => by cases h
  | _ :: _, [], _, _, _, h, _ => by cases h
  | w :: ws, v :: vs, ds, pre, E, hl, h => by
    unfold Env.curs at h
    cases c1 : e.cur w with
    | none => rw [c1] at h; cases h
    | some d =>
      cases c2 : e.curs ws with
      | none => rw [c1, c2] at h; cases h
      | some ds' =>
        rw [c1, c2] at h
        cases h
        refine ⟨v, vs, rfl, E.has (j := (fl ++ pre).length) (w := w) (by simp) c1, ?_⟩
        exact curs_has (pre ++ [(v, w)]) (by simpa using E) (by simpa using hl) c2
theorem boot_bi (c : Bi) : bootBuiltins (biN c) = some (biV c) := by
  cases c <;> decide +kernel
theorem s_bi (c : Bi) (es : Ex) (hes : SA g n es) : SE g n (.bi c es) := by
  intro I X Wx G o e h
  cases e with
  | Call f xs ks p =>
    cases f with
    | Name x px =>
      cases ks with
      | cons _ _ => cases h
      | nil =>
        have h : (decide (x = biN c) && (frB I x && chkA I es xs)) = true := h
        simp only [Bool.and_eq_true, decide_eq_true_eq] at h
        obtain ⟨rfl, h1, h2⟩ := h
        obtain ⟨q1, q2, q3, q4⟩ := o.free G h1
        obtain ⟨r, r1, r2⟩ := bi_ok (X := X) c
        have rd : ∀ {σ : L2.St} {H : Hp} {Q : VK}, rdE g n Wx (.bi c es) σ H Q → tCB r (rdA g n Wx es) σ H Q := fun {σ H Q} ⟨b, e, fl, hb, E, h⟩ => by
          rw [evE_bi] at h
          refine ⟨b, e, fl, hb, E, (outG.bnd0 h).mono ?_⟩
          rintro vs H1 ⟨ws, e1, hl, ⟨F, O, E1⟩, h1⟩
          cases c1 : e1.curs ws with
          | none => rw [c1] at h1; exact h1.elim
          | some ds =>
            rw [c1] at h1
            obtain ⟨w, t1, t2⟩ := outE_ofO h1
            exact r2 b F O σ H1 e1 fl vs ds w Q (o.bok hb) E1.drop (curs_has [] (by simpa using E1) hl c1) t1 t2
        rcases chkA_shape h2 with ⟨rfl, rfl⟩ | ⟨a, r', ea, es', rfl, rfl, h3, h4⟩
        · -- no argument
          have nl : ∀ {σ : L2.St} {H : Hp} {Q : VK}, rdE g n Wx (.bi c .nil) σ H Q → tCB r tNil σ H Q := fun {σ H Q} q => by
            obtain ⟨b, e, fl, hb, E, h⟩ := rd q
            have h : outA Wx b σ fl (fun vs H1 => r vs H1 Q) (.ok [] e) := h
            exact h [] H rfl (by simpa using E)
          cases c with
          | set => exact wkE (pe_callTy0 r1 q1 q2 (boot_bi .set) q4 q3) fun σ H Q q => nl q
          | int => exact wkE (pe_callTy0 r1 q1 q2 (boot_bi .int) q4 q3) fun σ H Q q => nl q
          | tuple => exact wkE (pe_callTy0 r1 q1 q2 (boot_bi .tuple) q4 q3) fun σ H Q q => nl q
          | list => exact wkE (pe_callTy0 r1 q1 q2 (boot_bi .list) q4 q3) fun σ H Q q => nl q
          | len =>
            refine wkE pe_false fun σ H Q ⟨b, e, fl, hb, E, h⟩ => ?_
            exact h
          | abs =>
            refine wkE pe_false fun σ H Q ⟨b, e, fl, hb, E, h⟩ => ?_
            exact h
        · have hA := hes I X Wx G o _ h2
          have s1 : starEach (ea :: es') X.env = (false, eval ea X.env) :: starEach es' X.env := star_cons (chkE_star h3)
          have s2 : (backTo p (starEach es' X.env)).any (·.1) = false := star_any (chkA_star h4)
          cases c with
          | len => exact wkE (pe_callB (id := "len") r1 q1 q2 (boot_bi .len) hA q4 q3 s1 s2) fun σ H Q q => rd q
          | abs => exact wkE (pe_callB (id := "abs") r1 q1 q2 (boot_bi .abs) hA q4 q3 s1 s2) fun σ H Q q => rd q
          | int => exact wkE (pe_callTy (T := "int") r1 q1 q2 (boot_bi .int) hA q4 q3 s1 s2) fun σ H Q q => rd q
          | tuple => exact wkE (pe_callTy (T := "tuple") r1 q1 q2 (boot_bi .tuple) hA q4 q3 s1 s2) fun σ H Q q => rd q
          | list => exact wkE (pe_callTy (T := "list") r1 q1 q2 (boot_bi .list) hA q4 q3 s1 s2) fun σ H Q q => rd q
          | set => exact wkE (pe_callTy (T := "set") r1 q1 q2 (boot_bi .set) hA q4 q3 s1 s2) fun σ H Q q => rd q
    | _ => cases h
  | _ => cases h
/-! ### calls -/
theorem pe_call0S {X : Cx} {CX : CXT} {k : Nat} {f : Addr} {fd : FuncData} {ps : List Str} {sp : Sp} {dvs : List V} {ds : List Value} {E : L2.St → XK} {x : Str} {p pos : Pos}
    (F : FnOk X.prog X.w X.K X.mg X.base CX k f fd ps sp) (hr : Room k X.A) (hg : Gl X x) (hm : X.mg x = some (.ref f)) (hk : PySem.W.keepIn X.K (.ref f) = true) (hb : Binds X.K fd ps ds) (hd : Vals dvs ds) (hx : ∀ σ, PassesAt CX X σ (E σ))
    (hdb : (x == ("__debug__" : Str)) = false) : PE X (.Call (.Name x p) [] [] pos) (tCallSD sp dvs E tNil) := by
  refine ⟨fun pins s σ H Q I h => ?_⟩
  refine wpAny_Call_Name_kw (ld_glob I hg hm ?_ hdb)
  exact PySem.W.callWith_K0 I.kIn hk (run_fnSD (us := []) (vs := []) F hr hb hd (hx σ) I .nil h)
theorem hand_app {e : Env} : ∀ {ws : List W} {as : List (D × Bool)} {ds : List D}, e.hand ws = some as → e.hand (ws ++ ds.map .d) = some (as ++ ds.map fun d => (d, false))
  | [], as, [], h => by cases h; rfl
  | [], as, d :: ds, h => by
    cases h
    have ih : e.hand (([] : List W) ++ ds.map .d) = some (([] : List (D × Bool)) ++ ds.map fun d => (d, false)) := hand_app (ws := []) (as := []) rfl
    show (match e.see (.d d), e.hand (ds.map .d) with
      | some p, some ps => if p.2 && (ds.map W.d).any (sameKey e (.d d)) then none else some (p :: ps)
      | _, _ => none) = _
    have ih : e.hand (ds.map .d) = some (ds.map fun d => (d, false)) := ih
    rw [ih]
    rfl
  | w :: ws, as, ds, h => by
    obtain ⟨p, ps, rfl, h1, h2, h3⟩ := hand_cons h
    have ih := hand_app (ds := ds) h2
    show (match e.see w, e.hand (ws ++ ds.map .d) with
      | some p, some ps => if p.2 && (ws ++ ds.map W.d).any (sameKey e w) then none else some (p :: ps)
      | _, _ => none) = _
    rw [h1, ih]
    show (if p.2 && (ws ++ ds.map W.d).any (sameKey e w) then none else some (p :: (ps ++ ds.map fun d => (d, false)))) = _
    have : (p.2 && (ws ++ ds.map W.d).any (sameKey e w)) = false := by
      cases hp : p.2 with
      | false => rfl
      | true =>
        rw [Bool.true_and]
        apply Bool.eq_false_iff.mpr
        intro q
        obtain ⟨u, hu, q⟩ := List.any_eq_true.mp q
        rcases List.mem_append.mp hu with hu | hu
        · rw [h3 hp u hu] at q
          cases q
        · obtain ⟨d, _, rfl⟩ := List.mem_map.mp hu
          have : sameKey e w (.d d) = false := by
            unfold sameKey
            have : e.okey (.d d) = none := rfl
            rw [this]
            cases e.okey w <;> rfl
          rw [this] at q
          cases q
    rw [this]
    rfl
theorem back_app {ds : List D} : ∀ {e : Env} {ws : List W} {as out : List (D × Bool)}, as.length = ws.length → out.length = ws.length + ds.length → e.back (ws ++ ds.map .d) (as ++ ds.map fun d => (d, false)) out = e.back ws as out
  | e, [], [], out, _, _ => by
    have : ∀ (ds : List D) (as out : List (D × Bool)) (e : Env), e.back (ds.map .d) as out = e := by
      intro ds
      induction ds with
      | nil => intro as out e; cases as <;> cases out <;> rfl
      | cons d ds ih =>
        intro as out e
        cases as with
        | nil => cases out <;> rfl
        | cons a as =>
          cases out with
          | nil => rfl
          | cons p out => exact ih as out e
    rw [List.nil_append, this]
    cases out <;> rfl
  | e, [], _ :: _, _, h, _ => by cases h
  | e, _ :: _, [], _, h, _ => by cases h
  | e, w :: ws, a :: as, [], _, h => by simp at h; omega
  | e, w :: ws, a :: as, p :: out, h1, h2 => by
    have k1 : as.length = ws.length := by simpa using h1
    have k2 : out.length = ws.length + ds.length := by simp at h2; omega
    cases w with
    | s i => exact back_app (e := if a.2 then e.put i p else e) k1 k2
    | d _ =>
      show e.back (ws ++ ds.map .d) (as ++ ds.map fun d => (d, false)) out = e.back ws as out
      exact back_app k1 k2
    | o _ =>
      show e.back (ws ++ ds.map .d) (as ++ ds.map fun d => (d, false)) out = e.back ws as out
      exact back_app k1 k2
theorem ER.pushDs {b : Bs} {F : Hp} {O : Gh} {σ : L2.St} {H : Hp} {e : Env} : ∀ {ds : List D} {dvs : List V} {fl : List (V × W)}, ER b F O σ H e fl → RepL b.K F ds dvs → ER b F O σ H e (fl ++ dvs.zip (ds.map .d))
  | [], dvs, fl, E, r => by cases (show dvs = [] from r); simpa using E
  | d :: ds, dvs, fl, E, ⟨v, r, e1, h, t⟩ => by
    subst e1
    have := ER.pushDs (E.pushD h) t
    simpa using this
theorem Own.re {b b' : Bs} {F H : Hp} {a : Addr} {d : D} (h : Own b F H a d) (hK : b'.K = b.K) (hP : b'.P = b.P) (hw : b'.w = b.w) : Own b' F H a d := by
  cases d with
  | lst ds => obtain ⟨vs, h, r⟩ := h; exact ⟨vs, h, by rw [hK]; exact r⟩
  | ins c ns ds => obtain ⟨dx, gs, h, q, r⟩ := h; exact ⟨dx, gs, by rw [hK]; exact h, q, by rw [hK]; exact r⟩
  | dct ks ds => obtain ⟨kvs, h, q, r⟩ := h; exact ⟨kvs, h, q, by rw [hK]; exact r⟩
  | kset ks =>
    have h : H a = Option.some (SetK b.P b.w a (fun k => keyIn k ks) ks.length) := h
    rw [← hP, ← hw] at h
    exact h
  | _ => exact h.elim
/-- a call's promise is what the caller gives -/
theorem call_rd {Wx : Kx} {b : Bs} {F : Hp} {O : Gh} {σ : L2.St} {H : Hp} {e : Env} {fl : List (V × W)} {ws : List W} {vs dvs : List V} {as : List (D × Bool)} {Q : VK} {j : Nat} {fn : Fn} (hb : BokG g b)
    (E : ER b F O σ H e (fl ++ vs.zip ws)) (hl : vs.length = ws.length) (hh : e.hand ws = some as) (hT : g.T j = some fn) (hn : as.length + (fn.pads as.length).length = fn.np) (hd : RepL b.K F (fn.pads as.length) dvs)
    (h : outE Wx b σ fl Q (match callN g.T n j as with
      | .ok d own out => .ok (if own then .o d else .d d) (e.back ws as out)
      | .exc x out => .exc x (e.back ws as out)
      | .bad => .bad)) : spM g n j (vs ++ dvs) H Q (Wx σ) := by
  obtain ⟨bK, bP, bw⟩ := hb
  have hla := hand_len hh
  have E1 := E.pushDs hd
  have hdl := hd.length
  have E1 : ER b F O σ H e (fl ++ (vs ++ dvs).zip (ws ++ (fn.pads as.length).map W.d)) := by
    rw [List.zip_append hl, ← List.append_assoc]
    exact E1
  have hl1 : (vs ++ dvs).length = (ws ++ (fn.pads as.length).map W.d).length := by simp [hl, hdl]
  have hh1 := hand_app (ds := fn.pads as.length) hh
  have hfull : fn.full as = as ++ (fn.pads as.length).map fun d => (d, false) := rfl
  have P := E1.pre hl1 hh1
  have Pg : Pre (g.b (adrs (vs ++ dvs) (fn.full as)) F H) (fn.full as) (vs ++ dvs) := by
    rw [hfull]
    unfold Gi.b
    rw [← bK, ← bP, ← bw]
    exact P
  refine ⟨F, fn.full as, adrs (vs ++ dvs) (fn.full as), Pg, fun f hf => ?_, ?_⟩
  · rw [hT] at hf
    cases hf
    rw [hfull]
    simp
    omega
  · rw [callN_full hT] at h
    have post : ∀ {F' H' : Hp} {out : List (D × Bool)}, Post (g.b (adrs (vs ++ dvs) (fn.full as)) F H) F' H' out → ∃ O', ER b F' O' σ H' (e.back ws as out) fl ∧ ∀ c, H c = none → O' c = none := fun {F' H' out} p => by
      have p' : Post ⟨b.K, b.P, b.w, adrs (vs ++ dvs) (fn.full as), F, H⟩ F' H' out := by
        unfold Gi.b at p
        rw [bK, bP, bw]
        exact p
      obtain ⟨O', E2, hO⟩ := E1.called hl1 hh1 p'
      refine ⟨O', ?_, hO⟩
      have lo : out.length = ws.length + (fn.pads as.length).length := by
        rw [p.len]
        show (adrs (vs ++ dvs) (fn.full as)).length = _
        rw [adrs_length (show (fn.full as).length = (vs ++ dvs).length from P.len)]
        simp [hl, hdl]
      rw [← back_app hla lo]
      exact E2
    cases c : callA g.T n j (fn.full as) with
    | ok d own out =>
      rw [c] at h
      intro F' H' v p r
      obtain ⟨O', E2, hO⟩ := post p
      have h : outE Wx b σ fl Q (.ok (if own then .o d else .d d) (e.back ws as out)) := h
      refine h v H' True.intro ?_
      cases own with
      | false =>
        have r : Rep g.K F' d v := r
        exact ⟨F', O', E2.pushD (by rw [bK]; exact r)⟩
      | true =>
        obtain ⟨a, rfl, h0, hF, hown⟩ := r
        have h0 : H a = none := h0
        exact ⟨F', _, E2.pushR (hO a h0) hF (hown.re bK bP bw) (E.new h0).2.2⟩
    | exc x out =>
      rw [c] at h
      intro F' H' cls dd p r
      obtain ⟨O', E2, hO⟩ := post p
      have h : outE Wx b σ fl Q (.exc x (e.back ws as out)) := h
      refine h H' cls dd ⟨F', O', E2, ?_⟩
      cases x with
      | exn cn ns xs =>
        have r : cls = .ref (He.ga g.K cn) ∧ ((ns = [] ∧ xs = [] ∧ dd = none) ∨ ∃ dx gs, dd = some dx ∧ F' dx = some (.xd gs) ∧ gs.map (·.1) = ns ∧ RepL g.K F' xs (gs.map (·.2))) := r
        rw [← bK] at r
        exact r
      | _ => exact r.elim
    | bad =>
      rw [c] at h
      exact h.elim
theorem s_call (j : Nat) (es : Ex) (hes : SA g n es) : SE g n (.call j es) := by
  intro I X Wx G o e h
  cases e with
  | Call f xs ks p =>
    cases f with
    | Name x px =>
      cases ks with
      | cons _ _ => cases h
      | nil =>
        have h : (gloB I x && (chkA I es xs && (match lookN I.nm x with | some (.fn k lo hi _) => decide (j = k) && (decide (lo ≤ xs.length) && decide (xs.length ≤ hi)) | _ => false))) = true := h
        simp only [Bool.and_eq_true] at h
        obtain ⟨h1, h2, h3⟩ := h
        split at h3
        · rename_i k lo hi ps hl
          simp only [Bool.and_eq_true, decide_eq_true_eq] at h3
          obtain ⟨rfl, hlo, hhi⟩ := h3
          obtain ⟨q1, q2, q3⟩ := o.glo h1
          obtain ⟨f, fd, fn, m1, m2, m3, m4, m5, _⟩ := G.fn x j lo hi ps hl
          have F : FnOk X.prog X.w X.K X.mg X.base g.CX n f fd ps (spM g n j) := by rw [o.hP, o.hw, o.hK, o.hm, o.hb]; exact m4
          have hm : X.mg x = some (.ref f) := by rw [o.hm]; exact m1
          have hk : PySem.W.keepIn X.K (.ref f) = true := by rw [o.hK]; exact m2
          obtain ⟨hnp, dvs, ds, b1, b2, b3⟩ := m5 xs.length hlo hhi
          have b1 : Binds X.K fd ps ds := by rw [o.hK]; exact b1
          have len : ∀ {m : Ex} {es : List Expr} {cal : Cal} {e e1 : Env} {ws : List W}, chkA I m es = true → evA cal m e = .ok ws e1 → ws.length = es.length := by
            intro m es
            induction es generalizing m with
            | nil =>
              intro cal e e1 ws hc he
              rcases chkA_shape hc with ⟨rfl, _⟩ | ⟨_, _, _, _, _, h, _⟩
              · cases he; rfl
              · cases h
            | cons y ys ih =>
              intro cal e e1 ws hc he
              rcases chkA_shape hc with ⟨_, h⟩ | ⟨a, r, y', ys', rfl, h, h3, h4⟩
              · cases h
              · cases h
                rw [evA_cons] at he
                cases c1 : evE cal a e with
                | ok w e2 =>
                  rw [c1] at he
                  have he : ((evA cal r e2).bnd fun ws e2 => .ok (w :: ws) e2) = .ok ws e1 := he
                  cases c2 : evA cal r e2 with
                  | ok ws' e3 =>
                    rw [c2] at he
                    cases he
                    show ws'.length + 1 = ys.length + 1
                    rw [ih h4 c2]
                  | exc _ _ => rw [c2] at he; cases he
                  | bad => rw [c2] at he; cases he
                | exc _ _ => rw [c1] at he; cases he
                | bad => rw [c1] at he; cases he
          have rd : ∀ {σ : L2.St} {H : Hp} {Q : VK}, rdE g n Wx (.call j es) σ H Q → tCallSD (spM g n j) dvs Wx (rdA g n Wx es) σ H Q := fun {σ H Q} ⟨b, e, fl, hb, E, h⟩ => by
            rw [evE_call] at h
            refine ⟨b, e, fl, hb, E, ?_⟩
            cases ce : evA (callN g.T n) es e with
            | ok ws e1 =>
              rw [ce] at h
              rintro vs H1 hl ⟨F1, O1, E1⟩
              have h : outE Wx b σ fl Q (match e1.hand ws with
                | some as => (match callN g.T n j as with
                  | .ok d own out => .ok (if own then .o d else .d d) (e1.back ws as out)
                  | .exc x out => .exc x (e1.back ws as out)
                  | .bad => .bad)
                | none => .bad) := h
              cases hh : e1.hand ws with
              | none => rw [hh] at h; exact h.elim
              | some as =>
                rw [hh] at h
                have la : as.length = xs.length := (hand_len hh).trans (len h2 ce)
                exact call_rd hb E1 hl hh m3 (by rw [la]; exact hnp) (by rw [la, hb.1]; exact b3 F1) h
            | exc x e1 => rw [ce] at h; exact h
            | bad => rw [ce] at h; exact h
          rcases chkA_shape h2 with ⟨rfl, rfl⟩ | ⟨a, r', ea, es', rfl, rfl, h3, h4⟩
          · refine wkE (pe_call0S F o.room q1 hm hk b1 b2 o.pass q2) fun σ H Q q => ?_
            obtain ⟨b, e, fl, hb, E, h⟩ := rd q
            have h : outA Wx b σ fl (fun vs H1 => spM g n j (vs ++ dvs) H1 Q (Wx σ)) (.ok [] e) := h
            exact h [] H rfl (by simpa using E)
          · exact wkE (pe_callSD F o.room q1 hm hk b1 b2 o.pass (hes I X Wx G o _ h2) q2 (star_cons (chkE_star h3)) (star_any (chkA_star h4))) fun σ H Q q => rd q
        · cases h3
    | _ => cases h
  | _ => cases h
end
theorem bnd_okA {α β : Type} {r : R α} {f : α → Env → R β} {y : β} {e : Env} (h : r.bnd f = .ok y e) : ∃ a e1, r = .ok a e1 ∧ f a e1 = .ok y e := by
  cases r with
  | ok a e1 => exact ⟨a, e1, rfl, h⟩
  | exc _ _ => cases h
  | bad => cases h
/-! ### calls with keywords -/
def tCallKS (n m : Nat) (sp : Sp) (gV : List V → List V → List V) (E : L2.St → XK) (t tk : TA) : TE := fun σ H Q => t σ H fun vs H1 => tk σ H1 fun zs H2 => vs.length = n ∧ zs.length = m ∧ sp (gV vs zs) H2 Q (E σ)
section
variable {X : Cx} {CX : CXT} {k m : Nat} {f : Addr} {fd : FuncData} {ps ks : List Str} {sp : Sp} {E : L2.St → XK} {x : Str} {p pos : Pos} {es : List Expr} {kws : List Keyword} {t tk : TA} {gf : List Value → List Value → List Value} {gV : List V → List V → List V}
theorem run_fnKS {pins : List (Addr × Obj)} {σ : L2.St} {H : Hp} {s : Shared} {Q : VK} {us ws : List Value} {vs zs : List V} (F : FnOk X.prog X.w X.K X.mg X.base CX k f fd ps sp) (hr : Room k X.A) (hb : KBn X.K fd ps m ks gf gV) (hx : PassesAt CX X σ (E σ))
    (I : Inv X pins σ H s) (r : Vals vs us) (rz : Vals zs ws) (l1 : vs.length = m) (l2 : zs.length = ks.length) (h : sp (gV vs zs) H Q (E σ)) : wpAny (model X.prog X.w) X.A (call (.ref f) us (ks.zip ws)) (EP X pins σ Q) X.xe s := by
  have r2 := hb.rel r rz
  refine wpAny_call (codeAny_mono (F.run X.A X.stack s H ⟨us, ks.zip ws⟩ (gf us ws) (gV vs zs) Q (E σ) hr I.env0 (hb.to s us ws I.kIn (r.length.symm.trans l1) (rz.length.symm.trans l2)) r2 h) fun r s' hq => ?_)
  cases r with
  | error e => exact hx pins H s e s' I hq
  | ok fl =>
    cases fl with
    | ret u => exact I.after hq
    | next => exact False.elim hq
    | brk => exact False.elim hq
    | cont => exact False.elim hq
theorem kw_facts {I : Inf} {env : PySem.Env} : ∀ {kws : List Keyword} {mx : Ex}, chkK I mx kws = true → (backToKw pos (keywordEach kws env)).all (·.1.isSome) = true ∧ (backToKw pos (keywordEach kws env)).filterMap (·.1) = kwNames kws ∧ (backToKw pos (keywordEach kws env)).any (·.1.isNone) = false
  | [], _, _ => ⟨rfl, rfl, rfl⟩
  | ⟨o, e, kp⟩ :: kws, mx, h => by
    cases mx with
    | cons a r =>
      cases o with
      | none => cases h
      | some y =>
        obtain ⟨_, h2⟩ := Bool.and_eq_true_iff.mp (show (chkE I a e && chkK I r kws) = true from h)
        obtain ⟨q1, q2, q3⟩ := kw_facts (mx := r) h2
        refine ⟨?_, ?_, ?_⟩
        · show (true && (backToKw pos (keywordEach kws env)).all (·.1.isSome)) = true
          rw [q1]; rfl
        · show y :: (backToKw pos (keywordEach kws env)).filterMap (·.1) = y :: kwNames kws
          rw [q2]
        · show (false || (backToKw pos (keywordEach kws env)).any (·.1.isNone)) = false
          rw [q3]; rfl
    | nil => cases h
    | k d => cases d <;> cases h
    | _ => cases h
theorem pe_callKS (F : FnOk X.prog X.w X.K X.mg X.base CX k f fd ps sp) (hr : Room k X.A) (hg : Gl X x) (hm : X.mg x = some (.ref f)) (hk : PySem.W.keepIn X.K (.ref f) = true) (hb : KBn X.K fd ps m ks gf gV) (hx : ∀ σ, PassesAt CX X σ (E σ))
    (ha : PA X es t) (hkw : PK X kws tk) (hall : (backToKw pos (keywordEach kws X.env)).all (·.1.isSome) = true) (hks : (backToKw pos (keywordEach kws X.env)).filterMap (·.1) = ks) (hno : (backToKw pos (keywordEach kws X.env)).any (·.1.isNone) = false)
    (hdb : (x == ("__debug__" : Str)) = false) {e : Expr} {es' : List Expr} (hes : es = e :: es') (hst : ∀ e ∈ es, isStarE e = false) : PE X (.Call (.Name x p) es kws pos) (tCallKS m ks.length sp gV E t tk) := by
  refine ⟨fun pins s σ H Q I h => ?_⟩
  subst hes
  refine wpAny_Call_Name_kw (ld_glob I hg hm ?_ hdb)
  have he : starEach (e :: es') X.env = (false, eval e X.env) :: starEach es' X.env := star_cons (hst e List.mem_cons_self)
  refine PySem.W.callWith_KW (h₀ := X.base) I.ok.mod.kin hk hall (thn (ha.run pos pins s σ H _ I h) fun us s1 ⟨vs, H1, I1, r, q⟩ => ?_) (by rw [star_any hst, hno]; rfl) he
  refine thn (hkw.run pos pins s1 σ H1 _ I1 q) fun ws s2 ⟨zs, H2, I2, rz, l1, l2, q2⟩ => ⟨I2.kIn, ?_⟩
  rw [hks]
  exact run_fnKS F hr hb (hx σ) I2 r rz l1 l2 q2
theorem pe_callKS0 (F : FnOk X.prog X.w X.K X.mg X.base CX k f fd ps sp) (hr : Room k X.A) (hg : Gl X x) (hm : X.mg x = some (.ref f)) (hk : PySem.W.keepIn X.K (.ref f) = true) (hb : KBn X.K fd ps 0 ks gf gV) (hx : ∀ σ, PassesAt CX X σ (E σ))
    (hkw : PK X kws tk) (hall : (backToKw pos (keywordEach kws X.env)).all (·.1.isSome) = true) (hks : (backToKw pos (keywordEach kws X.env)).filterMap (·.1) = ks) (hno : (backToKw pos (keywordEach kws X.env)).any (·.1.isNone) = false)
    (hdb : (x == ("__debug__" : Str)) = false) : PE X (.Call (.Name x p) [] kws pos) (fun σ H Q => tk σ H fun zs H2 => zs.length = ks.length ∧ sp (gV [] zs) H2 Q (E σ)) := by
  refine ⟨fun pins s σ H Q I h => ?_⟩
  refine wpAny_Call_Name_kw (ld_glob I hg hm ?_ hdb)
  refine PySem.W.callWith_KW0 (h₀ := X.base) I.ok.mod.kin hk hall ?_ (by rw [hno]; rfl)
  refine thn (hkw.run pos pins s σ H _ I h) fun ws s2 ⟨zs, H2, I2, rz, l2, q2⟩ => ⟨I2.kIn, ?_⟩
  rw [hks]
  exact run_fnKS (us := []) (vs := []) F hr hb (hx σ) I2 .nil rz rfl l2 q2
end
section
variable {g : Gi} {n : Nat}
theorem frees_ok : ∀ {ws us : List W} {vs : List V} {fl : List (V × W)} {b : Bs} {F : Hp} {O : Gh} {σ : L2.St} {H : Hp} {e : Env}, ER b F O σ H e (fl ++ vs.zip ws) → vs.length = ws.length → freesW ws = Option.some us →
    ∃ F' O', ER b F' O' σ H e (fl ++ vs.zip us) ∧ us.length = ws.length ∧ ∀ u ∈ us, ∀ d, u ≠ W.o d
  | [], us, vs, fl, b, F, O, σ, H, e, E, hl, h => by
    cases h
    exact ⟨F, O, E, rfl, fun u hu => (by cases hu)⟩
  | w :: ws, us, [], fl, b, F, O, σ, H, e, E, hl, h => by cases hl
  | w :: ws, us, v :: vs, fl, b, F, O, σ, H, e, E, hl, h => by
    have E : ER b F O σ H e (fl ++ (v, w) :: vs.zip ws) := E
    unfold freesW at h
    cases c : freesW ws with
    | none => rw [c] at h; cases h
    | some r =>
      rw [c] at h
      have tail : ∀ {w' : W} {F : Hp} {O : Gh}, (∀ d, w' ≠ .o d) → ER b F O σ H e (fl ++ (v, w') :: vs.zip ws) → ∃ F' O', ER b F' O' σ H e (fl ++ (v :: vs).zip (w' :: r)) ∧ (w' :: r).length = (w :: ws).length ∧ ∀ u ∈ w' :: r, ∀ d, u ≠ W.o d := fun {w' F O} hw E1 => by
        have E1' : ER b F O σ H e ((fl ++ [(v, w')]) ++ vs.zip ws) := by simpa [List.append_assoc] using E1
        obtain ⟨F', O', E2, h2, h3⟩ := frees_ok E1' (by simpa using hl) c
        refine ⟨F', O', by simpa [List.append_assoc] using E2, by simp [h2], fun u hu d => ?_⟩
        rcases List.mem_cons.mp hu with rfl | hu
        · exact hw d
        · exact h3 u hu d
      cases w with
      | o d =>
        have h : (if fzb d then Option.some (W.d d :: r) else none) = Option.some us := h
        by_cases hf : fzb d = true
        · rw [if_pos hf] at h
          cases h
          have ht : e.tak (.o d) = Option.some (d, e) := by
            show (if fzb d then Option.some (d, e.fz (.o d) d) else none) = _
            rw [if_pos hf] <;> rfl
          obtain ⟨F1, O1, E1, _, _, _⟩ := E.tak ht
          exact tail (fun d z => nomatch z) E1
        · rw [if_neg hf] at h; cases h
      | d d => cases h; exact tail (fun d z => nomatch z) E
      | s i => cases h; exact tail (fun d z => nomatch z) E
theorem ER.repick {b : Bs} {F : Hp} {O : Gh} {σ : L2.St} {H : Hp} {e : Env} {fl l l' : List (V × W)} {perm : List Nat} (E : ER b F O σ H e (fl ++ l)) (hn : ∀ p ∈ l, ∀ d, p.2 ≠ W.o d) (hp : picks l perm = Option.some l') : ER b F O σ H e (fl ++ l') := by
  refine { E with flr := fun j u w h => ?_ }
  rcases get_app h with h | ⟨_, h⟩
  · exact E.flr j u w (by rw [List.getElem?_append_left (List.getElem?_eq_some_iff.mp h).1]; exact h)
  · have hm := picks_mem hp _ (List.mem_of_getElem? h)
    obtain ⟨k, hk⟩ := List.getElem?_of_mem hm
    have r := E.flr (fl.length + k) u w (by rw [List.getElem?_append_right (by omega), Nat.add_sub_cancel_left]; exact hk)
    cases w with
    | d d => exact r
    | s i => exact r
    | o d => exact absurd rfl (hn _ hm d)
theorem s_callk (j : Nat) (es ks : Ex) (perm : List Nat) (hes : SA g n es) (hks : SK g n ks) : SE g n (.callk j es ks perm) := by
  intro I X Wx G o e h
  cases e with
  | Call f xs kws p =>
    cases f with
    | Name x px =>
      have h : (gloB I x && (chkA I es xs && (chkK I ks kws && (match lookN I.nm x with | Option.some (.fn k _ _ ps) => decide (j = k) && permB ps xs.length (kwNames kws) perm | _ => false)))) = true := h
      simp only [Bool.and_eq_true] at h
      obtain ⟨h1, h2, h3, h4⟩ := h
      split at h4
      · rename_i k lo hi ps hl
        simp only [Bool.and_eq_true, decide_eq_true_eq] at h4
        obtain ⟨rfl, hp⟩ := h4
        obtain ⟨q1, q2, q3⟩ := o.glo h1
        obtain ⟨f, fd, fn, m1, m2, m3, m4, _, m6⟩ := G.fn x j lo hi ps hl
        obtain ⟨hpl, gf, gV, kb, pk⟩ := m6 xs.length (kwNames kws) perm hp
        have F : FnOk X.prog X.w X.K X.mg X.base g.CX n f fd ps (spM g n j) := by rw [o.hP, o.hw, o.hK, o.hm, o.hb]; exact m4
        have hm : X.mg x = Option.some (.ref f) := by rw [o.hm]; exact m1
        have hk : PySem.W.keepIn X.K (.ref f) = true := by rw [o.hK]; exact m2
        have kb : KBn X.K fd ps xs.length (kwNames kws) gf gV := by rw [o.hK]; exact kb
        obtain ⟨k1, k2, k3⟩ := kw_facts (pos := p) (env := X.env) h3
        -- behind both rows of values
        have fin : ∀ {b : Bs} {fl : List (V × W)} {σ : L2.St} {H : Hp} {F1 : Hp} {O1 : Gh} {e2 : Env} {ws zs : List W} {vs us : List V} {Q : VK}, BokG g b → ER b F1 O1 σ H e2 ((fl ++ vs.zip ws) ++ us.zip zs) → vs.length = ws.length → us.length = zs.length → vs.length = xs.length → us.length = (kwNames kws).length →
            outE Wx b σ fl Q (match (freesW (ws ++ zs)).bind fun us => picks us perm with
              | Option.some us => (match e2.hand us with
                | Option.some as => (match callN g.T n j as with
                  | .ok d own out => .ok (if own then .o d else .d d) (e2.back us as out)
                  | .exc x out => .exc x (e2.back us as out)
                  | .bad => .bad)
                | none => .bad)
              | none => .bad) → spM g n j (gV vs us) H Q (Wx σ) := by
          intro b fl σ H F1 O1 e2 ws zs vs us Q hb E l1 l2 l3 l4 h
          have E : ER b F1 O1 σ H e2 (fl ++ (vs ++ us).zip (ws ++ zs)) := by
            rw [List.zip_append l1, ← List.append_assoc]
            exact E
          cases c1 : freesW (ws ++ zs) with
          | none => rw [c1] at h; exact h.elim
          | some fs =>
            rw [c1] at h
            obtain ⟨F2, O2, E2, e3, e4⟩ := frees_ok E (by simp [l1, l2]) c1
            have hpk := pk vs us l3 l4
            cases c2 : picks fs perm with
            | none =>
              have : (Option.some fs).bind (fun us => picks us perm) = none := c2
              rw [this] at h; exact h.elim
            | some ps' =>
              have : (Option.some fs).bind (fun us => picks us perm) = Option.some ps' := c2
              rw [this] at h
              have h : outE Wx b σ fl Q (match e2.hand ps' with
                | Option.some as => (match callN g.T n j as with
                  | .ok d own out => .ok (if own then .o d else .d d) (e2.back ps' as out)
                  | .exc x out => .exc x (e2.back ps' as out)
                  | .bad => .bad)
                | none => .bad) := h
              have E3 := E2.repick (fun q hq d => e4 _ (List.of_mem_zip hq).2 d) (picks_zip hpk c2)
              cases hh : e2.hand ps' with
              | none => rw [hh] at h; exact h.elim
              | some as =>
                rw [hh] at h
                have la : as.length = fn.np := (hand_len hh).trans ((picks_len c2).trans hpl)
                have hpd : fn.pads as.length = [] := by
                  unfold Fn.pads
                  rw [la, Nat.sub_self, Nat.sub_zero, List.drop_length]
                have := call_rd (vs := gV vs us) (dvs := []) hb E3 (by rw [picks_len hpk, picks_len c2]) hh m3 (by rw [hpd, la]; rfl) (by rw [hpd]; exact rfl) h
                rw [List.append_nil] at this
                exact this
        have lenE : ∀ {m : Ex} {es : List Expr} {cal : Cal} {e e1 : Env} {ws : List W}, chkA I m es = true → evA cal m e = .ok ws e1 → ws.length = es.length := by
          intro m es
          induction es generalizing m with
          | nil =>
            intro cal e e1 ws hc he
            rcases chkA_shape hc with ⟨rfl, _⟩ | ⟨_, _, _, _, _, h, _⟩
            · cases he; rfl
            · cases h
          | cons y ys ih =>
            intro cal e e1 ws hc he
            rcases chkA_shape hc with ⟨_, h⟩ | ⟨a, r, y', ys', rfl, h, h3, h4⟩
            · cases h
            · cases h
              rw [evA_cons] at he
              obtain ⟨w, e2, _, he⟩ := bnd_okA he
              obtain ⟨ws', e3, c2, he⟩ := bnd_okA he
              cases he
              show ws'.length + 1 = ys.length + 1
              rw [ih h4 c2]
        have lenK : ∀ {m : Ex} {ks : List Keyword} {cal : Cal} {e e1 : Env} {ws : List W}, chkK I m ks = true → evA cal m e = .ok ws e1 → ws.length = (kwNames ks).length := by
          intro m ks
          induction ks generalizing m with
          | nil =>
            intro cal e e1 ws hc he
            cases m with
            | nil => cases he; rfl
            | cons _ _ => cases hc
            | k d => cases d <;> cases hc
            | _ => cases hc
          | cons y ys ih =>
            intro cal e e1 ws hc he
            obtain ⟨oy, ye, yp⟩ := y
            cases m with
            | cons a r =>
              cases oy with
              | none => cases hc
              | some nm =>
                obtain ⟨_, h4⟩ := Bool.and_eq_true_iff.mp (show (chkE I a ye && chkK I r ys) = true from hc)
                rw [evA_cons] at he
                obtain ⟨w, e2, _, he⟩ := bnd_okA he
                obtain ⟨ws', e3, c2, he⟩ := bnd_okA he
                cases he
                show ws'.length + 1 = (kwNames ys).length + 1
                rw [ih h4 c2]
            | nil => cases hc
            | k d => cases d <;> cases hc
            | _ => cases hc
        rcases chkA_shape h2 with ⟨rfl, rfl⟩ | ⟨a, r', ea, es', rfl, rfl, h5, h6⟩
        · refine wkE (pe_callKS0 F o.room q1 hm hk kb o.pass (hks I X Wx G o kws h3) k1 k2 k3 q2) fun σ H Q ⟨b, e, fl, hb, E, h⟩ => ?_
          rw [evE_callk] at h
          refine ⟨b, e, fl, hb, E, ?_⟩
          cases c2 : evA (callN g.T n) ks e with
          | bad => rw [evA_nil, R.bnd_ok, c2] at h; exact h
          | exc x e2 => rw [evA_nil, R.bnd_ok, c2] at h; exact h
          | ok zs e2 =>
            rw [evA_nil, R.bnd_ok, c2] at h
            rintro us H2 hl2 ⟨F2, O2, E2⟩
            have ll : us.length = (kwNames kws).length := hl2.trans (lenK h3 c2)
            exact ⟨ll, fin (ws := []) (vs := []) (zs := zs) hb (by simpa using E2) rfl hl2 rfl ll h⟩
        · refine wkE (pe_callKS F o.room q1 hm hk kb o.pass (hes I X Wx G o _ h2) (hks I X Wx G o kws h3) k1 k2 k3 q2 rfl (chkA_star h2)) fun σ H Q ⟨b, e, fl, hb, E, h⟩ => ?_
          rw [evE_callk] at h
          refine ⟨b, e, fl, hb, E, ?_⟩
          cases c1 : evA (callN g.T n) (.cons a r') e with
          | bad => rw [c1] at h; exact h
          | exc x e2 => rw [c1] at h; exact h
          | ok ws e1 =>
            rw [c1] at h
            rintro vs H1 hl1 ⟨F1, O1, E1⟩
            refine ⟨b, e1, fl ++ vs.zip ws, hb, ⟨F1, O1, E1⟩, ?_⟩
            have h : outE Wx b σ fl Q ((evA (callN g.T n) ks e1).bnd _) := h
            cases c2 : evA (callN g.T n) ks e1 with
            | bad => rw [c2] at h; exact h
            | exc x e2 => rw [c2] at h; exact fun H' cls d hE => h H' cls d hE.drop
            | ok zs e2 =>
              rw [c2] at h
              rintro us H2 hl2 ⟨F2, O2, E2⟩
              have ll1 : vs.length = (ea :: es').length := hl1.trans (lenE h2 c1)
              have ll : us.length = (kwNames kws).length := hl2.trans (lenK h3 c2)
              exact ⟨ll1, ll, fin hb E2 hl1 hl2 ll1 ll h⟩
      · cases h4
    | _ => cases h
  | _ => cases h
end
end Mi

set_option Elab.async false
set_option linter.all false
set_option maxRecDepth 100000
set_option maxHeartbeats 1000000
/-! Mi12: methods of built-in types, isinstance, tests. -/
namespace Mi
open PySem L2
section
variable {g : Gi} {n : Nat}
theorem base_ok {e : Expr} {x : Str} {env : PySem.Env} (h : baseOk e = true) : attributeBase e x env (eval e env) = eval e env := by
  cases e <;> first | rfl | cases h
theorem few_ok {env : PySem.Env} {cp : Pos} {es : List Expr} (h1 : ∀ e ∈ es, isStarE e = false) (h2 : es.length < 20) :
    ((backTo cp (starEach es env)).all (fun x => !x.1) && (backToKw cp (keywordEach [] env)).all (fun x => x.1.isSome) && decide (es.length + ([] : List Keyword).length + (if ([] : List Keyword).isEmpty then 0 else 1) < 30)) = true := by
  rw [star_len h1]
  have : (backToKw cp (keywordEach [] env)).all (fun x => x.1.isSome) = true := rfl
  rw [this]
  simp
  omega
/-- a slot's list grows by what stands behind -/
theorem me_put {b : Bs} {F : Hp} {O : Gh} {σ : L2.St} {H : Hp} {e : Env} {fl : List (V × W)} {i : Nat} {v : V} {d d' : D} (E : ER b F O σ H e fl) (hv : σ[i]? = some (some v)) (h : e.at i = some (d, true)) :
    ∃ a, v = .ref a ∧ Own b F H a d ∧ ∀ o, Own b F (upd H a o) a d' → ∃ O', ER b F O' σ (upd H a o) (e.put i (d', true)) fl := by
  obtain ⟨a, h1, h2⟩ := E.atOwn h rfl
  rw [hv] at h1
  cases h1
  have hO : ∃ ow, O a = some (ow, d) := by
    rcases h2 with ⟨_, h⟩ | ⟨k, _, _, _, h⟩ <;> exact ⟨_, h⟩
  obtain ⟨ow, hO⟩ := hO
  exact ⟨a, rfl, (E.own _ _ _ hO).2.1, fun o ho => E.putM h rfl hv ho⟩
theorem list_extendW (l : Addr) (items : Array Value) (n : Nat) (b : Addr) (items2 : Array Value) (n2 : Nat) (sl2 : Array (Option Value)) (hc0 : ¬(!items.isEmpty && Builtin.List.listTooLong (items.size + items2.size)) = true) (hc1 : items.size ≤ sizeLine) (hs2 : items.size + items2.size ≤ sizeLine + 1) :
    Meets (Builtin.«list.extend» ⟨[.ref l, .ref b], []⟩) (fun _ R s => s.heap.get? l = some { cls := .type "list", dict := none, data := .seq items n, slots := #[] } ∧ s.heap.get? b = some { cls := .type "list", dict := none, data := .seq items2 n2, slots := sl2 } ∧ R (.ok (.ret Value.none)) { s with heap := s.heap.update l (Obj.mapSeq fun x => x ++ items2), toks := s.toks }) :=
  .of_wp fun prog w A R s h => by
    obtain ⟨hp, g, d, tk, os⟩ := s; obtain ⟨hl, hb, h⟩ := h; have f1 := AutoSeq1.idx_int; have f2 := AutoSeq1.sub_tuple_tuple; have f3 := AutoSeq1.sub_list_list; have f4 := AutoSeq1.sub_tuple_list; have f5 := AutoSeq1.sub_list_tuple;
    have hz' : (items ++ items2).size ≤ sizeLine + 1 := by rw [Array.size_append]; exact hs2
    wp_walk using (wpAny_updateSeq hl rfl (hz := hc1) (_hz' := hz')), wpAny_loadPart' hl, wpAny_loadPart' hb; exact ⟨_, rfl, h⟩
def rExtL (K : PySem.W.Frag) : V → List V → Hp → VK → Prop := fun x vs H Q => ∃ l b xs zs, x = .ref l ∧ vs = [.ref b] ∧ H l = some (.lst xs) ∧ SqL K H b zs ∧ xs.length + zs.length ≤ sizeLine ∧ Q .non (upd H l (.lst (xs ++ zs)))
theorem mt_extL {X : Cx} : MtM X "list.extend" (rExtL X.K) := by
  intro pins s σ H x vs v us Q I rx rv h
  obtain ⟨l, b, xs, zs, rfl, rfl, hH, hB, hz, q⟩ := h
  cases rx
  obtain ⟨u, rfl, ru⟩ := rv.one
  cases ru
  obtain ⟨z, its, n, r, hl, e⟩ := I.lstM hH
  obtain ⟨its2, r2, ⟨o2, n2, e2, hc2, hd2, dd2⟩, z2⟩ := I.list hB
  obtain ⟨cl2, di2, da2, sl2⟩ := o2
  dsimp only at hc2 hd2 dd2
  subst hc2 hd2 dd2
  have hl2 := r2.length
  have hsz : its.toArray.size + its2.toArray.size ≤ sizeLine := by rw [List.size_toArray, List.size_toArray]; omega
  have hlong : ¬ (!its.toArray.isEmpty && Builtin.List.listTooLong (its.toArray.size + its2.toArray.size)) = true := by
    rw [notLongL hsz, Bool.and_false]
    exact Bool.false_ne_true
  refine call_meets PySem.F.slot_list_extend ⟨_, e, rfl⟩ PySem.F.entry_list_extend (PySem.F.args_list_extend_2 _ _)
    (list_extendW l its.toArray n b its2.toArray n2 sl2 hlong (by rw [List.size_toArray]; omega) (by omega)) ⟨e, e2, ?_⟩
  refine ⟨.non, _, I.lset (its' := its ++ its2) hH e (by simp) (r.append r2) ?_, rfl, q⟩
  rw [List.length_append]
  omega
theorem s_me (m : Me) (eo es : Ex) (ho : SE g n eo) (hes : SA g n es) : SE g n (.me m eo es) := by
  intro I X Wx G o e h
  cases e with
  | Call f xs ks cp =>
    cases f with
    | Attribute ev nm ap =>
      cases ks with
      | cons _ _ => cases h
      | nil =>
        have h : (chkE I eo ev && (chkA I es xs && (baseOk ev && (decide (ap.endLine = cp.line) && (!xs.isEmpty && (decide (xs.length < 20) && decide (nm = meName m))))))) = true := h
        simp only [Bool.and_eq_true, decide_eq_true_eq] at h
        obtain ⟨h1, h2, h3, h4, h5, h6, h7⟩ := h
        have hline : (ap.endLine == cp.line) = true := by rw [h4]; exact beq_self_eq_true _
        rcases chkA_shape h2 with ⟨rfl, rfl⟩ | ⟨a, r', ea, es', rfl, rfl, k3, k4⟩
        · cases h5
        have hO := ho I X Wx G o ev h1
        have hA := hes I X Wx G o _ h2
        have st1 : starEach (ea :: es') X.env = (false, eval ea X.env) :: starEach es' X.env := star_cons (chkE_star k3)
        have st2 : (backTo cp (starEach es' X.env)).any (·.1) = false := star_any (chkA_star k4)
        have few := few_ok (env := X.env) (cp := cp) (chkA_star h2) h6
        -- the receiver, then the arguments, then the change
        have rd : ∀ {r : V → List V → Hp → VK → Prop} {ty : V → Hp → Prop} {σ : L2.St} {H : Hp} {Q : VK},
            (∀ (b : Bs) (F : Hp) (H1 : Hp) (x : V) (p : D), Bok X b → Sub F H1 → Has b F H1 p x → meTyp m p = true → ty x H1) →
            (∀ (b : Bs) (F : Hp) (H1 : Hp) (a' : Addr) (p p' : D) (r0 : D) (vs : List V) (ds : List D), Bok X b → Sub F H1 → Own b F H1 a' p → RepL b.K F ds vs → meOp m p ds = some (p', r0) → ∃ v o', Rep b.K F r0 v ∧ Own b F (upd H1 a' o') a' p' ∧ (Q v (upd H1 a' o') → r (.ref a') vs H1 Q)) →
            rdE g n Wx (.me m eo (.cons a r')) σ H Q → (fun σ H (Q : VK) => rdE g n Wx eo σ H fun x H1 => ty x H1 ∧ rdA g n Wx (.cons a r') σ H1 fun xs H2 => r x xs H2 Q) σ H Q := by
          intro r ty σ H Q hty hr ⟨b, e, fl, hb, E, h⟩
          rw [evE_me] at h
          refine ⟨b, e, fl, hb, E, (outG.bnd0 h).mono ?_⟩
          rintro x H1 ⟨wx, e1, _, ⟨F1, O1, E1⟩, h1⟩
          by_cases ht : (e1.cur wx).any (meTyp m) = true
          · rw [if_pos ht] at h1
            cases c1 : e1.cur wx with
            | none => rw [c1] at ht; cases ht
            | some p =>
              rw [c1] at ht
              refine ⟨hty b F1 H1 x p (o.bok hb) E1.sub (E1.has (j := fl.length) (w := wx) (by simp) c1) ht, ?_⟩
              refine ⟨b, e1, fl ++ [(x, wx)], hb, ⟨F1, O1, E1⟩, (outG.bnd [(x, wx)] h1).mono ?_⟩
              rintro vs H2 ⟨ws, e2, hl, ⟨F2, O2, E2⟩, h2⟩
              cases wx with
              | d _ => exact h2.elim
              | o _ => exact h2.elim
              | s i =>
                have h2 : outE Wx b σ fl Q (match e2.taks ws with
                  | some (ds, e3) => (match e3.at i with
                    | some (d, true) => (match meOp m d ds with
                      | some (d', r) => .ok (.d r) (e3.put i (d', true))
                      | none => .bad)
                    | _ => .bad)
                  | none => .bad) := h2
                cases c2 : e2.taks ws with
                | none => rw [c2] at h2; exact h2.elim
                | some q =>
                  obtain ⟨ds, e3⟩ := q
                  rw [c2] at h2
                  obtain ⟨F3, O3, E3, s3, r3, _⟩ := E2.taks hl c2
                  have h2 : outE Wx b σ fl Q (match e3.at i with
                    | some (d, true) => (match meOp m d ds with
                      | some (d', r) => .ok (.d r) (e3.put i (d', true))
                      | none => .bad)
                    | _ => .bad) := h2
                  cases c3 : e3.at i with
                  | none => rw [c3] at h2; exact h2.elim
                  | some q =>
                    obtain ⟨d, c⟩ := q
                    rw [c3] at h2
                    cases c with
                    | false => exact h2.elim
                    | true =>
                      have h2 : outE Wx b σ fl Q (match meOp m d ds with
                        | some (d', r) => .ok (.d r) (e3.put i (d', true))
                        | none => .bad) := h2
                      cases c4 : meOp m d ds with
                      | none => rw [c4] at h2; exact h2.elim
                      | some q =>
                        obtain ⟨d', r0⟩ := q
                        rw [c4] at h2
                        have h2 : outE Wx b σ fl Q (.ok (.d r0) (e3.put i (d', true))) := h2
                        have hx : σ[i]? = some (some x) := E3.flr fl.length x (.s i) (by simp)
                        obtain ⟨a', rfl, hown, hput⟩ := me_put (d' := d') E3 hx c3
                        obtain ⟨v, o', q1, q2, q3⟩ := hr b F3 H2 a' d d' r0 vs ds (o.bok hb) E3.sub hown r3 c4
                        obtain ⟨O4, E4⟩ := hput o' q2
                        exact q3 (h2 v _ True.intro ⟨F3, O4, E4.drop.pushD q1⟩)
          · rw [if_neg ht] at h1
            exact h1.elim
        have tyL : ∀ (b : Bs) (F : Hp) (H1 : Hp) (x : V) (p : D), Bok X b → Sub F H1 → Has b F H1 p x → (∃ xs, p = .lst xs) → tyV X.K "list" x H1 := fun b F H1 x p hb s hp ⟨xs, e⟩ => by
          subst e
          obtain ⟨a, vs, rfl, e1, _⟩ := hp.lst s
          exact .inl ⟨rfl, vs, by rw [← hb.1]; exact e1⟩
        cases m with
        | append =>
          have h7 : nm = "append" := h7
          subst h7
          refine wkE (pe_bm PySem.F.plainAttrs_list PySem.F.slot_list_append PySem.F.type_list_append mt_append hO hA (base_ok h3) few hline st1 st2) fun σ H Q q => ?_
          refine rd (r := rAppend) (ty := tyV X.K "list") (fun b F H1 x p hb s hp ht => tyL b F H1 x p hb s hp (by cases p <;> first | exact ⟨_, rfl⟩ | cases ht)) (fun b F H1 a' p p' r0 vs ds hb s hown hr hm => ?_) q
          cases p with
          | lst xs =>
            cases ds with
            | nil => cases hm
            | cons y ys =>
              cases ys with
              | cons _ _ => cases hm
              | nil =>
                have hm : (if xs.length < lim then some (D.lst (xs ++ [y]), D.non) else none) = some (p', r0) := hm
                by_cases hz : xs.length < lim
                · rw [if_pos hz] at hm
                  cases hm
                  obtain ⟨us, e1, r1⟩ := hown
                  obtain ⟨u, _, rfl, ry, rfl⟩ := hr
                  exact ⟨.non, .lst (us ++ [u]), rfl, ⟨_, upd_same, r1.append (RepL.one ry)⟩, fun q => ⟨a', us, u, rfl, rfl, e1, by rw [← r1.length, ← lim_eq]; exact hz, q⟩⟩
                · rw [if_neg hz] at hm; cases hm
          | _ => cases hm
        | extend =>
          have h7 : nm = "extend" := h7
          subst h7
          refine wkE (pe_bm PySem.F.plainAttrs_list PySem.F.slot_list_extend PySem.F.type_list_extend mt_extL hO hA (base_ok h3) few hline st1 st2) fun σ H Q q => ?_
          refine rd (r := rExtL X.K) (ty := tyV X.K "list") (fun b F H1 x p hb s hp ht => tyL b F H1 x p hb s hp (by cases p <;> first | exact ⟨_, rfl⟩ | cases ht)) (fun b F H1 a' p p' r0 vs ds hb s hown hr hm => ?_) q
          cases p with
          | lst xs =>
            cases ds with
            | nil => cases hm
            | cons y ys =>
              cases ys with
              | cons _ _ => cases y <;> cases hm
              | nil =>
                cases y with
                | lst zs =>
                  have hm : (if xs.length + zs.length ≤ lim then some (D.lst (xs ++ zs), D.non) else none) = some (p', r0) := hm
                  by_cases hz : xs.length + zs.length ≤ lim
                  · rw [if_pos hz] at hm
                    cases hm
                    obtain ⟨us, e1, r1⟩ := hown
                    obtain ⟨u, _, rfl, ⟨c, ws', rfl, e2, r2⟩, rfl⟩ := hr
                    exact ⟨.non, .lst (us ++ ws'), rfl, ⟨_, upd_same, r1.append r2⟩, fun q => ⟨a', c, us, ws', rfl, rfl, e1, by rw [← hb.1]; exact sqL_mono s e2, by rw [← r1.length, ← r2.length, ← lim_eq]; exact hz, q⟩⟩
                  · rw [if_neg hz] at hm; cases hm
                | _ => cases hm
          | _ => cases hm
        | add =>
          have h7 : nm = "add" := h7
          subst h7
          refine wkE (pe_saddK hO hA (base_ok h3) few hline st1 st2) fun σ H Q q => ?_
          refine rd (r := rSAddK X.prog X.w) (ty := fun x H1 => ∃ a S n, x = V.ref a ∧ H1 a = some (SetK X.prog X.w a S n)) (fun b F H1 x p hb s hp ht => ?_) (fun b F H1 a' p p' r0 vs ds hb s hown hr hm => ?_) q
          · cases p with
            | kset ks =>
              obtain ⟨a, rfl, e1⟩ := hp.kset
              rw [hb.2.1, hb.2.2] at e1
              exact ⟨a, _, _, rfl, e1⟩
            | _ => cases ht
          · cases p with
            | kset ks =>
              cases ds with
              | nil => cases hm
              | cons y ys =>
                cases ys with
                | cons _ _ => cases hm
                | nil =>
                  have hm : (match keyD y with
                    | some k => if ks.length + 1 < 4096 then some (D.kset (if keyIn k ks then ks else ks ++ [k]), D.non) else none
                    | none => none) = some (p', r0) := hm
                  cases ck : keyD y with
                  | none => rw [ck] at hm; cases hm
                  | some k =>
                    rw [ck] at hm
                    have hm : (if ks.length + 1 < 4096 then some (D.kset (if keyIn k ks then ks else ks ++ [k]), D.non) else none) = some (p', r0) := hm
                    by_cases hz : ks.length + 1 < 4096
                    · rw [if_pos hz] at hm
                      cases hm
                      have e1 : H1 a' = some (SetK b.P b.w a' (fun k => keyIn k ks) ks.length) := hown
                      obtain ⟨u, _, rfl, ry, rfl⟩ := hr
                      have ek : u = kV k := Has.key (b := b) (H := H1) (.inl ry) ck
                      have eo : SetK b.P b.w a' (fun j => keyIn j ks || decide (j = k)) (if keyIn k ks = true then ks.length else ks.length + 1) = SetK b.P b.w a' (fun j => keyIn j (if keyIn k ks = true then ks else ks ++ [k])) (if keyIn k ks = true then ks else ks ++ [k]).length := by
                        by_cases hk : keyIn k ks = true
                        · rw [if_pos hk, if_pos hk]
                          congr 1
                          funext j
                          by_cases hj : j = k
                          · subst hj; rw [hk]; rfl
                          · rw [decide_eq_false hj, Bool.or_false]
                        · rw [if_neg hk, if_neg hk]
                          rw [List.length_append]
                          congr 1
                          funext j
                          unfold keyIn
                          rw [List.any_append]
                          congr 1
                          show decide (j = k) = (decide (k = j) || false)
                          rw [Bool.or_false]
                          exact decide_eq_decide.mpr ⟨Eq.symm, Eq.symm⟩
                      refine ⟨.non, SetK b.P b.w a' (fun j => keyIn j ks || decide (j = k)) (if keyIn k ks = true then ks.length else ks.length + 1), rfl, ?_, fun q => ?_⟩
                      · show upd H1 a' _ a' = _
                        rw [upd_same, eo]
                      · rw [hb.2.1, hb.2.2] at e1 q
                        exact ⟨a', k, _, _, rfl, by rw [ek], e1, hz, q⟩
                    · rw [if_neg hz] at hm; cases hm
            | _ => cases hm
    | _ => cases h
  | _ => cases h
end
end Mi

set_option Elab.async false
set_option linter.all false
set_option maxRecDepth 100000
set_option maxHeartbeats 1000000
/-! Mi13: isinstance, tests, what loops walk. -/
namespace Mi
open PySem L2
section
variable {g : Gi} {n : Nat}
theorem tyN_boot : ∀ p ∈ tyN, bootBuiltins p.2 = some (.type p.1) := by decide +kernel
def tyAll : List String := ["NoneType", "bool", "int", "str", "list", "tuple"]
theorem kit_all : (tyAll.all fun n => tyN.all fun p => decide (kitB n p.1 = some (isTy n p.1))) = true := by decide +kernel
theorem kit_of' {m : String} {p : String × Str} (h1 : m ∈ tyAll) (h2 : p ∈ tyN) : kitB m p.1 = some (isTy m p.1) := by
  have := List.all_eq_true.mp kit_all m h1
  exact of_decide_eq_true (List.all_eq_true.mp this p h2)
theorem tyName_mem {d : D} {m : String} (h : tyName d = some m) : m ∈ tyAll := by
  cases d <;> cases h <;> decide
theorem contains_mem {p : String × Str} (h : tyN.contains p = true) : p ∈ tyN := by
  simpa using h
theorem tyOk_shape {I : Inf} {cs : List String} {e : Expr} (h : tyOk I cs e = true) :
    (∃ c y p, cs = [c] ∧ e = .Name y p ∧ frB I y = true ∧ (c, y) ∈ tyN) ∨ (∃ c c' y py z pz k pt, cs = [c, c'] ∧ e = .Tuple [.Name y py, .Name z pz] k pt ∧ frB I y = true ∧ (c, y) ∈ tyN ∧ frB I z = true ∧ (c', z) ∈ tyN) := by
  unfold tyOk at h
  split at h
  · obtain ⟨h1, h2⟩ := Bool.and_eq_true_iff.mp h
    exact .inl ⟨_, _, _, rfl, rfl, h1, contains_mem h2⟩
  · obtain ⟨h1, h2⟩ := Bool.and_eq_true_iff.mp h
    obtain ⟨h3, h4⟩ := Bool.and_eq_true_iff.mp h1
    obtain ⟨h5, h6⟩ := Bool.and_eq_true_iff.mp h2
    exact .inr ⟨_, _, _, _, _, _, _, _, rfl, rfl, h3, contains_mem h4, h5, contains_mem h6⟩
  · cases h
/-- the type of a value, an exception object too -/
def TyE (K : PySem.W.Frag) (H : Hp) (x : V) (t : Value) : Prop := TyX K H x t ∨ ∃ a c, x = .ref a ∧ t = .ref (He.ga K c) ∧ H a = some (ExO (.ref (He.ga K c)) a) ∧ ExcC K (He.ga K c)
section
variable {X : Cx} {pins : List (Addr × Obj)} {σ : L2.St} {H : Hp} {s : Shared}
theorem kit_ofE {x : V} {u t : Value} (I : Inv X pins σ H s) (rx : RelV x u) (ty : TyE X.K H x t) : ∃ P : Heap → Prop, PySem.W.KitX X.K u t P ∧ P s.heap ∧ u ≠ .builtin "__main__.__loader__#opaque" := by
  rcases ty with ty | ⟨a, c, rfl, rfl, ha, C⟩
  · exact kit_of I rx ty
  · cases (show u = Value.ref a from rx)
    obtain ⟨⟨oe, vs, hget, hz, hv, _⟩, _⟩ := I.hok a _ ha
    have J : PySem.W.InstAt s.heap a oe (He.ga X.K c) none := by
      obtain ⟨oc, od, oda, osl⟩ := oe
      obtain ⟨h1, h2⟩ := hz
      dsimp only at h1 h2 hv
      subst h1 h2 hv
      exact ⟨hget, rfl, rfl, trivial⟩
    exact ⟨_, PySem.W.handS_kitx_exc C.hg C.hk C.hs C.hd C.ha C.hn C.ht C.hm, J, fun z => nomatch z⟩
end
def rIsiE (K : PySem.W.Frag) : List V → Hp → VK → Prop := fun xs H Q => ∃ (x c : V) (t u : Value) (b : Bool), xs = [x, c] ∧ ClsV c u ∧ TyE K H x t ∧ PySem.W.kitOne K t u = some b ∧ Q (.bl b) H
def rIsiTE (K : PySem.W.Frag) : List V → Hp → VK → Prop := fun xs H Q => ∃ (x : V) (tp : Addr) (cs : List V) (t : Value) (us : List Value) (b : Bool), xs = [x, .ref tp] ∧ H tp = some (.tup cs) ∧ Paired ClsV cs us ∧ TyE K H x t ∧ PySem.W.kitAny K t us = some b ∧ Q (.bl b) H
theorem call_isiE {X : Cx} : CallR X (.builtin "isinstance") (rIsiE X.K) := by
  intro pins s σ H xs us Q I r h
  obtain ⟨x, c, t, u, b, rfl, k, ty, e, q⟩ := h
  obtain ⟨u1, u2, rfl, r1, r2⟩ := vals2 r
  have e2 := k.eq r2
  subst e2
  obtain ⟨P, Z, p, hx⟩ := kit_ofE I r1 ty
  exact PySem.W.kia_one Z I.kIn p e hx fun tk => ⟨.bl b, H, I.tok tk, rfl, q⟩
theorem call_isiTE {X : Cx} : CallR X (.builtin "isinstance") (rIsiTE X.K) := by
  intro pins s σ H xs us Q I r h
  obtain ⟨x, tp, cs, t, ws, b, rfl, hT, k, ty, e, q⟩ := h
  obtain ⟨u1, u2, rfl, r1, r2⟩ := vals2 r
  cases (show u2 = Value.ref tp from r2)
  obtain ⟨P, Z, p, hx⟩ := kit_ofE I r1 ty
  obtain ⟨_, its, rv, o, h1, h2, n, h3⟩ := (show ObjOk X.prog X.w H s.heap tp (.tup cs) from I.hok tp _ hT)
  have e3 := ClsV.all k rv
  subst e3
  obtain ⟨oc, od, dt, sl⟩ := o
  simp only at h2 h3
  subst h2 h3
  exact PySem.W.kia_tup Z I.kIn p h1 e hx fun tk => ⟨.bl b, H, I.tok tk, rfl, q⟩
theorem tyN_tyB {p : String × Str} (h : p ∈ tyN) : p.1 ∈ tyB := by
  have : (tyN.all fun p => tyB.contains p.1) = true := by decide +kernel
  simpa using List.all_eq_true.mp this p h
/-- what isinstance is told of a value -/
theorem isi_ty {X : Cx} {b : Bs} {F H : Hp} {d : D} {v : V} (hb : Bok X b) (s : Sub F H) (hx : Has b F H d v) {cs : List String} {r : Bool} (h : isiD cs d = some r) :
    ∃ (t : Value) (f : String → Bool), TyE X.K H v t ∧ r = cs.any f ∧ ∀ p ∈ tyN, PySem.W.kitOne X.K t (.type p.1) = some (f p.1) := by
  have base : ∀ m, tyName d = some m → r = cs.any (isTy m) → ∃ (t : Value) (f : String → Bool), TyE X.K H v t ∧ r = cs.any f ∧ ∀ p ∈ tyN, PySem.W.kitOne X.K t (.type p.1) = some (f p.1) := fun m hm hr =>
    ⟨.type m, isTy m, .inl (hx.ty hb s hm), hr, fun p hp => kit_ty (kit_of' (tyName_mem hm) hp)⟩
  have gen : (tyName d).map (fun n => cs.any (isTy n)) = some r → ∃ m, tyName d = some m ∧ r = cs.any (isTy m) := fun q => by
    cases c : tyName d with
    | none => rw [c] at q; cases q
    | some m => rw [c] at q; cases q; exact ⟨m, rfl, rfl⟩
  cases d with
  | exn c ns xs =>
    cases h
    rcases hx with ⟨a, rfl, h1, _, _, h2⟩ | ⟨_, _, h⟩
    · obtain ⟨C, h3⟩ := excB_ok h2
      rw [hb.1] at h1 C h3
      refine ⟨.ref (He.ga X.K c), fun _ => false, .inr ⟨a, c, rfl, rfl, s _ _ h1, C⟩, ?_, fun p hp => h3 _ (tyN_tyB hp)⟩
      induction cs with
      | nil => rfl
      | cons _ _ ih => simp
    · exact h.elim
  | _ => obtain ⟨m, h1, h2⟩ := gen h; exact base m h1 h2
theorem s_isi (a : Ex) (cs : List String) (ha : SE g n a) : SE g n (.isi a cs) := by
  intro I X Wx G o e h
  cases e with
  | Call f xs ks cp =>
    cases f with
    | Name x px =>
      match xs, ks, h with
      | [ea, ec], [], h =>
        have h : (decide (x = "isinstance") && (frB I x && (chkE I a ea && tyOk I cs ec))) = true := h
        simp only [Bool.and_eq_true, decide_eq_true_eq] at h
        obtain ⟨rfl, h1, h2, h3⟩ := h
        obtain ⟨q1, q2, q3, q4⟩ := o.free G h1
        have st1 : starEach [ea, ec] X.env = (false, eval ea X.env) :: starEach [ec] X.env := star_cons (chkE_star h2)
        rcases tyOk_shape h3 with ⟨c, y, py, rfl, rfl, h3, hmem⟩ | ⟨c, c', y, py, z, pz, k, pt, rfl, rfl, h3, hm1, h5, hm2⟩
        · obtain ⟨p1, p2, p3, p4⟩ := o.free G h3
          have hy : PE X (.Name y py) (tC (.ty c)) := pe_bltn p1 p2 (tyN_boot _ hmem) rfl p4 p3
          refine wkE (pe_callB (id := "isinstance") call_isiE q1 q2 PyProof.Rows.boot_isinstance (pa_cons (ha I X Wx G o ea h2) (pa_cons hy pa_nil) st1) q4 q3 st1) fun σ H Q ⟨b, e, fl, hb, E, h⟩ => ?_
          rw [evE_isi] at h
          refine ⟨b, e, fl, hb, E, (outG.bnd0 h).mono ?_⟩
          rintro v H1 ⟨wx, e1, _, ⟨F, O, E1⟩, h1⟩
          cases c1 : e1.cur wx with
          | none => rw [c1] at h1; exact h1.elim
          | some d =>
            cases c2 : isiD [c] d with
            | none =>
              have : (e1.cur wx).bind (isiD [c]) = none := by rw [c1]; exact c2
              rw [this] at h1; exact h1.elim
            | some r =>
              have : (e1.cur wx).bind (isiD [c]) = some r := by rw [c1]; exact c2
              rw [this] at h1
              have h1 : outE Wx b σ fl Q (.ok (.d (.bl r)) e1) := h1
              have hx : Has b F H1 d v := E1.has (j := fl.length) (w := wx) (by simp) c1
              obtain ⟨t, f, t1, t2, t3⟩ := isi_ty (o.bok hb) E1.sub hx c2
              have t2 : r = (f c || false) := t2
              rw [Bool.or_false] at t2
              subst t2
              exact ⟨v, .ty c, t, .type c, f c, rfl, .ty c, t1, t3 _ hmem, h1 _ H1 True.intro ⟨F, O, E1.drop.pushD rfl⟩⟩
        · obtain ⟨p1, p2, p3, p4⟩ := o.free G h3
          obtain ⟨r1, r2, r3, r4⟩ := o.free G h5
          have hy : PE X (.Name y py) (tC (.ty c)) := pe_bltn p1 p2 (tyN_boot _ hm1) rfl p4 p3
          have hz : PE X (.Name z pz) (tC (.ty c')) := pe_bltn r1 r2 (tyN_boot _ hm2) rfl r4 r3
          refine wkE (pe_callB (id := "isinstance") call_isiTE q1 q2 PyProof.Rows.boot_isinstance (pa_cons (ha I X Wx G o ea h2) (pa_cons (pe_tup (pa_cons hy (pa_cons hz pa_nil))) pa_nil) st1) q4 q3 st1) fun σ H Q ⟨b, e, fl, hb, E, h⟩ => ?_
          rw [evE_isi] at h
          refine ⟨b, e, fl, hb, E, (outG.bnd0 h).mono ?_⟩
          rintro v H1 ⟨wx, e1, _, ⟨F, O, E1⟩, h1⟩
          cases c1 : e1.cur wx with
          | none => rw [c1] at h1; exact h1.elim
          | some d =>
            cases c2 : isiD [c, c'] d with
            | none =>
              have : (e1.cur wx).bind (isiD [c, c']) = none := by rw [c1]; exact c2
              rw [this] at h1; exact h1.elim
            | some r =>
              have : (e1.cur wx).bind (isiD [c, c']) = some r := by rw [c1]; exact c2
              rw [this] at h1
              have h1 : outE Wx b σ fl Q (.ok (.d (.bl r)) e1) := h1
              refine ⟨by show 2 ≤ sizeLine; decide, fun tp htp => ?_⟩
              have E2 := E1.laid (o := .tup [.ty c, .ty c']) htp
              have hx : Has b _ _ d v := E2.has (j := fl.length) (w := wx) (by simp) c1
              obtain ⟨t, f, t1, t2, t3⟩ := isi_ty (o.bok hb) E2.sub hx c2
              have t2 : r = (f c || (f c' || false)) := t2
              rw [Bool.or_false] at t2
              subst t2
              refine ⟨v, tp, [.ty c, .ty c'], t, [.type c, .type c'], f c || f c', rfl, upd_same, .cons (.ty c) (.cons (.ty c') .nil), t1, ?_, h1 _ _ True.intro ⟨_, _, E2.drop.pushD rfl⟩⟩
              refine kitAny_cons (b := f c) (t3 _ hm1) (fun q => ?_) (fun q => by rw [q]; rfl)
              rw [q, Bool.false_or]
              refine kitAny_cons (b := f c') (t3 _ hm2) (fun q => ?_) (fun q => by rw [q])
              rw [q]
              exact kitAny_nil
      | [], _, h => cases h
      | [_], _, h => cases h
      | _ :: _ :: _ :: _, _, h => cases h
      | [_, _], _ :: _, h => cases h
    | _ => cases h
  | _ => cases h
/-- X(), an own exception class without own __init__, as a value: a new exception object -/
theorem pe_exc0 {X : Cx} {C : Addr} {bmB : List Value} {B newId initId : String} {x : Str} {p pos : Pos} (F : ExcBaseFacts B newId initId bmB) (q : PySem.W.excIn X.K C bmB newId = true) (gC : X.mg x = some (.ref C)) (kC : PySem.W.keepIn X.K (.ref C) = true) (hg : Gl X x)
    (hdb : (x == ("__debug__" : Str)) = false) :
    PE X (.Call (.Name x p) [] [] pos) (fun σ H Q => ∀ a, H a = none → Q (.ref a) (upd H a (ExO (.ref C) a))) := by
  refine ⟨fun pins s σ H Q I h => ?_⟩
  refine wpAny_Call_Name_kw (ld_glob I hg gC ?_ hdb)
  refine PySem.W.callWith_K0 I.kIn kC ?_
  show wpAny _ _ (call (.ref C) []) _ _ _
  obtain ⟨bm, N, nm, qn, bs, hdct, sn, sub, ab, col, dd, k0, k1, k2, k3, k5, mN, hC, hN, hni, T⟩ := exc_obj I.kIn q
  refine wpAny_call_exc_subT F T hC hN hni (fun h' a hm => ?_) (Nat.zero_le _)
  have hn : H a = none := I.hok.gone hm.new
  obtain ⟨t, ht, _, _⟩ := hm.there
  exact ⟨.ref a, upd H a (ExO (.ref C) a), I.laidN hm.keeps hm.new hn (exO_ok ht ⟨rfl, rfl⟩ rfl rfl rfl (show 4 < 6 by decide)), rfl, h a hn⟩
theorem s_mk (c : Str) : SE g n (.mk c) := by
  intro I X Wx G o e h
  cases e with
  | Call f xs ks cp =>
    cases f with
    | Name x px =>
      match xs, ks, h with
      | [], [], h =>
        have h : (decide (x = c) && (gloB I x && (match lookN I.nm x with | some .exc => true | _ => false))) = true := h
        simp only [Bool.and_eq_true, decide_eq_true_eq] at h
        obtain ⟨rfl, h1, h2⟩ := h
        obtain ⟨q1, q2, q3⟩ := o.glo h1
        have hl : lookN I.nm x = some .exc := by
          split at h2
          · assumption
          · cases h2
        obtain ⟨g1, g2, g3, g4⟩ := G.exc x hl
        refine wkE (pe_exc0 PySem.F.excBase_ValueError (by rw [o.hK]; exact g3) (by rw [o.hm]; exact g1) (by rw [o.hK]; exact g2) q1 q2) fun σ H Q ⟨b, e, fl, hb, ⟨F, O, E⟩, h⟩ a ha => ?_
        have h : outE Wx b σ fl Q (.ok (.d (.exn x [] [])) e) := h
        refine h (.ref a) _ True.intro ⟨_, _, (E.laid ha).pushD ⟨a, rfl, ?_, rfl, rfl, by rw [hb.1]; exact g4⟩⟩
        rw [hb.1]
        exact upd_same
      | _ :: _, _, h => cases h
      | [], _ :: _, h => cases h
    | _ => cases h
  | _ => cases h
/-! ### tests -/
def plainT : Expr → Bool
  | .UnaryOp .Not _ _ => false
  | .BoolOp _ _ _ => false
  | .IfExp _ _ _ _ => false
  | .Compare _ _ _ _ => false
  | _ => true
def tagP : Ex → Bool
  | .and _ _ => false
  | .or _ _ => false
  | .not _ => false
  | .cmp _ _ _ => false
  | .chain _ _ _ _ _ => false
  | .ife _ _ _ => false
  | _ => true
theorem chk_plain {I : Inf} {m : Ex} {e : Expr} (h : chkE I m e = true) (hm : tagP m = true) : plainT e = true := by
  cases e with
  | BoolOp op es p =>
    exfalso
    unfold chkE at h
    cases m with
    | k d => cases d <;> cases h
    | and _ _ => cases hm
    | or _ _ => cases hm
    | _ => cases h
  | IfExp a b c p =>
    exfalso
    unfold chkE at h
    cases m with
    | k d => cases d <;> cases h
    | ife _ _ _ => cases hm
    | _ => cases h
  | Compare a b c p =>
    exfalso
    unfold chkE at h
    cases m with
    | k d => cases d <;> cases h
    | cmp _ _ _ => cases hm
    | chain _ _ _ _ _ => cases hm
    | _ => cases h
  | UnaryOp op a p =>
    cases op with
    | Not =>
      exfalso
      unfold chkE at h
      cases m with
      | k d => cases d <;> cases h
      | not _ => cases hm
      | _ => cases h
    | _ => rfl
  | _ => rfl
theorem plain_true {e : Expr} {env : PySem.Env} (h : plainT e = true) (whole : Sem Value) : isTrue e env whole = (do let v ← whole; standAt e.pos; holding [v] (truthy v)) := by
  cases e with
  | UnaryOp op a p => cases op <;> first | rfl | cases h
  | BoolOp _ _ _ => cases h
  | IfExp _ _ _ _ => cases h
  | Compare _ _ _ _ => cases h
  | _ => rfl
theorem plain_bool {e : Expr} (h : plainT e = true) : isBool e = false := by
  cases e with
  | BoolOp _ _ _ => cases h
  | _ => rfl
theorem evT_plain {cal : Cal} {m : Ex} (hm : tagP m = true) (e : Env) : evT cal m e = bT (evE cal m) e := by
  cases m <;> first | rfl | cases hm
theorem st_plain {m : Ex} (hm : tagP m = true) (hs : SE g n m) : STs g n m := by
  intro I X Wx G o e h
  have hp := chk_plain h hm
  refine ⟨wkT (pt_truth (hs I X Wx G o e h) (plain_true hp)) fun σ H Q ⟨b, e, fl, hb, E, h⟩ => ?_, fun z => by rw [plain_bool hp] at z; cases z⟩
  rw [evT_plain hm] at h
  refine ⟨b, e, fl, hb, E, (outG.bnd0 h).mono ?_⟩
  rintro x H1 ⟨wx, e1, _, ⟨F, O, E1⟩, h1⟩
  cases c1 : (e1.cur wx).bind truth with
  | none => rw [c1] at h1; exact h1.elim
  | some k =>
    rw [c1] at h1
    have h1 : outT Wx b σ fl Q (.ok k e1) := h1
    exact ⟨k, tru_rd o hb E1 c1, h1 k H1 rfl ⟨F, O, by simpa using E1.drop⟩⟩
/-- a comparison as a test -/
theorem st_bool {m : Ex} (hv : ∀ cal e, evT cal m e = bT (evE cal m) e) (hb : ∀ cal e w e1, evE cal m e = .ok w e1 → ∃ c, w = .d (.bl c)) {X : Cx} {Wx : Kx} {I : Inf} (o : XO g I n Wx X) {e : Expr} {t : TE} (ht : ∀ {σ H Q}, rdE g n Wx m σ H Q → t σ H Q) (hp : PT X e (tTest t)) : PT X e (rdT g n Wx m) := by
  refine wkT hp fun σ H Q ⟨b, e, fl, hb', E, h⟩ => ht ⟨b, e, fl, hb', E, ?_⟩
  rw [hv] at h
  cases c : evE (callN g.T n) m e with
  | ok w e1 =>
    obtain ⟨k, rfl⟩ := hb _ _ _ _ c
    unfold bT at h
    rw [c] at h
    have h : outT Wx b σ fl Q (.ok k e1) := h
    rintro v H1 _ ⟨F, O, E1⟩
    have hv : v = .bl k := E1.flr fl.length v (.d (.bl k)) (by simp)
    exact ⟨k, hv, h k H1 rfl ⟨F, O, by simpa using E1.drop⟩⟩
  | exc x e1 =>
    unfold bT at h
    rw [c] at h
    exact h
  | bad =>
    unfold bT at h
    rw [c] at h
    exact h
end
end Mi

set_option Elab.async false
set_option linter.all false
set_option maxRecDepth 100000
set_option maxHeartbeats 1000000
/-! Mi14: tests and what loops walk. -/
namespace Mi
open PySem L2
section
variable {g : Gi} {n : Nat}
theorem map_bl {o : Option Bool} {e e1 : Env} {w : W} (h : R.ofO (o.map fun c => W.d (.bl c)) e = .ok w e1) : ∃ c, w = .d (.bl c) := by
  cases o with
  | none => cases h
  | some c => cases h; exact ⟨c, rfl⟩
theorem bnd_ok {α β : Type} {r : R α} {f : α → Env → R β} {y : β} {e : Env} (h : r.bnd f = .ok y e) : ∃ a e1, r = .ok a e1 ∧ f a e1 = .ok y e := by
  cases r with
  | ok a e1 => exact ⟨a, e1, rfl, h⟩
  | exc _ _ => cases h
  | bad => cases h
theorem st_cmp (op : CmpOp) (a c : Ex) (ha : SE g n a) (hc : SE g n c) : STs g n (.cmp op a c) := by
  intro I X Wx G o e h
  cases e with
  | Compare ea ops es p =>
    match ops, es, h with
    | [op'], [ec], h =>
      have h : (decide (op = op') && (!behindInMarks op ec && (chkE I a ea && chkE I c ec))) = true := h
      simp only [Bool.and_eq_true, decide_eq_true_eq, Bool.not_eq_true'] at h
      obtain ⟨rfl, hm, h1, h2⟩ := h
      obtain ⟨r, h3, h4⟩ := cmp_ok (X := X) o.units op
      refine ⟨st_bool (fun _ _ => rfl) (fun cal e w e1 q => ?_) o (fun {σ H Q} q => two_rd o h4 (fun e => evE_cmp _ e) q) (pt_cmpR h3 (ha I X Wx G o ea h1) (hc I X Wx G o ec h2) hm), fun z => (nomatch z)⟩
      rw [evE_cmp] at q
      obtain ⟨x, e2, _, q⟩ := bnd_ok q
      obtain ⟨y, e3, _, q⟩ := bnd_ok q
      cases c1 : e3.cur x with
      | none => rw [c1] at q; cases q
      | some p =>
        cases c2 : e3.cur y with
        | none => rw [c1, c2] at q; cases q
        | some p' => rw [c1, c2] at q; exact map_bl q
    | [], _, h => cases h
    | _ :: _ :: [], [_], h => cases h
    | _ :: _ :: _ :: _, _, h => cases h
    | [_], [], h => cases h
    | [_], _ :: _ :: _, h => cases h
    | [_, _], [], h => cases h
    | [_, _], [_, _], h => cases h
    | [_, _], _ :: _ :: _ :: _, h => cases h
  | _ => cases h
theorem st_chain (op op' : CmpOp) (a c d : Ex) (ha : SE g n a) (hc : SE g n c) (hd : SE g n d) : STs g n (.chain op op' a c d) := by
  intro I X Wx G o e h
  cases e with
  | Compare ea ops es p =>
    match ops, es, h with
    | [o1, o2], [ec, ed], h =>
      have h : ((decide (op = o1) && decide (op' = o2)) && (!behindInMarks op' ed && (chkE I a ea && (chkE I c ec && chkE I d ed)))) = true := h
      simp only [Bool.and_eq_true, decide_eq_true_eq, Bool.not_eq_true'] at h
      obtain ⟨⟨rfl, rfl⟩, hm, h1, h2, h3⟩ := h
      obtain ⟨r, r1, r2⟩ := cmp_ok (X := X) o.units op
      obtain ⟨r', r3, r4⟩ := cmp_ok (X := X) o.units op'
      refine ⟨st_bool (fun _ _ => rfl) (fun cal e w e1 q => ?_) o (fun {σ H Q} q => chain_rd o r2 r4 q) (pt_chain r1 r3 (ha I X Wx G o ea h1) (hc I X Wx G o ec h2) (hd I X Wx G o ed h3) hm), fun z => (nomatch z)⟩
      rw [evE_chain] at q
      obtain ⟨x, e2, _, q⟩ := bnd_ok q
      obtain ⟨y, e3, _, q⟩ := bnd_ok q
      cases c1 : e3.cur x with
      | none => rw [c1] at q; cases q
      | some p =>
        cases c2 : e3.cur y with
        | none => rw [c1, c2] at q; cases q
        | some p' =>
          rw [c1, c2] at q
          have q : (match opCmp op p p' with
            | some true => (evE cal d e3).bnd fun z e3 => (match e3.cur y, e3.cur z with
              | some q', some r => R.ofO ((opCmp op' q' r).map fun c => W.d (.bl c)) e3
              | _, _ => .bad)
            | some false => .ok (W.d (.bl false)) e3
            | none => .bad) = .ok w e1 := q
          cases c3 : opCmp op p p' with
          | none => rw [c3] at q; cases q
          | some k =>
            rw [c3] at q
            cases k with
            | false => cases q; exact ⟨false, rfl⟩
            | true =>
              obtain ⟨z, e4, _, q⟩ := bnd_ok q
              cases c4 : e4.cur y with
              | none => rw [c4] at q; cases q
              | some p2 =>
                cases c5 : e4.cur z with
                | none => rw [c4, c5] at q; cases q
                | some p3 => rw [c4, c5] at q; exact map_bl q
    | [], _, h => cases h
    | [_], [_], h => cases h
    | [_], [], h => cases h
    | [_], _ :: _ :: _, h => cases h
    | _ :: _ :: _ :: _, _, h => cases h
    | [_, _], [], h => cases h
    | [_, _], [_], h => cases h
    | [_, _], _ :: _ :: _ :: _, h => cases h
  | _ => cases h
theorem andT_rd {Wx : Kx} {a c : Ex} {σ : L2.St} {H : Hp} {Q : Bool → Hp → Prop} (h : rdT g n Wx (.and a c) σ H Q) : tAnd (rdT g n Wx a) (rdT g n Wx c) σ H Q := by
  obtain ⟨b, e, fl, hb, E, h⟩ := h
  rw [evT_and] at h
  refine ⟨b, e, fl, hb, E, (outG.bnd0 h).mono ?_⟩
  rintro t H1 ⟨t', e1, rfl, E1, h1⟩
  have E1 := E1.drop
  cases t with
  | true => exact ⟨b, e1, fl, hb, E1, h1⟩
  | false => exact h1 false H1 rfl (by simpa using E1)
theorem orT_rd {Wx : Kx} {a c : Ex} {σ : L2.St} {H : Hp} {Q : Bool → Hp → Prop} (h : rdT g n Wx (.or a c) σ H Q) : tOr (rdT g n Wx a) (rdT g n Wx c) σ H Q := by
  obtain ⟨b, e, fl, hb, E, h⟩ := h
  rw [evT_or] at h
  refine ⟨b, e, fl, hb, E, (outG.bnd0 h).mono ?_⟩
  rintro t H1 ⟨t', e1, rfl, E1, h1⟩
  have E1 := E1.drop
  cases t with
  | true => exact h1 true H1 rfl (by simpa using E1)
  | false => exact ⟨b, e1, fl, hb, E1, h1⟩
theorem st_and (a c : Ex) (ha : STs g n a) (hc : STs g n c) : STs g n (.and a c) := by
  intro I X Wx G o e h
  have pw : PW X e (rdT g n Wx (.and a c)) := by
    cases e with
    | BoolOp op es p =>
      cases op with
      | And =>
        match es, h with
        | [ea, ec], h =>
          have h : (chkE I a ea && chkE I c ec) = true := h
          obtain ⟨h1, h2⟩ := Bool.and_eq_true_iff.mp h
          exact wkW (pw_and (ha I X Wx G o ea h1).1 (pw_and1 (hc I X Wx G o ec h2).1)) fun σ H Q q => andT_rd q
        | ea :: ec :: ed :: r, h =>
          have h : (chkE I a ea && chkE I c (.BoolOp .And (ec :: ed :: r) p)) = true := h
          obtain ⟨h1, h2⟩ := Bool.and_eq_true_iff.mp h
          exact wkW (pw_and (ha I X Wx G o ea h1).1 ((hc I X Wx G o _ h2).2 rfl)) fun σ H Q q => andT_rd q
        | [], h => cases h
        | [_], h => cases h
      | Or => cases h
    | _ => cases h
  exact ⟨pw.pt, fun _ => pw⟩
theorem st_or (a c : Ex) (ha : STs g n a) (hc : STs g n c) : STs g n (.or a c) := by
  intro I X Wx G o e h
  have pw : PW X e (rdT g n Wx (.or a c)) := by
    cases e with
    | BoolOp op es p =>
      cases op with
      | Or =>
        match es, h with
        | [ea, ec], h =>
          have h : (chkE I a ea && chkE I c ec) = true := h
          obtain ⟨h1, h2⟩ := Bool.and_eq_true_iff.mp h
          exact wkW (pw_or (ha I X Wx G o ea h1).1 (pw_or1 (hc I X Wx G o ec h2).1)) fun σ H Q q => orT_rd q
        | ea :: ec :: ed :: r, h =>
          have h : (chkE I a ea && chkE I c (.BoolOp .Or (ec :: ed :: r) p)) = true := h
          obtain ⟨h1, h2⟩ := Bool.and_eq_true_iff.mp h
          exact wkW (pw_or (ha I X Wx G o ea h1).1 ((hc I X Wx G o _ h2).2 rfl)) fun σ H Q q => orT_rd q
        | [], h => cases h
        | [_], h => cases h
      | And => cases h
    | _ => cases h
  exact ⟨pw.pt, fun _ => pw⟩
theorem st_not (a : Ex) (ha : STs g n a) : STs g n (.not a) := by
  intro I X Wx G o e h
  cases e with
  | UnaryOp op ea p =>
    cases op with
    | Not =>
      have h : chkE I a ea = true := h
      refine ⟨wkT (pt_not (ha I X Wx G o ea h).1) fun σ H Q ⟨b, e, fl, hb, E, h⟩ => ?_, fun z => (nomatch z)⟩
      rw [evT_not] at h
      refine ⟨b, e, fl, hb, E, (outG.bnd0 h).mono ?_⟩
      rintro t H1 ⟨t', e1, rfl, E1, h1⟩
      exact h1 (!t) H1 rfl (by simpa using E1)
    | _ => cases h
  | _ => cases h
theorem st_ife (c a d : Ex) : STs g n (.ife c a d) := by
  intro I X Wx G o e h
  cases e with
  | IfExp _ _ _ _ => exact ⟨⟨fun pins s σ H Q I q => let ⟨_, _, _, _, _, h⟩ := q; h.elim⟩, fun z => (nomatch z)⟩
  | _ => cases h
/-! ### what loops walk -/
theorem get_end {l : List (V × W)} {p : V × W} : (l ++ [p])[l.length]? = some p := by simp
theorem it_list {b : Bs} {a : Addr} {xs : List D} : ItOk b (Itl b.K a) xs [(.ref a, .d (.lst xs))] where
  nos := fun p hp => by have := List.mem_singleton.mp hp; subst this; exact ⟨_, rfl⟩
  go := fun F O σ H e fl i E hi => by
    obtain ⟨a', vs, e1, h, r⟩ := E.flr _ _ _ get_end
    cases e1
    obtain ⟨v, hv, _⟩ := r.get (List.getElem?_eq_getElem hi)
    exact ⟨vs, v, sqL_mono E.sub h, hv⟩
  stop := fun F O σ H e fl E => by
    obtain ⟨a', vs, e1, h, r⟩ := E.flr _ _ _ get_end
    cases e1
    exact ⟨vs, sqL_mono E.sub h, Nat.le_of_eq r.length.symm⟩
  yld := fun F O σ H e fl i x H' d E hd y => by
    obtain ⟨a', vs, e1, h, r⟩ := E.flr _ _ _ get_end
    cases e1
    obtain ⟨rfl, y⟩ := y
    obtain ⟨v, hv, rv⟩ := r.get hd
    have := y vs (sqL_mono E.sub h)
    rw [hv] at this
    cases this
    exact ⟨F, O, E, rv⟩
theorem it_tup {b : Bs} {a : Addr} {xs : List D} : ItOk b (Itt b.K a) xs [(.ref a, .d (.tup xs))] where
  nos := fun p hp => by have := List.mem_singleton.mp hp; subst this; exact ⟨_, rfl⟩
  go := fun F O σ H e fl i E hi => by
    obtain ⟨a', vs, e1, h, r⟩ := E.flr _ _ _ get_end
    cases e1
    obtain ⟨v, hv, _⟩ := r.get (List.getElem?_eq_getElem hi)
    exact ⟨vs, v, sqT_mono E.sub h, hv⟩
  stop := fun F O σ H e fl E => by
    obtain ⟨a', vs, e1, h, r⟩ := E.flr _ _ _ get_end
    cases e1
    exact ⟨vs, sqT_mono E.sub h, Nat.le_of_eq r.length.symm⟩
  yld := fun F O σ H e fl i x H' d E hd y => by
    obtain ⟨a', vs, e1, h, r⟩ := E.flr _ _ _ get_end
    cases e1
    obtain ⟨rfl, y⟩ := y
    obtain ⟨v, hv, rv⟩ := r.get hd
    have := y vs (sqT_mono E.sub h)
    rw [hv] at this
    cases this
    exact ⟨F, O, E, rv⟩
theorem it_str {b : Bs} {z : Str} : ItOk b (Its z) (z.cps.toList.map fun c => D.str ⟨#[c]⟩) [] where
  nos := fun p hp => by cases hp
  go := fun F O σ H e fl i E hi => by
    show i < z.cps.size
    simpa using hi
  stop := fun F O σ H e fl E => by
    show z.cps.size ≤ (z.cps.toList.map fun c => D.str ⟨#[c]⟩).length
    simp
  yld := fun F O σ H e fl i x H' d E hd y => by
    obtain ⟨rfl, c, hc, rfl⟩ := y
    rw [List.getElem?_map, Array.getElem?_toList, hc] at hd
    cases hd
    exact ⟨F, O, E, rfl, by show 1 ≤ lim; decide⟩
theorem it_rng {b : Bs} {lo hi : Int} : ItOk b (Itr lo (hi - lo).toNat) (rngD lo hi) [] where
  nos := fun p hp => by cases hp
  go := fun F O σ H e fl i E h => by
    show i < (hi - lo).toNat
    simpa [rngD] using h
  stop := fun F O σ H e fl E => by
    show (hi - lo).toNat ≤ (rngD lo hi).length
    simp [rngD]
  yld := fun F O σ H e fl i x H' d E hd y => by
    obtain ⟨rfl, rfl⟩ := y
    unfold rngD at hd
    rw [List.getElem?_map] at hd
    cases q : (List.range (hi - lo).toNat)[i]? with
    | none => rw [q] at hd; cases hd
    | some k =>
      rw [q] at hd
      have hk : k = i := by
        have := (List.getElem?_eq_some_iff.mp q)
        obtain ⟨h1, h2⟩ := this
        rw [List.getElem_range] at h2
        exact h2.symm
      subst hk
      cases hd
      exact ⟨F, O, E, rfl⟩
theorem enD_get : ∀ {ds : List D} {k i : Nat}, (enD k ds)[i]? = (ds[i]?).map fun d => .tup [.int ((k + i : Nat) : Int), d]
  | [], k, i => by simp [enD]
  | d :: ds, k, 0 => by simp [enD]
  | d :: ds, k, i + 1 => by
    show (enD (k + 1) ds)[i]? = _
    rw [enD_get]
    have : k + 1 + i = k + (i + 1) := by omega
    rw [this] <;> rfl
theorem enD_len : ∀ {ds : List D} {k : Nat}, (enD k ds).length = ds.length
  | [], _ => rfl
  | d :: ds, k => by show (enD (k + 1) ds).length + 1 = _; rw [enD_len] <;> rfl
theorem it_enum {b : Bs} {a : Addr} {xs : List D} : ItOk b (Ite b.K a) (enD 0 xs) [(.ref a, .d (.lst xs))] where
  nos := fun p hp => by have := List.mem_singleton.mp hp; subst this; exact ⟨_, rfl⟩
  go := fun F O σ H e fl i E hi => by
    obtain ⟨a', vs, e1, h, r⟩ := E.flr _ _ _ get_end
    cases e1
    rw [enD_len] at hi
    obtain ⟨v, hv, _⟩ := r.get (List.getElem?_eq_getElem hi)
    exact ⟨vs, v, sqL_mono E.sub h, hv⟩
  stop := fun F O σ H e fl E => by
    obtain ⟨a', vs, e1, h, r⟩ := E.flr _ _ _ get_end
    cases e1
    exact ⟨vs, sqL_mono E.sub h, by rw [enD_len]; exact Nat.le_of_eq r.length.symm⟩
  yld := fun F O σ H e fl i x H' d E hd y => by
    obtain ⟨a', vs, e1, h, r⟩ := E.flr _ _ _ get_end
    cases e1
    obtain ⟨T, v, rfl, hT, rfl, y⟩ := y
    rw [enD_get, Nat.zero_add] at hd
    cases q : xs[i]? with
    | none => rw [q] at hd; cases hd
    | some d' =>
      rw [q] at hd
      cases hd
      obtain ⟨u, hu, ru⟩ := r.get q
      have := y vs (sqL_mono E.sub h)
      rw [hu] at this
      cases this
      have rr : RepL b.K F [.int (i : Int), d'] [.int (i : Int), v] := ⟨_, _, rfl, rfl, RepL.one ru⟩
      have E1 := E.pushT hT rr
      exact ⟨_, _, E1.drop, E1.flr _ _ _ get_end⟩
theorem zpD_get : ∀ {as bs : List D} {i : Nat} {d : D}, (zpD as bs)[i]? = some d → ∃ x y, as[i]? = some x ∧ bs[i]? = some y ∧ d = .tup [x, y]
  | [], _, i, d, h => by simp [zpD] at h
  | _ :: _, [], i, d, h => by simp [zpD] at h
  | a :: as, c :: bs, 0, d, h => by
    simp [zpD] at h
    exact ⟨a, c, rfl, rfl, h.symm⟩
  | a :: as, c :: bs, i + 1, d, h => by
    obtain ⟨x, y, h1, h2, h3⟩ := zpD_get (as := as) (bs := bs) (i := i) (d := d) (by simpa [zpD] using h)
    exact ⟨x, y, by simpa using h1, by simpa using h2, h3⟩
theorem zpD_len : ∀ {as bs : List D}, (zpD as bs).length = min as.length bs.length
  | [], _ => by simp [zpD]
  | _ :: _, [] => by simp [zpD]
  | a :: as, c :: bs => by
    show (zpD as bs).length + 1 = _
    rw [zpD_len]
    simp
theorem it_zip {b : Bs} {a c : Addr} {xs ys : List D} : ItOk b (Itz b.K a c) (zpD xs ys) [(.ref a, .d (.lst xs)), (.ref c, .d (.lst ys))] where
  nos := fun p hp => by
    rcases List.mem_cons.mp hp with rfl | hp
    · exact ⟨_, rfl⟩
    · exact by have := List.mem_singleton.mp hp; subst this; exact ⟨_, rfl⟩
  go := fun F O σ H e fl i E hi => by
    obtain ⟨a', vs, e1, h, r⟩ := E.flr fl.length (.ref a) (.d (.lst xs)) (by simp)
    obtain ⟨c', us, e2, h2, r2⟩ := E.flr (fl.length + 1) (.ref c) (.d (.lst ys)) (by simp)
    cases e1
    cases e2
    rw [zpD_len] at hi
    obtain ⟨v, hv, _⟩ := r.get (List.getElem?_eq_getElem (show i < xs.length by omega))
    obtain ⟨u, hu, _⟩ := r2.get (List.getElem?_eq_getElem (show i < ys.length by omega))
    exact ⟨vs, us, v, u, sqL_mono E.sub h, sqL_mono E.sub h2, hv, hu⟩
  stop := fun F O σ H e fl E => by
    obtain ⟨a', vs, e1, h, r⟩ := E.flr fl.length (.ref a) (.d (.lst xs)) (by simp)
    obtain ⟨c', us, e2, h2, r2⟩ := E.flr (fl.length + 1) (.ref c) (.d (.lst ys)) (by simp)
    cases e1
    cases e2
    refine ⟨vs, us, sqL_mono E.sub h, sqL_mono E.sub h2, ?_⟩
    rw [zpD_len, ← r.length, ← r2.length]
    omega
  yld := fun F O σ H e fl i x H' d E hd y => by
    obtain ⟨a', vs, e1, h, r⟩ := E.flr fl.length (.ref a) (.d (.lst xs)) (by simp)
    obtain ⟨c', us, e2, h2, r2⟩ := E.flr (fl.length + 1) (.ref c) (.d (.lst ys)) (by simp)
    cases e1
    cases e2
    obtain ⟨T, v, u, rfl, hT, rfl, y1, y2⟩ := y
    obtain ⟨d1, d2, q1, q2, rfl⟩ := zpD_get hd
    obtain ⟨v', hv, rv⟩ := r.get q1
    obtain ⟨u', hu, ru⟩ := r2.get q2
    have t1 := y1 vs (sqL_mono E.sub h)
    have t2 := y2 us (sqL_mono E.sub h2)
    rw [hv] at t1
    rw [hu] at t2
    cases t1
    cases t2
    have rr : RepL b.K F [d1, d2] [v, u] := ⟨_, _, rfl, rv, RepL.one ru⟩
    have E1 := E.pushT hT rr
    exact ⟨_, _, E1.drop, E1.flr _ _ _ get_end⟩
/-- a list, a tuple or a text is walked -/
def iSeq (K : PySem.W.Frag) (tl : TE) : TI := fun σ H R => tl σ H fun x H1 => (∃ a, x = .ref a ∧ (∃ xs, SqL K H1 a xs) ∧ R (Itl K a) H1) ∨ (∃ a, x = .ref a ∧ (∃ xs, SqT K H1 a xs) ∧ R (Itt K a) H1) ∨ (∃ z, x = .str z ∧ R (Its z) H1)
theorem pi_seq {X : Cx} {tg l : Expr} {tl : TE} (hl : PE X l tl) : PI X tg l (iSeq X.K tl) := by
  refine ⟨fun pins s σ H R I h => ?_⟩
  have h1 := hl.run pins s σ H _ I h
  refine thn h1 fun v s1 ⟨x, H1, I1, r1, q1⟩ => ?_
  -- the value is there: walk it by the rule for its kind
  have one : ∀ {t : TE}, PE X l t → True := fun _ => True.intro
  rcases q1 with ⟨a, rfl, ⟨xs, hq⟩, q⟩ | ⟨a, rfl, ⟨xs, hq⟩, q⟩ | ⟨z, rfl, q⟩
  · cases r1
    obtain ⟨its, rv, p, hz⟩ := I1.list hq
    refine wpAny_pyIter_list p.isList ?_
    refine ⟨s1.heap.objs.size, [s1.heap.objs.size], _, _, H1, rfl, I1.kept (t' := s1.toks) fun b o e => Heap.get?_push_of_some _ e, turn_list a _, ⟨_, Heap.get?_push_size _ rfl, rfl, rfl⟩, fun b hb => ?_, q⟩
    have e : b = s1.heap.objs.size := by simpa using hb
    subst e
    exact I1.fpOk (Nat.le_refl _) (I1.hok.fresh (Nat.le_refl _))
  · cases r1
    obtain ⟨its, rv, p, hz⟩ := I1.tuple hq
    refine wpAny_pyIter_tuple (show s1.heap.IsTuple a its.toArray from p) ?_
    refine ⟨s1.heap.objs.size, [s1.heap.objs.size], _, _, H1, rfl, I1.kept (t' := s1.toks) fun b o e => Heap.get?_push_of_some _ e, turn_tuple a _, ⟨_, Heap.get?_push_size _ rfl, rfl, rfl⟩, fun b hb => ?_, q⟩
    have e : b = s1.heap.objs.size := by simpa using hb
    subst e
    exact I1.fpOk (Nat.le_refl _) (I1.hok.fresh (Nat.le_refl _))
  · obtain ⟨t, rfl⟩ := r1
    cases ha : z.cps.all (· < 128)
    · exact wpAny_pyIter_wide ha (pi_one (tk := s1.toks) I1 _ (turn_str _ z t "str_iterator" (.inr rfl)) ⟨_, Heap.get?_push_size _ rfl, rfl, rfl⟩ q)
    · exact wpAny_pyIter_ascii ha (pi_one (tk := s1.toks) I1 _ (turn_str _ z t "str_ascii_iterator" (.inl rfl)) ⟨_, Heap.get?_push_size _ rfl, rfl, rfl⟩ q)
end
end Mi

set_option Elab.async false
set_option linter.all false
set_option maxRecDepth 100000
set_option maxHeartbeats 1000000
/-! Mi15: what loops walk, by its form. -/
namespace Mi
open PySem L2
section
variable {g : Gi} {n : Nat}
def outI (g : Gi) (n : Nat) (Wx : Kx) (b : Bs) (σ : L2.St) (fl : List (V × W)) (R : It → Hp → Prop) : Mi.R (List D) → Prop
  | .ok xs e1 => ∀ J H' ent, ItOk b J xs ent → ERx b σ H' e1 (fl ++ ent) → R J H'
  | .exc x e1 => ∀ H' cls d, ERex b σ H' e1 fl x cls d → Wx σ cls d H'
  | .bad => False
theorem rdI_iff {Wx : Kx} {m : Ex} {σ : L2.St} {H : Hp} {R : It → Hp → Prop} (h : rdI g n Wx m σ H R) : ∃ b e fl, BokG g b ∧ ERx b σ H e fl ∧ outI g n Wx b σ fl R (evI (callN g.T n) m e) := by
  obtain ⟨b, e, fl, hb, E, h⟩ := h
  refine ⟨b, e, fl, hb, E, ?_⟩
  cases q : evI (callN g.T n) m e with
  | ok xs e1 => rw [q] at h; exact h
  | exc x e1 => rw [q] at h; exact h
  | bad => rw [q] at h; exact h
/-- the values first, then the walk -/
theorem outI.bnd {α β : Type} {okr : α → β → Prop} {psh : α → β → List (V × W)} {Wx : Kx} {b : Bs} {σ : L2.St} {fl : List (V × W)} {R : It → Hp → Prop} {r : Mi.R α} {f : α → Env → Mi.R (List D)} (h : outI g n Wx b σ fl R (r.bnd f)) :
    outG okr psh Wx b σ fl (fun y H1 => ∃ a e1, okr a y ∧ ERx b σ H1 e1 (fl ++ psh a y) ∧ outI g n Wx b σ fl R (f a e1)) r := by
  cases r with
  | ok a e => exact fun y H' h1 h2 => ⟨a, e, h1, h2, h⟩
  | exc x e => exact fun H' cls d h1 => h H' cls d h1
  | bad => exact h
theorem Rep.lst_ref {K : PySem.W.Frag} {F : Hp} {xs : List D} {v : V} (h : Rep K F (.lst xs) v) : ∃ a vs, v = .ref a ∧ SqL K F a vs := let ⟨a, vs, h1, h2, _⟩ := h; ⟨a, vs, h1, h2⟩
theorem si_plain {m : Ex} (hI : ∀ cal e, evI cal m e = bI (evE cal m) e) (hc : ∀ I t e, chkI I m t e = true → chkE I m e = true) (hm : SE g n m) : SI g n m := by
  intro I X Wx G o tg e h
  refine wkI (pi_seq (hm I X Wx G o e (hc _ _ _ h))) fun σ H R q => ?_
  obtain ⟨b, e, fl, hb, E, h⟩ := rdI_iff q
  rw [hI] at h
  unfold bI at h
  refine ⟨b, e, fl, hb, E, (outI.bnd h).mono ?_⟩
  rintro v H1 ⟨w, e1, _, ⟨F, O, E1⟩, h1⟩
  have hK : X.K = b.K := by rw [o.hK]; exact hb.1.symm
  cases c1 : e1.tak w with
  | none => rw [c1] at h1; exact h1.elim
  | some p =>
    obtain ⟨d, e2⟩ := p
    rw [c1] at h1
    obtain ⟨F2, O2, E2, s2, r2, _⟩ := E1.tak (l2 := []) c1
    cases d with
    | lst xs =>
      have h1 : ∀ J H' ent, ItOk b J xs ent → ERx b σ H' e2 (fl ++ ent) → R J H' := h1
      obtain ⟨a, vs, e1, hF⟩ := r2.lst_ref
      subst e1
      refine .inl ⟨a, rfl, ⟨vs, by rw [hK]; exact sqL_mono E2.sub hF⟩, ?_⟩
      rw [hK]
      exact h1 _ _ _ it_list ⟨F2, O2, E2⟩
    | tup xs =>
      have h1 : ∀ J H' ent, ItOk b J xs ent → ERx b σ H' e2 (fl ++ ent) → R J H' := h1
      obtain ⟨a, vs, e1, hF, _⟩ := r2
      subst e1
      refine .inr (.inl ⟨a, rfl, ⟨vs, by rw [hK]; exact sqT_mono E2.sub hF⟩, ?_⟩)
      rw [hK]
      exact h1 _ _ _ it_tup ⟨F2, O2, E2⟩
    | str z =>
      have h1 : ∀ J H' ent, ItOk b J (z.cps.toList.map fun c => D.str ⟨#[c]⟩) ent → ERx b σ H' e2 (fl ++ ent) → R J H' := h1
      obtain ⟨e1, _⟩ := r2
      subst e1
      exact .inr (.inr ⟨z, rfl, h1 _ _ _ it_str (by simpa using ⟨F2, O2, E2.drop⟩)⟩)
    | _ => exact h1.elim
theorem evA_one {cal : Cal} {a : Ex} {e : Env} : evA cal (.cons a .nil) e = (evE cal a e).bnd fun x e1 => .ok [x] e1 := rfl
theorem chkA_one {I : Inf} {a : Ex} {e : Expr} (h : chkE I a e = true) : chkA I (.cons a .nil) [e] = true := Bool.and_eq_true_iff.mpr ⟨h, rfl⟩
theorem chkA_two {I : Inf} {a c : Ex} {e e' : Expr} (h : chkE I a e = true) (h' : chkE I c e' = true) : chkA I (.cons a (.cons c .nil)) [e, e'] = true := Bool.and_eq_true_iff.mpr ⟨h, Bool.and_eq_true_iff.mpr ⟨h', rfl⟩⟩
theorem star1 {I : Inf} {a : Ex} {e : Expr} {env : PySem.Env} (h : chkE I a e = true) : starEach [e] env = [(false, eval e env)] := star_cons (chkE_star h)
theorem star2 {I : Inf} {a c : Ex} {e e' : Expr} {env : PySem.Env} (h : chkE I a e = true) (h' : chkE I c e' = true) : starEach [e, e'] env = [(false, eval e env), (false, eval e' env)] := by
  rw [star_cons (chkE_star h), star1 h']
theorem Has.intV {b : Bs} {F H : Hp} {i : Int} {v : V} (h : Has b F H (.int i) v) : v = .int i := by
  rcases h with h | ⟨a, _, h⟩
  · exact h
  · exact h.elim
/-- one value, then the walk -/
theorem rd1 {Wx : Kx} {m a : Ex} {f : W → Env → Mi.R (List D)} (hv : ∀ e, evI (callN g.T n) m e = (evE (callN g.T n) a e).bnd f) {σ : L2.St} {H : Hp} {R : It → Hp → Prop} {Q : List V → Hp → Prop} (q : rdI g n Wx m σ H R)
    (hQ : ∀ b fl v w H1 e1 F O, BokG g b → ER b F O σ H1 e1 (fl ++ [(v, w)]) → outI g n Wx b σ fl R (f w e1) → Q [v] H1) : rdA g n Wx (.cons a .nil) σ H Q := by
  obtain ⟨b, e, fl, hb, E, h⟩ := rdI_iff q
  rw [hv] at h
  refine ⟨b, e, fl, hb, E, ?_⟩
  rw [evA_one]
  cases c : evE (callN g.T n) a e with
  | bad => rw [c] at h; exact h
  | exc x e1 => rw [c] at h; exact h
  | ok w e1 =>
    rw [c] at h
    have h : outI g n Wx b σ fl R (f w e1) := h
    intro vs H' hl ⟨F, O, E1⟩
    match vs, hl with
    | [v], _ => exact hQ b fl v w H' e1 F O hb E1 h
theorem rd2 {Wx : Kx} {m a c : Ex} {f : W → W → Env → Mi.R (List D)} (hv : ∀ e, evI (callN g.T n) m e = (evE (callN g.T n) a e).bnd fun x e1 => (evE (callN g.T n) c e1).bnd (f x)) {σ : L2.St} {H : Hp} {R : It → Hp → Prop} {Q : List V → Hp → Prop} (q : rdI g n Wx m σ H R)
    (hQ : ∀ b fl v w v' w' H1 e1 F O, BokG g b → ER b F O σ H1 e1 (fl ++ [(v, w), (v', w')]) → outI g n Wx b σ fl R (f w w' e1) → Q [v, v'] H1) : rdA g n Wx (.cons a (.cons c .nil)) σ H Q := by
  obtain ⟨b, e, fl, hb, E, h⟩ := rdI_iff q
  rw [hv] at h
  refine ⟨b, e, fl, hb, E, ?_⟩
  rw [evA_cons]
  cases c1 : evE (callN g.T n) a e with
  | bad => rw [c1] at h; exact h
  | exc x e1 => rw [c1] at h; exact h
  | ok w e1 =>
    rw [c1] at h
    show outA Wx b σ fl Q ((evA (callN g.T n) (.cons c .nil) e1).bnd fun ws e2 => .ok (w :: ws) e2)
    rw [evA_one]
    have h : outI g n Wx b σ fl R ((evE (callN g.T n) c e1).bnd (f w)) := h
    cases c2 : evE (callN g.T n) c e1 with
    | bad => rw [c2] at h; exact h
    | exc x e2 => rw [c2] at h; exact h
    | ok w' e2 =>
      rw [c2] at h
      have h : outI g n Wx b σ fl R (f w w' e2) := h
      intro vs H' hl ⟨F, O, E1⟩
      match vs, hl with
      | [v, v'], _ => exact hQ b fl v w v' w' H' e2 F O hb E1 h
theorem get_p1 {l : List (V × W)} {p q : V × W} : (l ++ [p, q])[l.length]? = some p := by simp
theorem get_p2 {l : List (V × W)} {p q : V × W} : (l ++ [p, q])[l.length + 1]? = some q := by simp
theorem si_rng1 (a : Ex) (ha : SE g n a) : SI g n (.rng1 a) := by
  intro I X Wx G o tg e h
  cases e with
  | Call f xs ks cp =>
    cases f with
    | Name x px =>
      match xs, ks, h with
      | [ea], [], h =>
        have h : (decide (x = "range") && (frB I x && chkE I a ea)) = true := h
        simp only [Bool.and_eq_true, decide_eq_true_eq] at h
        obtain ⟨rfl, h1, h2⟩ := h
        obtain ⟨q1, q2, q3, q4⟩ := o.free G h1
        refine wkI (pi_range1 q1 q2 (s_cons a .nil ha s_nil I X Wx G o _ (chkA_one h2)) (star1 h2)) fun σ H R q => ?_
        refine rd1 (fun e => evI_rng1 _ e) q fun b fl v w H1 e1 F O hb E1 h1 => ?_
        cases c1 : e1.cur w with
        | none => rw [c1] at h1; exact h1.elim
        | some d =>
          rw [c1] at h1
          cases d with
          | int k =>
            have h1 : outI g n Wx b σ fl R (if k.natAbs < 2 ^ 61 then .ok (rngD 0 k) e1 else .bad) := h1
            by_cases hk : k.natAbs < 2 ^ 61
            · rw [if_pos hk] at h1
              have := (E1.has get_end c1).intV
              subst this
              refine ⟨k, rfl, by omega, by omega, ?_⟩
              have h1 : ∀ J H' ent, ItOk b J (rngD 0 k) ent → ERx b σ H' e1 (fl ++ ent) → R J H' := h1
              have := h1 _ H1 [] it_rng ⟨F, O, by simpa using E1.drop⟩
              rw [Int.sub_zero] at this
              exact this
            · rw [if_neg hk] at h1; exact h1.elim
          | _ => exact h1.elim
      | [], _, h => cases h
      | _ :: _ :: _, _, h => cases h
      | [_], _ :: _, h => cases h
    | _ => cases h
  | _ => cases h
theorem si_rng2 (a c : Ex) (ha : SE g n a) (hc : SE g n c) : SI g n (.rng2 a c) := by
  intro I X Wx G o tg e h
  cases e with
  | Call f xs ks cp =>
    cases f with
    | Name x px =>
      match xs, ks, h with
      | [ea, ec], [], h =>
        have h : (decide (x = "range") && (frB I x && (chkE I a ea && chkE I c ec))) = true := h
        simp only [Bool.and_eq_true, decide_eq_true_eq] at h
        obtain ⟨rfl, h1, h2, h3⟩ := h
        obtain ⟨q1, q2, q3, q4⟩ := o.free G h1
        refine wkI (pi_range2 q1 q2 (s_cons a _ ha (s_cons c .nil hc s_nil) I X Wx G o _ (chkA_two h2 h3)) (star2 h2 h3) (star1 h3)) fun σ H R q => ?_
        refine rd2 (fun e => evI_rng2 _ e) q fun b fl v w v' w' H1 e1 F O hb E1 h1 => ?_
        cases c1 : e1.cur w with
        | none => rw [c1] at h1; exact h1.elim
        | some d =>
          cases c2 : e1.cur w' with
          | none => rw [c1, c2] at h1; cases d <;> exact h1.elim
          | some d' =>
            rw [c1, c2] at h1
            cases d with
            | int m =>
              cases d' with
              | int k =>
                have h1 : outI g n Wx b σ fl R (if decide (m.natAbs < 2 ^ 61) && decide (k.natAbs < 2 ^ 61) then .ok (rngD m k) e1 else .bad) := h1
                by_cases hk : (decide (m.natAbs < 2 ^ 61) && decide (k.natAbs < 2 ^ 61)) = true
                · rw [if_pos hk] at h1
                  simp only [Bool.and_eq_true, decide_eq_true_eq] at hk
                  have := (E1.has get_p1 c1).intV
                  subst this
                  have := (E1.has get_p2 c2).intV
                  subst this
                  refine ⟨m, k, rfl, ⟨by omega, by omega, by omega, by omega⟩, ?_⟩
                  have h1 : ∀ J H' ent, ItOk b J (rngD m k) ent → ERx b σ H' e1 (fl ++ ent) → R J H' := h1
                  exact h1 _ H1 [] it_rng ⟨F, O, by simpa using E1.drop⟩
                · rw [if_neg hk] at h1; exact h1.elim
              | _ => exact h1.elim
            | _ => cases d' <;> exact h1.elim
      | [], _, h => cases h
      | [_], _, h => cases h
      | _ :: _ :: _ :: _, _, h => cases h
      | [_, _], _ :: _, h => cases h
    | _ => cases h
  | _ => cases h
theorem isTup_shape {tg : Expr} (h : isTup tg = true) : ∃ es k p, tg = .Tuple es k p := by
  cases tg with
  | Tuple es k p => exact ⟨_, _, _, rfl⟩
  | _ => cases h
theorem si_en (a : Ex) (ha : SE g n a) : SI g n (.en a) := by
  intro I X Wx G o tg e h
  cases e with
  | Call f xs ks cp =>
    cases f with
    | Name x px =>
      match xs, ks, h with
      | [ea], [], h =>
        have h : (isTup tg && (decide (x = "enumerate") && (frB I x && chkE I a ea))) = true := h
        simp only [Bool.and_eq_true, decide_eq_true_eq] at h
        obtain ⟨ht, rfl, h1, h2⟩ := h
        obtain ⟨es, k, p, rfl⟩ := isTup_shape ht
        obtain ⟨q1, q2, q3, q4⟩ := o.free G h1
        refine wkI (pi_enum q1 q2 (s_cons a .nil ha s_nil I X Wx G o _ (chkA_one h2)) (star1 h2)) fun σ H R q => ?_
        refine rd1 (fun e => evI_en _ e) q fun b fl v w H1 e1 F O hb E1 h1 => ?_
        have hK : X.K = b.K := by rw [o.hK]; exact hb.1.symm
        cases c1 : e1.tak w with
        | none => rw [c1] at h1; exact h1.elim
        | some pr =>
          obtain ⟨d, e2⟩ := pr
          rw [c1] at h1
          cases d with
          | lst xs =>
            obtain ⟨F2, O2, E2, s2, r2, _⟩ := E1.tak (l2 := []) c1
            have h1 : ∀ J H' ent, ItOk b J (enD 0 xs) ent → ERx b σ H' e2 (fl ++ ent) → R J H' := h1
            obtain ⟨a, vs, e1, hF⟩ := r2.lst_ref
            subst e1
            refine ⟨a, vs, rfl, by rw [hK]; exact sqL_mono E2.sub hF, ?_⟩
            rw [hK]
            exact h1 _ _ _ it_enum ⟨F2, O2, E2⟩
          | _ => exact h1.elim
      | [], _, h => cases h
      | _ :: _ :: _, _, h => cases h
      | [_], _ :: _, h => cases h
    | _ => cases h
  | _ => cases h
theorem si_zp (a c : Ex) (ha : SE g n a) (hc : SE g n c) : SI g n (.zp a c) := by
  intro I X Wx G o tg e h
  cases e with
  | Call f xs ks cp =>
    cases f with
    | Name x px =>
      match xs, ks, h with
      | [ea, ec], [], h =>
        have h : (isTup tg && (decide (x = "zip") && (frB I x && (chkE I a ea && chkE I c ec)))) = true := h
        simp only [Bool.and_eq_true, decide_eq_true_eq] at h
        obtain ⟨ht, rfl, h1, h2, h3⟩ := h
        obtain ⟨es, k, p, rfl⟩ := isTup_shape ht
        obtain ⟨q1, q2, q3, q4⟩ := o.free G h1
        refine wkI (pi_zip q1 q2 (s_cons a _ ha (s_cons c .nil hc s_nil) I X Wx G o _ (chkA_two h2 h3)) (star_cons (chkE_star h2)) (star_any fun z hz => by have := List.mem_singleton.mp hz; subst this; exact chkE_star h3)) fun σ H R q => ?_
        refine rd2 (fun e => evI_zp _ e) q fun b fl v w v' w' H1 e1 F O hb E1 h1 => ?_
        have hK : X.K = b.K := by rw [o.hK]; exact hb.1.symm
        cases c1 : e1.taks [w, w'] with
        | none => rw [c1] at h1; exact h1.elim
        | some pr =>
          obtain ⟨ds, e2⟩ := pr
          rw [c1] at h1
          obtain ⟨F2, O2, E2, s2, r2, _⟩ := E1.taks (vs := [v, v']) (fl := fl) rfl c1
          match ds, r2, h1 with
          | [.lst xs, .lst ys], ⟨u1, rest, q1, ru, u2, rest', q2, ru', q3⟩, h1 =>
            cases q1
            cases q2
            have h1 : ∀ J H' ent, ItOk b J (zpD xs ys) ent → ERx b σ H' e2 (fl ++ ent) → R J H' := h1
            have E3 := (E2.pushD ru).pushD ru'
            rw [List.append_assoc] at E3
            obtain ⟨a, vs, e1, hF⟩ := ru.lst_ref
            subst e1
            obtain ⟨a', vs', e1, hF'⟩ := ru'.lst_ref
            subst e1
            refine ⟨a, a', vs, vs', rfl, by rw [hK]; exact sqL_mono E2.sub hF, by rw [hK]; exact sqL_mono E2.sub hF', ?_⟩
            rw [hK]
            exact h1 _ _ _ it_zip ⟨F2, O2, E3⟩
          | [], _, h1 => exact h1.elim
          | [x], _, h1 => cases x <;> exact h1.elim
          | x :: y :: z :: r, _, h1 => cases x <;> cases y <;> exact h1.elim
          | [.non, _], _, h1 => exact h1.elim
          | [.bl _, _], _, h1 => exact h1.elim
          | [.int _, _], _, h1 => exact h1.elim
          | [.str _, _], _, h1 => exact h1.elim
          | [.tup _, _], _, h1 => exact h1.elim
          | [.ins _ _ _, _], _, h1 => exact h1.elim
          | [.exn _ _ _, _], _, h1 => exact h1.elim
          | [.kset _, _], _, h1 => exact h1.elim
          | [.dct _ _, _], _, h1 => exact h1.elim
          | [.lst _, .non], _, h1 => exact h1.elim
          | [.lst _, .bl _], _, h1 => exact h1.elim
          | [.lst _, .int _], _, h1 => exact h1.elim
          | [.lst _, .str _], _, h1 => exact h1.elim
          | [.lst _, .tup _], _, h1 => exact h1.elim
          | [.lst _, .ins _ _ _], _, h1 => exact h1.elim
          | [.lst _, .exn _ _ _], _, h1 => exact h1.elim
          | [.lst _, .kset _], _, h1 => exact h1.elim
          | [.lst _, .dct _ _], _, h1 => exact h1.elim
      | [], _, h => cases h
      | [_], _, h => cases h
      | _ :: _ :: _ :: _, _, h => cases h
      | [_, _], _ :: _, h => cases h
    | _ => cases h
  | _ => cases h
end
end Mi

set_option Elab.async false
set_option linter.all false
set_option maxRecDepth 100000
set_option maxHeartbeats 1000000
/-! Mi16: a comprehension's own names: parked, wiped, put back. -/
namespace Mi
open PySem L2
section
variable {b : Bs} {F : Hp} {O : Gh} {σ : L2.St} {H : Hp} {e : Env} {fl l : List (V × W)} {vs : List Nat}
theorem wipeS_le {e : Env} : ∀ {vs : List Nat}, (e.wipeS vs).le = e.le
  | [] => rfl
  | v :: vs => by show ((e.wipeS vs).setS v .no).le = _; exact wipeS_le
theorem wipeS_len {e : Env} : ∀ {vs : List Nat}, (e.wipeS vs).sl.length = e.sl.length
  | [] => rfl
  | v :: vs => by show ((e.wipeS vs).sl.set v .no).length = _; rw [List.length_set, wipeS_len]
theorem wipeS_get {e : Env} : ∀ {vs : List Nat} {j : Nat} {s : Slot}, (e.wipeS vs).sl[j]? = some s → (j ∈ vs ∧ s = .no) ∨ (j ∉ vs ∧ e.sl[j]? = some s)
  | [], j, s, h => .inr ⟨List.not_mem_nil, h⟩
  | v :: vs, j, s, h => by
    have h : ((e.wipeS vs).sl.set v .no)[j]? = some s := h
    rcases set_get h with ⟨h1, h2⟩ | ⟨h1, h2⟩
    · subst h1
      exact .inl ⟨List.mem_cons_self, h2⟩
    · rcases wipeS_get h2 with ⟨h3, h4⟩ | ⟨h3, h4⟩
      · exact .inl ⟨List.mem_cons_of_mem _ h3, h4⟩
      · refine .inr ⟨fun z => ?_, h4⟩
        rcases List.mem_cons.mp z with z | z
        · exact h1 z
        · exact h3 z
theorem wipeS_out {e : Env} : ∀ {vs : List Nat} {j : Nat}, j ∉ vs → (e.wipeS vs).sl[j]? = e.sl[j]?
  | [], j, _ => rfl
  | v :: vs, j, h => by
    have h1 : v ≠ j := fun z => h (by rw [z]; exact List.mem_cons_self)
    show ((e.wipeS vs).sl.set v .no)[j]? = _
    rw [List.getElem?_set_ne h1]
    exact wipeS_out fun z => h (List.mem_cons_of_mem _ z)
theorem wipe_wipe {σ σ2 : L2.St} (hl : σ2.length = σ.length) (h : ∀ i, i ∉ vs → σ2[i]? = σ[i]?) : wipe σ2 vs = wipe σ vs := by
  apply List.ext_getElem?
  intro i
  by_cases hi : i ∈ vs
  · have key : ∀ {σ : L2.St} {vs : List Nat}, i ∈ vs → (wipe σ vs)[i]? = if i < σ.length then some none else none := fun {σ vs} hi => by
      induction vs with
      | nil => cases hi
      | cons v r ih =>
        show ((wipe σ r).set v none)[i]? = _
        by_cases hv : v = i
        · subst hv
          by_cases hb : v < σ.length
          · rw [if_pos hb, List.getElem?_set_self (by rw [wipe_length]; exact hb)]
          · rw [if_neg hb, List.getElem?_eq_none (by rw [List.length_set, wipe_length]; omega)]
        · rw [List.getElem?_set_ne hv]
          rcases List.mem_cons.mp hi with z | z
          · exact absurd z.symm hv
          · exact ih z
    rw [key hi, key hi, hl]
  · rw [wipe_out hi, wipe_out hi]
    exact h i hi
/-- nothing on its way stands in these slots -/
def noS (vs : List Nat) (fl : List (V × W)) : Prop := ∀ p ∈ fl, ∀ i, p.2 = .s i → i ∉ vs
theorem noS.app {l m : List (V × W)} (h : noS vs l) (h' : noS vs m) : noS vs (l ++ m) := fun p hp i => by
  rcases List.mem_append.mp hp with z | z
  · exact h p z i
  · exact h' p z i
theorem ER.wipes (E : ER b F O σ H e fl) (h : noS vs fl) : ER b F O (wipe σ vs) H (e.wipeS vs) fl := by
  refine { E with len := by rw [wipeS_len, wipe_length]; exact E.len, slot := fun i s q => ?_, flr := fun j u w q => ?_, lel := by rw [wipeS_le]; exact E.lel, les := by rw [wipeS_le]; exact E.les }
  · rcases wipeS_get q with ⟨h1, rfl⟩ | ⟨h1, h2⟩
    · exact True.intro
    · have r := E.slot i s h2
      cases s with
      | no => exact r
      | val d => obtain ⟨u, r1, r2⟩ := r; exact ⟨u, by rw [wipe_out h1]; exact r1, r2⟩
      | own d => obtain ⟨u, r1, r2⟩ := r; exact ⟨u, by rw [wipe_out h1]; exact r1, r2⟩
      | lent d => obtain ⟨u, r1, r2⟩ := r; exact ⟨u, by rw [wipe_out h1]; exact r1, r2⟩
  · have r := E.flr j u w q
    cases w with
    | s i =>
      show (wipe σ vs)[i]? = _
      rw [wipe_out (h _ (List.mem_of_getElem? q) i rfl)]
      exact r
    | _ => exact r
/-- what stands in these slots is no longer told of -/
def mask1 (vs : List Nat) (p : V × W) : V × W := match p.2 with
  | .s i => if i ∈ vs then (.non, .d .non) else p
  | _ => p
def maskF (vs : List Nat) (fl : List (V × W)) : List (V × W) := fl.map (mask1 vs)
theorem mask1_cases (vs : List Nat) (p : V × W) : (mask1 vs p = p ∧ ∀ i, p.2 = .s i → i ∉ vs) ∨ (mask1 vs p = (.non, .d .non) ∧ ∃ i, p.2 = .s i ∧ i ∈ vs) := by
  obtain ⟨v, w⟩ := p
  cases w with
  | d d => exact .inl ⟨rfl, fun i h => nomatch h⟩
  | o d => exact .inl ⟨rfl, fun i h => nomatch h⟩
  | s i =>
    by_cases h : i ∈ vs
    · exact .inr ⟨if_pos h, i, rfl, h⟩
    · exact .inl ⟨if_neg h, fun j z => by cases z; exact h⟩
theorem maskF_noS : noS vs (maskF vs fl) := fun p hp i q => by
  obtain ⟨p', _, rfl⟩ := List.mem_map.mp hp
  rcases mask1_cases vs p' with ⟨h1, h2⟩ | ⟨h1, h2⟩
  · rw [h1] at q; exact h2 i q
  · rw [h1] at q; cases q
theorem ER.masked (E : ER b F O σ H e fl) : ER b F O σ H e (maskF vs fl) := by
  refine { E with flr := fun j u w q => ?_ }
  unfold maskF at q
  rw [List.getElem?_map] at q
  cases h : fl[j]? with
  | none => rw [h] at q; cases q
  | some p =>
    rw [h] at q
    have q : mask1 vs p = (u, w) := Option.some.inj q
    rcases mask1_cases vs p with ⟨h1, h2⟩ | ⟨h1, h2⟩
    · rw [h1] at q
      subst q
      exact E.flr j u w h
    · rw [h1] at q
      cases q
      exact rfl
/-- values pushed -/
theorem ER.pushAll : ∀ {l : List (V × W)} {fl : List (V × W)}, ER b F O σ H e fl → (∀ p ∈ l, ∃ d, p.2 = .d d ∧ Rep b.K F d p.1) → ER b F O σ H e (fl ++ l)
  | [], fl, E, _ => by simpa using E
  | (v, w) :: l, fl, E, h => by
    obtain ⟨d, e1, r⟩ := h _ List.mem_cons_self
    have e1 : w = .d d := e1
    subst e1
    have := ER.pushAll (l := l) (E.pushD r) fun p hp => h p (List.mem_cons_of_mem _ hp)
    rw [List.append_assoc] at this
    exact this
theorem ER.vals (E : ER b F O σ H e (fl ++ l)) (h : ∀ p ∈ l, ∃ d, p.2 = W.d d) : ∀ p ∈ l, ∃ d, p.2 = .d d ∧ Rep b.K F d p.1 := fun p hp => by
  obtain ⟨d, q⟩ := h p hp
  refine ⟨d, q, ?_⟩
  obtain ⟨k, hk⟩ := List.getElem?_of_mem hp
  have := E.flr (fl.length + k) p.1 p.2 (by rw [List.getElem?_append_right (by omega)]; simpa using hk)
  rw [q] at this
  exact this
theorem vals_noS {l : List (V × W)} (h : ∀ p ∈ l, ∃ d, p.2 = W.d d) : noS vs l := fun p hp i q => by
  obtain ⟨d, z⟩ := h p hp
  rw [z] at q
  cases q
theorem parked_cons {e : Env} {v : Nat} {vs : List Nat} {ss : List Slot} (h : e.parked (v :: vs) = some ss) : ∃ s r, ss = s :: r ∧ e.parked vs = some r ∧ e.sl[v]? = some s ∧ (s = .no ∨ ∃ d, s = .val d) := by
  unfold Env.parked at h
  cases h1 : e.sl[v]? with
  | none => rw [h1] at h; cases h
  | some s =>
    cases h2 : e.parked vs with
    | none => rw [h1, h2] at h; cases s <;> cases h
    | some r =>
      rw [h1, h2] at h
      cases s with
      | no => cases h; exact ⟨_, _, rfl, rfl, rfl, .inl rfl⟩
      | val d => cases h; exact ⟨_, _, rfl, rfl, rfl, .inr ⟨_, rfl⟩⟩
      | _ => cases h
theorem parked_len : ∀ {e : Env} {vs : List Nat} {ss : List Slot}, e.parked vs = some ss → ss.length = vs.length
  | e, [], ss, h => by cases h; rfl
  | e, v :: vs, ss, h => by
    obtain ⟨s, r, rfl, q, _⟩ := parked_cons h
    simp [parked_len q]
theorem parked_get : ∀ {e : Env} {vs : List Nat} {ss : List Slot} {k i : Nat} {s : Slot}, e.parked vs = some ss → vs[k]? = some i → ss[k]? = some s → e.sl[i]? = some s ∧ (s = .no ∨ ∃ d, s = .val d)
  | e, [], ss, k, i, s, h, h1, h2 => by simp at h1
  | e, v :: vs, ss, k, i, s, h, h1, h2 => by
    obtain ⟨t, r, rfl, q, q1, q2⟩ := parked_cons h
    cases k with
    | zero =>
      simp at h1 h2
      subst h1 h2
      exact ⟨q1, q2⟩
    | succ k => exact parked_get q (by simpa using h1) (by simpa using h2)
/-- what the parked slots hold is kept as values on their way -/
theorem ER.parks (E : ER b F O σ H e fl) : ∀ {vs : List Nat} {ss : List Slot}, e.parked vs = some ss → ∃ pk : List (V × W), (∀ p ∈ pk, ∃ d, p.2 = .d d ∧ Rep b.K F d p.1) ∧
    ∀ (k i : Nat) (d : D), vs[k]? = some i → ss[k]? = some (.val d) → ∃ v, σ[i]? = some (some v) ∧ (v, W.d d) ∈ pk
  | [], ss, _ => ⟨[], ⟨fun p hp => (by cases hp), fun k i d h => (by simp at h)⟩⟩
  | v :: vs, ss, h => by
    obtain ⟨t, r, rfl, q, q1, q2⟩ := parked_cons h
    obtain ⟨pk, h1, h2⟩ := ER.parks E q
    rcases q2 with rfl | ⟨x, rfl⟩
    · refine ⟨pk, h1, fun k i d a c => ?_⟩
      cases k with
      | zero => simp at c
      | succ k => exact h2 k i d (by simpa using a) (by simpa using c)
    · obtain ⟨u, u1, u2⟩ := E.slot _ _ q1
      refine ⟨(u, .d x) :: pk, fun p hp => ?_, fun k i d a c => ?_⟩
      · rcases List.mem_cons.mp hp with rfl | hp
        · exact ⟨x, rfl, u2⟩
        · exact h1 p hp
      · cases k with
        | zero =>
          simp at a c
          subst a c
          exact ⟨u, u1, List.mem_cons_self⟩
        | succ k =>
          obtain ⟨y, y1, y2⟩ := h2 k i d (by simpa using a) (by simpa using c)
          exact ⟨y, y1, List.mem_cons_of_mem _ y2⟩
theorem backS_le {e : Env} : ∀ {vs : List Nat} {ss : List Slot}, (e.backS vs ss).le = e.le
  | [], _ => rfl
  | _ :: _, [] => rfl
  | v :: vs, s :: ss => by show ((e.backS vs ss).setS v s).le = _; exact backS_le
theorem backS_len {e : Env} : ∀ {vs : List Nat} {ss : List Slot}, (e.backS vs ss).sl.length = e.sl.length
  | [], _ => rfl
  | _ :: _, [] => rfl
  | v :: vs, s :: ss => by show ((e.backS vs ss).sl.set v s).length = _; rw [List.length_set, backS_len]
theorem backS_get {e : Env} : ∀ {vs : List Nat} {ss : List Slot} {j : Nat} {s : Slot}, ss.length = vs.length → (e.backS vs ss).sl[j]? = some s → (∃ k : Nat, vs[k]? = some j ∧ ss[k]? = some s) ∨ (j ∉ vs ∧ e.sl[j]? = some s)
  | [], [], j, s, _, h => .inr ⟨List.not_mem_nil, h⟩
  | [], _ :: _, _, _, hl, _ => by cases hl
  | _ :: _, [], _, _, hl, _ => by cases hl
  | v :: vs, t :: ss, j, s, hl, h => by
    have h : ((e.backS vs ss).sl.set v t)[j]? = some s := h
    rcases set_get h with ⟨h1, h2⟩ | ⟨h1, h2⟩
    · subst h1 h2
      exact .inl ⟨0, rfl, rfl⟩
    · rcases backS_get (by simpa using hl) h2 with ⟨k, h3, h4⟩ | ⟨h3, h4⟩
      · exact .inl ⟨k + 1, by simpa using h3, by simpa using h4⟩
      · refine .inr ⟨fun z => ?_, h4⟩
        rcases List.mem_cons.mp z with z | z
        · exact h1 z
        · exact h3 z
/-- the names are put back -/
theorem ER.restore {e1 : Env} {ss : List Slot} {pk : List (V × W)} (hσ : ∀ (j : Nat) (u : V) (i : Nat), fl[j]? = some (u, W.s i) → σ[i]? = some (some u)) (hp : e1.parked vs = some ss)
    (hk : ∀ (k i : Nat) (d : D), vs[k]? = some i → ss[k]? = some (.val d) → ∃ v, σ[i]? = some (some v) ∧ (v, W.d d) ∈ pk)
    (E : ER b F O (wipe σ vs) H (e.wipeS vs) (maskF vs fl ++ (l ++ pk))) : ER b F O σ H (e.backS vs ss) fl := by
  have pkR : ∀ v d, (v, W.d d) ∈ pk → Rep b.K F d v := fun v d hm => by
    obtain ⟨j, hj⟩ := List.getElem?_of_mem (List.mem_append_right (maskF vs fl) (List.mem_append_right l hm))
    exact E.flr j v (.d d) hj
  refine { E with len := by rw [backS_len, ← wipeS_len (vs := vs), E.len, wipe_length], slot := fun i s q => ?_, flr := fun j u w q => ?_, lel := by rw [backS_le, ← wipeS_le (vs := vs)]; exact E.lel, les := by rw [backS_le, ← wipeS_le (vs := vs)]; exact E.les }
  · rcases backS_get (parked_len hp) q with ⟨k, h1, h2⟩ | ⟨h1, h2⟩
    · rcases (parked_get hp h1 h2).2 with rfl | ⟨d, rfl⟩
      · exact True.intro
      · obtain ⟨v, h3, h4⟩ := hk k i d h1 h2
        exact ⟨v, h3, pkR v d h4⟩
    · rw [← wipeS_out h1] at h2
      have r := E.slot i s h2
      cases s with
      | no => exact r
      | val d => obtain ⟨u, r1, r2⟩ := r; exact ⟨u, (wipe_some r1).1, r2⟩
      | own d => obtain ⟨u, r1, r2⟩ := r; exact ⟨u, (wipe_some r1).1, r2⟩
      | lent d => obtain ⟨u, r1, r2⟩ := r; exact ⟨u, (wipe_some r1).1, r2⟩
  · have hj : j < fl.length := (List.getElem?_eq_some_iff.mp q).1
    have hm : (maskF vs fl ++ (l ++ pk))[j]? = some (mask1 vs (u, w)) := by
      rw [List.getElem?_append_left (by unfold maskF; rw [List.length_map]; exact hj)]
      unfold maskF
      rw [List.getElem?_map, q]
      rfl
    rcases mask1_cases vs (u, w) with ⟨h1, h2⟩ | ⟨h1, i, h2, h3⟩
    · rw [h1] at hm
      have r := E.flr j u w hm
      cases w with
      | s i => exact (wipe_some r).1
      | _ => exact r
    · have h2 : w = .s i := h2
      subst h2
      exact hσ j u i q
end
end Mi

set_option Elab.async false
set_option linter.all false
set_option maxRecDepth 100000
set_option maxHeartbeats 1000000
/-! Mi17: list comprehensions. -/
namespace Mi
open PySem L2
section
variable {b : Bs} {F : Hp} {O : Gh} {σ : L2.St} {H : Hp} {e : Env} {fl l1 l2 : List (V × W)} {a : Addr} {d d' : D}
/-- a thing on its way is changed -/
theorem ER.mutF (E : ER b F O σ H e (l1 ++ (.ref a, .o d) :: l2)) {o : HO} (hd : Own b F (upd H a o) a d') : ∃ O', ER b F O' σ (upd H a o) e (l1 ++ (.ref a, .o d') :: l2) := by
  obtain ⟨a', e1, hO⟩ := E.flr _ _ _ get_at
  cases e1
  obtain ⟨f, hown, o1, o2⟩ := E.own _ _ _ hO
  have ne : ∀ {c ow' x}, O c = some (ow', x) → ow' ≠ .fl l1.length → c ≠ a := fun {c ow' x} q z y => by
    subst y
    rw [hO] at q
    cases q
    exact z rfl
  refine ⟨updO O a (some (.fl l1.length, d')), { E with sub := fun x u q => ?_, slot := fun i t h => ?_, flr := fun j u x h => ?_, les := fun k c p h1 h2 => ?_, own := fun c ow' x q => ?_, keep := fun x u h1 h2 => ?_ }⟩
  · rw [upd_ne (ne_of_none q f)]
    exact E.sub _ _ q
  · have r := E.slot i t h
    cases t with
    | own x =>
      obtain ⟨c, r1, r2⟩ := r
      exact ⟨c, r1, by rw [updO_ne (ne r2 (fun z => nomatch z))]; exact r2⟩
    | _ => exact r
  · rcases get_mid (x := (V.ref a, W.o d)) h with ⟨q1, q2⟩ | ⟨q1, q2⟩
    · cases q2
      subst q1
      exact ⟨a, rfl, updO_same⟩
    · have r := E.flr j u x q2
      cases x with
      | o y =>
        obtain ⟨c, r1, r2⟩ := r
        exact ⟨c, r1, by rw [updO_ne (ne r2 (fun z => by cases z; exact q1 rfl))]; exact r2⟩
      | _ => exact r
  · obtain ⟨r1, r2⟩ := E.les k c p h1 h2
    exact ⟨fun z => by rw [updO_ne (ne (r1 z) (fun z => nomatch z))]; exact r1 z, r2⟩
  · by_cases hc : c = a
    · subst hc
      rw [updO_same] at q
      cases q
      exact ⟨f, hd, o1, o2⟩
    · rw [updO_ne hc] at q
      obtain ⟨r1, r2, r3⟩ := E.own c ow' x q
      exact ⟨r1, r2.at (fun _ _ z => z) (upd_ne hc), r3⟩
  · have : x ≠ a := fun z => by
      subst z
      rw [o2 fun _ z => nomatch z] at h1
      cases h1
    rw [upd_ne this]
    exact E.keep _ _ h1 h2
/-! ### targets -/
theorem setSs_le {e : Env} : ∀ {is : List Nat} {ds : List D}, (e.setSs is ds).le = e.le
  | [], _ => rfl
  | _ :: _, [] => rfl
  | i :: is, d :: ds => by show ((e.setS i (.val d)).setSs is ds).le = _; rw [setSs_le]; rfl
theorem setS_comm {e : Env} {i j : Nat} {s t : Slot} (h : i ≠ j) : (e.setS i s).setS j t = (e.setS j t).setS i s := by
  unfold Env.setS
  simp only [List.set_comm _ _ h]
theorem setS_setS {e : Env} {i : Nat} {s t : Slot} : (e.setS i s).setS i t = e.setS i t := by
  unfold Env.setS
  simp only [List.set_set]
theorem wipeS_setS {e : Env} {i : Nat} {s : Slot} : ∀ {vs : List Nat}, i ∉ vs → (e.wipeS vs).setS i s = (e.setS i s).wipeS vs
  | [], _ => rfl
  | v :: vs, h => by
    have h1 : v ≠ i := fun z => h (by rw [z]; exact List.mem_cons_self)
    show ((e.wipeS vs).setS v .no).setS i s = ((e.setS i s).wipeS vs).setS v .no
    rw [setS_comm h1, wipeS_setS fun z => h (List.mem_cons_of_mem _ z)]
theorem setSs_wipe : ∀ {is : List Nat} {ds : List D} {e : Env}, is.Nodup → ds.length = is.length → (e.wipeS is).setSs is ds = e.setSs is ds
  | [], _, _, _, _ => by unfold Env.setSs; rfl
  | i :: is, [], _, _, h => by cases h
  | i :: is, d :: ds, e, hn, hl => by
    obtain ⟨h1, h2⟩ := List.nodup_cons.mp hn
    show (((e.wipeS is).setS i .no).setS i (.val d)).setSs is ds = (e.setS i (.val d)).setSs is ds
    rw [setS_setS, wipeS_setS h1]
    exact setSs_wipe h2 (by simpa using hl)
theorem bindT_wipe {e : Env} {tg : Tg} {d : D} (h : tg.ids.Nodup) : (e.wipeS tg.ids).bindT tg d = e.bindT tg d := by
  cases tg with
  | one i =>
    show some (((e.setS i .no)).setS i (.val d)) = some (e.setS i (.val d))
    rw [setS_setS]
  | many is =>
    cases d with
    | tup ds =>
      show (if ds.length = is.length then some ((e.wipeS is).setSs is ds) else none) = (if ds.length = is.length then some (e.setSs is ds) else none)
      by_cases hl : ds.length = is.length
      · rw [if_pos hl, if_pos hl, setSs_wipe (is := is) h hl]
      · rw [if_neg hl, if_neg hl]
    | lst ds =>
      show (if ds.length = is.length then some ((e.wipeS is).setSs is ds) else none) = (if ds.length = is.length then some (e.setSs is ds) else none)
      by_cases hl : ds.length = is.length
      · rw [if_pos hl, if_pos hl, setSs_wipe (is := is) h hl]
      · rw [if_neg hl, if_neg hl]
    | _ => rfl
/-- names in a row -/
def gIds : List Nat → TGs
  | [] => gNil
  | i :: is => gCons (gName i) (gIds is)
def gTg (K : PySem.W.Frag) : Tg → TG
  | .one i => gName i
  | .many is => fun v σ H Q => gTup K is.length (gIds is) v σ H Q ∨ gLst K is.length (gIds is) v σ H Q
/-- what a target's names must be, in the scope that runs -/
def TgN (X : Cx) (i : Nat) (x : Str) : Prop := X.N[i]? = some x ∧ Loc X.env.scope x ∧ (X.fn x = true ∨ X.env.scope.names.lookup x = some .local)
theorem pgs_ids {X : Cx} (hN : X.N.Nodup) {I : Inf} (hx : ∀ i x, setB I i x = true → TgN X i x) : ∀ {is : List Nat} {es : List Expr}, chkTgs I is es = true → PGs X es (gIds is) ∧ (assignEach es X.env).length = is.length ∧ (assignEach es X.env).findIdx? (·.1) = none
  | [], [], _ => ⟨pgs_nil, rfl, rfl⟩
  | [], _ :: _, h => by cases h
  | _ :: _, [], h => by cases h
  | i :: is, e :: es, h => by
    cases e with
    | Name x p =>
      obtain ⟨h1, h2⟩ := Bool.and_eq_true_iff.mp (show (setB I i x && chkTgs I is es) = true from h)
      obtain ⟨n1, n2, n3⟩ := hx i x h1
      obtain ⟨t1, t2, t3⟩ := pgs_ids hN hx h2
      refine ⟨pgs_cons (pg_name hN n1 n2 n3) t1, ?_, ?_⟩
      · show (assignEach es X.env).length + 1 = is.length + 1
        rw [t2]
      · show List.findIdx? (·.1) ((false, _) :: assignEach es X.env) = none
        rw [List.findIdx?_cons, t3]
        rfl
    | _ => cases h
theorem pg_tg {X : Cx} (hc : X.calm = true) (hN : X.N.Nodup) {I : Inf} (hx : ∀ i x, setB I i x = true → TgN X i x) {tg : Tg} {e : Expr} (h : chkTg I tg e = true) : PG X e (gTg X.K tg) := by
  cases tg with
  | one i =>
    cases e with
    | Name x p =>
      obtain ⟨n1, n2, n3⟩ := hx i x h
      exact pg_name hN n1 n2 n3
    | _ => cases h
  | many is =>
    cases e with
    | Tuple es k p =>
      obtain ⟨t1, t2, t3⟩ := pgs_ids hN hx (show chkTgs I is es = true from h)
      refine ⟨fun pins s σ H v u Q I r hw => ?_⟩
      rcases hw with hw | hw
      · exact (pg_tup hc t1 t2 t3).run pins s σ H v u Q I r hw
      · exact (pg_lst hc t1 t2 t3).run pins s σ H v u Q I r hw
    | _ => cases h
/-- the frame behind a target's store -/
theorem ids_rd {b : Bs} {F : Hp} {O : Gh} {H : Hp} {fl : List (V × W)} {Q : L2.St → Hp → Prop} : ∀ {is : List Nat} {ds : List D} {xs : List V} {σ : L2.St} {e : Env}, ER b F O σ H e fl → RepL b.K F ds xs → ds.length = is.length → (∀ i ∈ is, i < σ.length) → noS is fl →
    (∀ σ', σ'.length = σ.length → (∀ i, i ∉ is → σ'[i]? = σ[i]?) → ER b F O σ' H (e.setSs is ds) fl → Q σ' H) → gIds is xs σ H Q
  | [], ds, xs, σ, e, E, r, hl, hi, hn, h => by
    cases ds with
    | nil =>
      have : xs = [] := r
      exact ⟨this, h σ rfl (fun _ _ => rfl) E⟩
    | cons _ _ => cases hl
  | i :: is, [], _, _, _, _, _, hl, _, _, _ => by cases hl
  | i :: is, d :: ds, xs, σ, e, E, r, hl, hi, hn, h => by
    obtain ⟨v, rest, rfl, r1, r2⟩ := r
    have E1 : ER b F O (σ.set i (some v)) H (e.setS i (.val d)) fl := E.setV (fun j u k q z => hn _ (List.mem_of_getElem? q) k rfl (by rw [z]; exact List.mem_cons_self)) (hi i List.mem_cons_self) r1
    refine ⟨v, rest, rfl, ?_⟩
    show gIds is rest (σ.set i (some v)) H Q
    refine ids_rd E1 r2 (by simpa using hl) (fun k hk => by rw [List.length_set]; exact hi k (List.mem_cons_of_mem _ hk)) (fun p hp k q z => hn p hp k q (List.mem_cons_of_mem _ z)) fun σ' g1 g2 g3 => ?_
    refine h σ' (by rw [g1, List.length_set]) (fun k hk => ?_) g3
    rw [g2 k fun z => hk (List.mem_cons_of_mem _ z), List.getElem?_set_ne fun z => hk (by rw [z]; exact List.mem_cons_self)]
theorem tg_rd {X : Cx} {b : Bs} {F : Hp} {O : Gh} {H : Hp} {fl : List (V × W)} {Q : L2.St → Hp → Prop} {tg : Tg} {d : D} {v : V} {σ : L2.St} {e e' : Env} (hK : X.K = b.K) (E : ER b F O σ H e fl) (r : Rep b.K F d v) (hi : ∀ i ∈ tg.ids, i < σ.length) (hn : noS tg.ids fl)
    (hb : e.bindT tg d = some e') (h : ∀ σ', σ'.length = σ.length → (∀ i, i ∉ tg.ids → σ'[i]? = σ[i]?) → ER b F O σ' H e' fl → Q σ' H) : gTg X.K tg v σ H Q := by
  cases tg with
  | one i =>
    cases hb
    have hi' : i < σ.length := hi i (List.mem_singleton.mpr rfl)
    refine h _ (by rw [List.length_set]) (fun k hk => ?_) (E.setV (fun j u k q z => hn _ (List.mem_of_getElem? q) k rfl (by rw [z]; exact List.mem_singleton.mpr rfl)) hi' r)
    rw [List.getElem?_set_ne fun z => hk (by rw [z]; exact List.mem_singleton.mpr rfl)]
  | many is =>
    cases d with
    | tup ds =>
      have hb : (if ds.length = is.length then some (e.setSs is ds) else none) = some e' := hb
      by_cases hl : ds.length = is.length
      · rw [if_pos hl] at hb
        cases hb
        obtain ⟨a, xs, rfl, hq, rl⟩ := r
        exact .inl ⟨a, xs, rfl, by rw [hK]; exact sqT_mono E.sub hq, by rw [← rl.length, hl], ids_rd E rl hl hi hn h⟩
      · rw [if_neg hl] at hb; cases hb
    | lst ds =>
      have hb : (if ds.length = is.length then some (e.setSs is ds) else none) = some e' := hb
      by_cases hl : ds.length = is.length
      · rw [if_pos hl] at hb
        cases hb
        obtain ⟨a, xs, rfl, hq, rl⟩ := r
        exact .inr ⟨a, xs, rfl, by rw [hK]; exact sqL_mono E.sub hq, by rw [← rl.length, hl], ids_rd E rl hl hi hn h⟩
      · rw [if_neg hl] at hb; cases hb
    | _ => cases hb
end
end Mi

set_option Elab.async false
set_option linter.all false
set_option maxRecDepth 100000
set_option maxHeartbeats 1000000
/-! Mi18: list comprehensions. -/
namespace Mi
open PySem L2
section
variable {g : Gi} {n : Nat}
theorem R.bnd_inv {α β : Type} {r : R α} {f : α → Env → R β} {y : β} {e : Env} (h : r.bnd f = .ok y e) : ∃ a e1, r = .ok a e1 ∧ f a e1 = .ok y e := by
  cases r with
  | ok a e1 => exact ⟨a, e1, rfl, h⟩
  | exc _ _ => cases h
  | bad => cases h
def noX : Kx := fun _ _ _ _ => False
theorem blk_scope {X : Cx} {sc : Scope} {C : Addr} {cl : List (Str × Addr)} : (compEnvC sc cl C X.env).scope = relS sc X.env.scope := rfl
theorem XO.blk {I : Inf} {Wx : Kx} {X : Cx} (o : XO g I n Wx X) (G : GOk g I.nm I.fr n) (sc : Scope) (s : Shared) (H : Hp) (C : Addr) (cl : List (Str × Addr)) (fp : List Addr) : XO g { I with sc := relS sc I.sc } n noX (X.blk s H sc (compEnvC sc cl C X.env) fp) where
  hP := o.hP
  hw := o.hw
  hK := o.hK
  hm := o.hm
  hb := o.hb
  hN := o.hN
  nd := o.nd
  sc := by
    show relS sc X.env.scope = relS sc I.sc
    rw [o.sc]
  calm := o.calm
  room := o.room
  pass := fun σ pins H s e s' _ c => G.cx0 _ _ _ _ _ c
theorem blk_tg {I : Inf} {Wx : Kx} {X : Cx} (o : XO g I n Wx X) (sc : Scope) (s : Shared) (H : Hp) (C : Addr) (cl : List (Str × Addr)) (fp : List Addr) {i : Nat} {x : Str} (h : setB { I with sc := sc } i x = true) :
    TgN (X.blk s H sc (compEnvC sc cl C X.env) fp) i x := by
  obtain ⟨h1, h2⟩ := Bool.and_eq_true_iff.mp (show (locB sc x && decide (I.N[i]? = some x)) = true from h)
  have h2 := of_decide_eq_true h2
  refine ⟨by rw [← o.hN] at h2; exact h2, ?_⟩
  have keep : ∀ {k : NameKind}, k ≠ .free → sc.names.lookup x = some k → (relS sc X.env.scope).names.lookup x = some k := fun hk q => lookup_relS_keep hk q
  unfold locB at h1
  split at h1
  · rename_i q
    have := keep (by decide) q
    exact ⟨.inl this, .inr this⟩
  · rename_i q
    exact ⟨.inr (keep (by decide) q), .inl (by show (sc.names.lookup x == some .cell) = true; rw [q]; rfl)⟩
  · cases h1
theorem notSet_ok {e : Expr} (h : notSet e = true) (env : PySem.Env) (x : Value) : foldedSetIterable e env x = pure x := by
  cases e <;> first | rfl | cases h
theorem chkI_notSet {I : Inf} {m : Ex} {t : Bool} {e : Expr} (h : chkI I m t e = true) : notSet e = true := by
  cases e with
  | Set es k p =>
    exfalso
    unfold chkI at h
    cases m with
    | k d => cases d <;> cases h
    | _ => cases h
  | _ => rfl
theorem own_ids {N : List Str} {is : List Nat} : (ownOf N is).map (·.2) = is := by
  unfold ownOf
  rw [List.map_map]
  exact List.map_id' is
/-- a comprehension's parts -/
structure LcP (g : Gi) (n : Nat) (I : Inf) (X : Cx) (Wx : Kx) (tg : Tg) (el it c : Ex) (eel et ei : Expr) (ifs : List Expr) (sc : Scope) : Prop where
  hi : PI X et ei (rdI g n Wx it)
  ok : BlkOk X.N X.env.scope sc (ownOf I.N tg.ids)
  hg : ∀ (s : Shared) (H : Hp) (C : Addr) (cl : List (Str × Addr)) (fp : List Addr), PG (X.blk s H sc (compEnvC sc cl C X.env) fp) et (gTg X.K tg)
  ht : ∀ (s : Shared) (H : Hp) (C : Addr) (cl : List (Str × Addr)) (fp : List Addr), PTs (X.blk s H sc (compEnvC sc cl C X.env) fp) ifs (rdT g n noX c)
  he : ∀ (s : Shared) (H : Hp) (C : Addr) (cl : List (Str × Addr)) (fp : List Addr), PE (X.blk s H sc (compEnvC sc cl C X.env) fp) eel (rdE g n noX el)
  hs : ∀ x, foldedSetIterable ei X.env x = pure x
  rd : ∀ σ H Q, rdE g n Wx (.lc tg el it c) σ H Q → tLc (rdI g n Wx it) (gTg X.K tg) (rdT g n noX c) (rdE g n noX el) ((ownOf I.N tg.ids).map (·.2)) σ H Q
theorem lc_parts {tg : Tg} {el it c : Ex} (hel : SE g n el) (hit : SI g n it) (hc : STs g n c) {I : Inf} {X : Cx} {Wx : Kx} (G : GOk g I.nm I.fr n) (o : XO g I n Wx X) {eel : Expr} {gens : List Comprehension} {sc : Scope} {p : Pos}
    (h : chkE I (.lc tg el it c) (.ListComp eel gens sc p) = true) : ∃ et ei ifs, gens = [⟨et, ei, ifs, 0⟩] ∧ LcP g n I X Wx tg el it c eel et ei ifs sc := by
    match gens, h with
    | [gc], h =>
      obtain ⟨et, ei, ifs, ka⟩ := gc
      have hh : (decide (ka = 0) && (chkI I it (isTup et) ei && (chkTg { I with sc := sc } tg et && (chkE { I with sc := relS sc I.sc } el eel && (chkIfs (chkE { I with sc := relS sc I.sc } c) (isYes c) ifs && (decide (tg.ids.Nodup) && blkC I.N I.sc sc (ownOf I.N tg.ids))))))) = true := h
      obtain ⟨h0, hr⟩ := Bool.and_eq_true_iff.mp hh
      have h0 := of_decide_eq_true h0
      subst h0
      obtain ⟨h1, h⟩ := Bool.and_eq_true_iff.mp hr
      obtain ⟨h2, h⟩ := Bool.and_eq_true_iff.mp h
      obtain ⟨h3, h⟩ := Bool.and_eq_true_iff.mp h
      obtain ⟨h4, h⟩ := Bool.and_eq_true_iff.mp h
      obtain ⟨h5, h6⟩ := Bool.and_eq_true_iff.mp h
      have h5 : tg.ids.Nodup := of_decide_eq_true h5
      have ob := fun s H C cl fp => o.blk G sc s H C cl fp
      have ts : ∀ (s : Shared) (H : Hp) (C : Addr) (cl : List (Str × Addr)) (fp : List Addr), PTs (X.blk s H sc (compEnvC sc cl C X.env) fp) ifs (rdT g n noX c) := fun s H C cl fp => by
        match ifs, h4 with
        | [], h4 =>
          have hk : c = .k (.bl true) := by
            cases c with
            | k d =>
              cases d with
              | bl t => cases t with
                | true => rfl
                | false => cases h4
              | _ => cases h4
            | _ => cases h4
          subst hk
          refine ⟨fun pins s σ H Q I q => pts_nil.run pins s σ H Q I ?_⟩
          obtain ⟨b, e, fl, hb, E, h⟩ := q
          have h : outT noX b σ fl Q (.ok true e) := h
          exact h true H rfl (by simpa using E)
        | [ec], h4 => exact pts_one (hc { I with sc := relS sc I.sc } _ noX G (ob s H C cl fp) ec h4).1
        | _ :: _ :: _, h4 => cases h4
      refine ⟨et, ei, ifs, rfl, hit I X Wx G o et ei h1, blkOk_by (by rw [o.hN, o.sc]; exact h6), (fun s H C cl fp => pg_tg (X := X.blk s H sc (compEnvC sc cl C X.env) fp) o.calm (by show X.N.Nodup; rw [o.hN]; exact o.nd) (fun i x q => blk_tg o sc s H C cl fp q) h2), ts,
        (fun s H C cl fp => hel { I with sc := relS sc I.sc } _ noX G (ob s H C cl fp) eel h3), notSet_ok (chkI_notSet h1) X.env, fun σ H Q ⟨b, e, fl, hb, E, h⟩ => ?_⟩
      rw [evE_lc] at h
      rw [own_ids]
      generalize hvs : tg.ids = vs at *
      have hK : X.K = b.K := by rw [o.hK]; exact hb.1.symm
      refine ⟨b, e, fl, hb, E, ?_⟩
      cases q : evI (callN g.T n) it e with
      | bad => rw [q] at h; exact h
      | exc x e1 => rw [q] at h; exact h
      | ok xs e1 =>
        rw [q] at h
        intro J H1 ent hI ⟨F1, O1, E1⟩ Dd hD
        rw [R.bnd_ok] at h
        cases hp : e1.parked vs with
        | none => rw [hp] at h; exact h.elim
        | some ss =>
          rw [hp] at h
          generalize hcc : (fun d e => match Env.bindT e tg d with
            | some e' => evT (callN g.T n) c e'
            | none => .bad) = cc at h
          generalize hff : (fun e => evE (callN g.T n) el e) = ff at h
          have h : outE Wx b σ fl Q (match lcL cc ff xs [] (e1.wipeS vs) with
            | .ok ys e2 => .ok (W.o (.lst ys)) (e2.backS vs ss)
            | _ => .bad) := h
          cases hL : lcL cc ff xs [] (e1.wipeS vs) with
          | bad => rw [hL] at h; exact h.elim
          | exc x e2 => rw [hL] at h; exact h.elim
          | ok ys e2 =>
            rw [hL] at h
            have h : ∀ v H', True → ERx b σ H' (e2.backS vs ss) (fl ++ [(v, W.o (.lst ys))]) → Q v H' := h
            have E0 := E1.drop
            obtain ⟨pk, pk1, pk2⟩ := E0.parks hp
            have ev := E1.vals hI.nos
            let full : List D → List (V × W) := fun acc => maskF vs fl ++ ((V.ref Dd, W.o (.lst acc)) :: (pk ++ ent))
            have fullA : ∀ acc, full acc = (maskF vs fl ++ ((V.ref Dd, W.o (.lst acc)) :: pk)) ++ ent := fun acc => by
              show _ ++ _ = _
              simp [List.append_assoc]
            have fullN : ∀ acc, noS vs (full acc) := fun acc => by
              refine maskF_noS.app fun p hp i q => ?_
              rcases List.mem_cons.mp hp with z | z
              · rw [z] at q; cases q
              · rcases List.mem_append.mp z with z | z
                · exact vals_noS (fun p hp => let ⟨d, y, _⟩ := pk1 p hp; ⟨d, y⟩) p z i q
                · exact vals_noS hI.nos p z i q
            have hlen : ∀ i ∈ vs, i < σ.length := fun i hi => by
              obtain ⟨k, hk⟩ := List.getElem?_of_mem hi
              have hk2 : k < ss.length := by rw [parked_len hp]; exact (List.getElem?_eq_some_iff.mp hk).1
              have := (parked_get hp hk (List.getElem?_eq_getElem hk2)).1
              rw [← E0.len]
              exact (List.getElem?_eq_some_iff.mp this).1
            have ww : ∀ σ2 : L2.St, σ2.length = (wipe σ vs).length → (∀ i, i ∉ vs → σ2[i]? = (wipe σ vs)[i]?) → wipe σ2 vs = wipe σ vs := fun σ2 g1 g2 => wipe_wipe (by rw [g1, wipe_length]) fun i hi => by rw [g2 i hi, wipe_out hi]
            refine ⟨fun i m H => i ≤ xs.length ∧ m = xs.length - i ∧ ∃ F O e' acc, ER b F O (wipe σ vs) H (e'.wipeS vs) (full acc) ∧ lcL cc ff (xs.drop i) acc e' = .ok ys e2, ⟨xs.length, Nat.zero_le _, rfl, ?_⟩, ?_⟩
            · -- ahead of the first turn
              have Ew := (E0.masked (vs := vs)).wipes maskF_noS
              have Eo := Ew.pushO (o := .lst []) (d := .lst []) hD ⟨[], upd_same, rfl⟩
              have Ep := (Eo.pushAll pk1).pushAll ev
              have Ef := Ep.wipes (vs := vs) (by
                have := fullN []
                rw [fullA] at this
                simpa [List.append_assoc] using this)
              rw [ww (wipe σ vs) rfl fun _ _ => rfl] at Ef
              generalize updO O1 Dd (some (Ow.fl (maskF vs fl).length, .lst [])) = O9 at Ef
              have Eg : ER b F1 O9 (wipe σ vs) (upd H1 Dd (.lst [])) ((e1.wipeS vs).wipeS vs) (full []) := by
                rw [fullA]
                simpa [List.append_assoc] using Ef
              exact ⟨F1, O9, e1.wipeS vs, [], Eg, by rw [List.drop_zero]; exact hL⟩
            · rintro i m H2 ⟨hi, rfl, F, O, e', acc, E2, hl⟩
              have E2' := E2
              rw [fullA] at E2'
              by_cases hi2 : i = xs.length
              · -- done
                subst hi2
                refine .inl ⟨hI.stop _ _ _ _ _ _ E2', ?_⟩
                rw [List.drop_length] at hl
                cases hl
                refine h _ _ True.intro ⟨F, O, ?_⟩
                refine ER.restore (l := []) (fun j u k q => ?_) hp pk2 ?_
                · rcases get_one q with q | ⟨_, q⟩
                  · exact E0.flr j u _ q
                  · cases q
                · have := E2'.drop
                  unfold maskF at this ⊢
                  rw [List.map_append]
                  simpa [List.append_assoc, mask1] using this
              · -- a turn
                have hi3 : i < xs.length := by omega
                refine .inr ⟨hI.go _ _ _ _ _ _ i E2' hi3, fun H' => ∃ F O e' acc, ER b F O (wipe σ vs) H' (e'.wipeS vs) (full acc) ∧ lcL cc ff (xs.drop (i + 1)) acc e' = .ok ys e2, fun H' hN => ⟨xs.length - (i + 1), by omega, hi3, rfl, hN⟩, fun x H' y => ?_⟩
                obtain ⟨F', O', E3, r⟩ := hI.yld _ _ _ _ _ _ i x H' xs[i] E2' (List.getElem?_eq_getElem hi3) y
                rw [← fullA] at E3
                rw [List.drop_eq_getElem_cons hi3] at hl
                unfold lcL at hl
                obtain ⟨t, e4, hl1, hl2⟩ := R.bnd_inv hl
                rw [← hcc] at hl1
                cases hb1 : e'.bindT tg xs[i] with
                | none => simp only [hb1] at hl1; cases hl1
                | some e5 =>
                  simp only [hb1] at hl1
                  refine tg_rd (e := e'.wipeS vs) (e' := e5) hK E3 r (fun k hk => by rw [wipe_length]; rw [hvs] at hk; exact hlen k hk) (by rw [hvs]; exact fullN acc) (by rw [← hvs]; rw [bindT_wipe (by rw [hvs]; exact h5)]; exact hb1) fun σ2 g1 g2 E4 => ?_
                  rw [hvs] at g2
                  have wσ := ww σ2 g1 g2
                  refine ⟨wσ, b, e5, full acc, hb, ⟨_, _, E4⟩, ?_⟩
                  rw [hl1]
                  rintro t' H3 rfl ⟨F5, O5, E5⟩
                  have Ec : ER b F5 O5 σ2 H3 e4 (full acc) := ER.drop E5
                  cases t' with
                  | false =>
                    rw [if_neg Bool.false_ne_true]
                    have E6 := Ec.wipes (fullN acc)
                    rw [wσ] at E6
                    exact ⟨_, _, e4, acc, E6, hl2⟩
                  | true =>
                    rw [if_pos rfl]
                    rw [if_pos rfl] at hl2
                    obtain ⟨w, e6, hl3, hl4⟩ := R.bnd_inv hl2
                    rw [← hff] at hl3
                    have hl3 : evE (callN g.T n) el e4 = .ok w e6 := hl3
                    refine ⟨b, e4, full acc, hb, ⟨_, _, Ec⟩, ?_⟩
                    rw [hl3]
                    rintro v H4 _ ⟨F6, O6, E6⟩
                    cases ct : e6.tak w with
                    | none => rw [ct] at hl4; cases hl4
                    | some pr =>
                      obtain ⟨yd, e7⟩ := pr
                      rw [ct] at hl4
                      have hl4 : (if acc.length < lim then lcL cc ff (xs.drop (i + 1)) (acc ++ [yd]) e7 else .bad) = .ok ys e2 := hl4
                      by_cases ha : acc.length < lim
                      · rw [if_pos ha] at hl4
                        obtain ⟨F7, O7, E7, _, ry, _⟩ := E6.tak (l2 := []) ct
                        have E7 := E7.drop
                        obtain ⟨a', ea, hO⟩ := E7.flr (maskF vs fl).length (.ref Dd) (.o (.lst acc)) get_at
                        cases ea
                        obtain ⟨_, ⟨us, hus, rus⟩, _, _⟩ := E7.own _ _ _ hO
                        refine ⟨us, hus, by rw [← rus.length]; exact ha, ?_⟩
                        obtain ⟨O8, E8⟩ := E7.mutF (o := .lst (us ++ [v])) (d' := .lst (acc ++ [yd])) ⟨_, upd_same, rus.append (RepL.one ry)⟩
                        have E9 := ER.wipes (vs := vs) E8 (fullN (acc ++ [yd]))
                        rw [wσ] at E9
                        exact ⟨_, _, e7, acc ++ [yd], E9, hl4⟩
                      · rw [if_neg ha] at hl4; cases hl4
    | [], h => cases h
    | _ :: _ :: _, h => cases h
theorem s_lc (tg : Tg) (el it c : Ex) (hel : SE g n el) (hit : SI g n it) (hc : STs g n c) : SE g n (.lc tg el it c) := by
  intro I X Wx G o e h
  cases e with
  | ListComp eel gens sc p =>
    obtain ⟨et, ei, ifs, rfl, L⟩ := lc_parts hel hit hc G o h
    exact wkE (pe_lc o.calm (by rw [o.hN]; exact o.nd) L.hi L.ok L.hg L.ht L.he L.hs) L.rd
  | _ => cases h
end
end Mi

set_option Elab.async false
set_option linter.all false
set_option maxRecDepth 100000
set_option maxHeartbeats 1000000
/-! Mi19: every expression. -/
namespace Mi
open PySem L2
section
variable {g : Gi} {n : Nat}
structure All (g : Gi) (n : Nat) (m : Ex) : Prop where
  E : SE g n m
  A : SA g n m
  O : SO g n m
  T : STs g n m
  I : SI g n m
  K : SK g n m
/-- a form that gives a value -/
theorem All.ofE {m : Ex} (hs : SE g n m) (ht : STs g n m) (h1 : ∀ I es, chkA I m es = false) (h2 : ∀ I o, chkO I m o = true → ∃ e, o = some e ∧ chkE I m e = true) (h3 : ∀ cal e, evO cal m e = bO (evE cal m) e)
    (h4 : ∀ cal e, evI cal m e = bI (evE cal m) e) (h5 : ∀ I t e, chkI I m t e = true → chkE I m e = true) (h6 : ∀ I ks, chkK I m ks = false) : All g n m :=
  ⟨hs, fun I X Wx G o es h => (by rw [h1] at h; cases h), so_of hs h2 h3, ht, si_plain h4 h5 hs, fun I X Wx G o ks h => (by rw [h6] at h; cases h)⟩
theorem All.ofN {m : Ex} (h0 : ∀ I e, chkE I m e = false) (ha : SA g n m) (ho : SO g n m) (hi : SI g n m) (hk : SK g n m) : All g n m :=
  ⟨fun I X Wx G o e h => (by rw [h0] at h; cases h), ha, ho, fun I X Wx G o e h => (by rw [h0] at h; cases h), hi, hk⟩
theorem naA {m : Ex} (h1 : ∀ I es, chkA I m es = false) : SA g n m := fun I X Wx G o es h => by rw [h1] at h; cases h
theorem naK {m : Ex} (h1 : ∀ I es, chkK I m es = false) : SK g n m := fun I X Wx G o es h => by rw [h1] at h; cases h
theorem naO {m : Ex} (h1 : ∀ I es, chkO I m es = false) : SO g n m := fun I X Wx G o es h => by rw [h1] at h; cases h
theorem naI {m : Ex} (h1 : ∀ I t es, chkI I m t es = false) : SI g n m := fun I X Wx G o tg e h => by rw [h1] at h; cases h
theorem all (m : Ex) : All g n m := by
  induction m with
  | k d => exact All.ofE (s_k d) (st_plain rfl (s_k d)) (fun _ _ => rfl) (fun I o h => by cases o with | none => cases h | some e => exact ⟨e, rfl, h⟩) (fun _ _ => rfl) (fun _ _ => rfl) (fun I t e h => (Bool.and_eq_true_iff.mp h).2) (fun _ _ => rfl)
  | v i => exact All.ofE (s_v i) (st_plain rfl (s_v i)) (fun _ _ => rfl) (fun I o h => by cases o with | none => cases h | some e => exact ⟨e, rfl, h⟩) (fun _ _ => rfl) (fun _ _ => rfl) (fun I t e h => (Bool.and_eq_true_iff.mp h).2) (fun _ _ => rfl)
  | g x d => exact All.ofE (s_g x d) (st_plain rfl (s_g x d)) (fun _ _ => rfl) (fun I o h => by cases o with | none => cases h | some e => exact ⟨e, rfl, h⟩) (fun _ _ => rfl) (fun _ _ => rfl) (fun I t e h => (Bool.and_eq_true_iff.mp h).2) (fun _ _ => rfl)
  | op o a b ha hb => exact All.ofE (s_op o a b ha.E hb.E) (st_plain rfl (s_op o a b ha.E hb.E)) (fun _ _ => rfl) (fun I o h => by cases o with | none => cases h | some e => exact ⟨e, rfl, h⟩) (fun _ _ => rfl) (fun _ _ => rfl) (fun I t e h => (Bool.and_eq_true_iff.mp h).2) (fun _ _ => rfl)
  | neg a ha => exact All.ofE (s_neg a ha.E) (st_plain rfl (s_neg a ha.E)) (fun _ _ => rfl) (fun I o h => by cases o with | none => cases h | some e => exact ⟨e, rfl, h⟩) (fun _ _ => rfl) (fun _ _ => rfl) (fun I t e h => (Bool.and_eq_true_iff.mp h).2) (fun _ _ => rfl)
  | cmp o a b ha hb => exact All.ofE (s_cmp o a b ha.E hb.E) (st_cmp o a b ha.E hb.E) (fun _ _ => rfl) (fun I o h => by cases o with | none => cases h | some e => exact ⟨e, rfl, h⟩) (fun _ _ => rfl) (fun _ _ => rfl) (fun I t e h => (Bool.and_eq_true_iff.mp h).2) (fun _ _ => rfl)
  | chain o o' a b c ha hb hc => exact All.ofE (s_chain o o' a b c ha.E hb.E hc.E) (st_chain o o' a b c ha.E hb.E hc.E) (fun _ _ => rfl) (fun I o h => by cases o with | none => cases h | some e => exact ⟨e, rfl, h⟩) (fun _ _ => rfl) (fun _ _ => rfl) (fun I t e h => (Bool.and_eq_true_iff.mp h).2) (fun _ _ => rfl)
  | and a b ha hb => exact All.ofE (s_and a b ha.E hb.E) (st_and a b ha.T hb.T) (fun _ _ => rfl) (fun I o h => by cases o with | none => cases h | some e => exact ⟨e, rfl, h⟩) (fun _ _ => rfl) (fun _ _ => rfl) (fun I t e h => (Bool.and_eq_true_iff.mp h).2) (fun _ _ => rfl)
  | or a b ha hb => exact All.ofE (s_or a b ha.E hb.E) (st_or a b ha.T hb.T) (fun _ _ => rfl) (fun I o h => by cases o with | none => cases h | some e => exact ⟨e, rfl, h⟩) (fun _ _ => rfl) (fun _ _ => rfl) (fun I t e h => (Bool.and_eq_true_iff.mp h).2) (fun _ _ => rfl)
  | not a ha => exact All.ofE (s_not a ha.E) (st_not a ha.T) (fun _ _ => rfl) (fun I o h => by cases o with | none => cases h | some e => exact ⟨e, rfl, h⟩) (fun _ _ => rfl) (fun _ _ => rfl) (fun I t e h => (Bool.and_eq_true_iff.mp h).2) (fun _ _ => rfl)
  | ife c a b hc ha hb => exact All.ofE (s_ife c a b hc.T ha.E hb.E) (st_ife c a b) (fun _ _ => rfl) (fun I o h => by cases o with | none => cases h | some e => exact ⟨e, rfl, h⟩) (fun _ _ => rfl) (fun _ _ => rfl) (fun I t e h => (Bool.and_eq_true_iff.mp h).2) (fun _ _ => rfl)
  | tup es he => exact All.ofE (s_tup es he.A) (st_plain rfl (s_tup es he.A)) (fun _ _ => rfl) (fun I o h => by cases o with | none => cases h | some e => exact ⟨e, rfl, h⟩) (fun _ _ => rfl) (fun _ _ => rfl) (fun I t e h => (Bool.and_eq_true_iff.mp h).2) (fun _ _ => rfl)
  | lst es he => exact All.ofE (s_lst es he.A) (st_plain rfl (s_lst es he.A)) (fun _ _ => rfl) (fun I o h => by cases o with | none => cases h | some e => exact ⟨e, rfl, h⟩) (fun _ _ => rfl) (fun _ _ => rfl) (fun I t e h => (Bool.and_eq_true_iff.mp h).2) (fun _ _ => rfl)
  | nil => exact All.ofN (fun _ _ => rfl) s_nil (naO fun _ _ => rfl) (naI fun _ _ _ => rfl) sk_nil
  | cons a r ha hr => exact All.ofN (fun _ _ => rfl) (s_cons a r ha.E hr.A) (naO fun _ _ => rfl) (naI fun _ _ _ => rfl) (sk_cons a r ha.E hr.K)
  | ix a b ha hb => exact All.ofE (s_ix a b ha.E hb.E) (st_plain rfl (s_ix a b ha.E hb.E)) (fun _ _ => rfl) (fun I o h => by cases o with | none => cases h | some e => exact ⟨e, rfl, h⟩) (fun _ _ => rfl) (fun _ _ => rfl) (fun I t e h => (Bool.and_eq_true_iff.mp h).2) (fun _ _ => rfl)
  | sl a lo hi ha hl hh => exact All.ofE (s_sl a lo hi ha.E hl.O hh.O) (st_plain rfl (s_sl a lo hi ha.E hl.O hh.O)) (fun _ _ => rfl) (fun I o h => by cases o with | none => cases h | some e => exact ⟨e, rfl, h⟩) (fun _ _ => rfl) (fun _ _ => rfl) (fun I t e h => (Bool.and_eq_true_iff.mp h).2) (fun _ _ => rfl)
  | no => exact All.ofN (fun _ _ => rfl) (naA fun _ _ => rfl) s_no (naI fun _ _ _ => rfl) (naK fun _ _ => rfl)
  | bi c es he => exact All.ofE (s_bi c es he.A) (st_plain rfl (s_bi c es he.A)) (fun _ _ => rfl) (fun I o h => by cases o with | none => cases h | some e => exact ⟨e, rfl, h⟩) (fun _ _ => rfl) (fun _ _ => rfl) (fun I t e h => (Bool.and_eq_true_iff.mp h).2) (fun _ _ => rfl)
  | me m o es ho he => exact All.ofE (s_me m o es ho.E he.A) (st_plain rfl (s_me m o es ho.E he.A)) (fun _ _ => rfl) (fun I o h => by cases o with | none => cases h | some e => exact ⟨e, rfl, h⟩) (fun _ _ => rfl) (fun _ _ => rfl) (fun I t e h => (Bool.and_eq_true_iff.mp h).2) (fun _ _ => rfl)
  | call f es he => exact All.ofE (s_call f es he.A) (st_plain rfl (s_call f es he.A)) (fun _ _ => rfl) (fun I o h => by cases o with | none => cases h | some e => exact ⟨e, rfl, h⟩) (fun _ _ => rfl) (fun _ _ => rfl) (fun I t e h => (Bool.and_eq_true_iff.mp h).2) (fun _ _ => rfl)
  | callk f es ks perm he hk => exact All.ofE (s_callk f es ks perm he.A hk.K) (st_plain rfl (s_callk f es ks perm he.A hk.K)) (fun _ _ => rfl) (fun I o h => by cases o with | none => cases h | some e => exact ⟨e, rfl, h⟩) (fun _ _ => rfl) (fun _ _ => rfl) (fun I t e h => (Bool.and_eq_true_iff.mp h).2) (fun _ _ => rfl)
  | isi a cs ha => exact All.ofE (s_isi a cs ha.E) (st_plain rfl (s_isi a cs ha.E)) (fun _ _ => rfl) (fun I o h => by cases o with | none => cases h | some e => exact ⟨e, rfl, h⟩) (fun _ _ => rfl) (fun _ _ => rfl) (fun I t e h => (Bool.and_eq_true_iff.mp h).2) (fun _ _ => rfl)
  | mk c => exact All.ofE (s_mk c) (st_plain rfl (s_mk c)) (fun _ _ => rfl) (fun I o h => by cases o with | none => cases h | some e => exact ⟨e, rfl, h⟩) (fun _ _ => rfl) (fun _ _ => rfl) (fun I t e h => (Bool.and_eq_true_iff.mp h).2) (fun _ _ => rfl)
  | lc tg e it c he hi hc => exact All.ofE (s_lc tg e it c he.E hi.I hc.T) (st_plain rfl (s_lc tg e it c he.E hi.I hc.T)) (fun _ _ => rfl) (fun I o h => by cases o with | none => cases h | some e => exact ⟨e, rfl, h⟩) (fun _ _ => rfl) (fun _ _ => rfl) (fun I t e h => (Bool.and_eq_true_iff.mp h).2) (fun _ _ => rfl)
  | rng1 a ha => exact All.ofN (fun _ _ => rfl) (naA fun _ _ => rfl) (naO fun _ _ => rfl) (si_rng1 a ha.E) (naK fun _ _ => rfl)
  | rng2 a b ha hb => exact All.ofN (fun _ _ => rfl) (naA fun _ _ => rfl) (naO fun _ _ => rfl) (si_rng2 a b ha.E hb.E) (naK fun _ _ => rfl)
  | en a ha => exact All.ofN (fun _ _ => rfl) (naA fun _ _ => rfl) (naO fun _ _ => rfl) (si_en a ha.E) (naK fun _ _ => rfl)
  | zp a b ha hb => exact All.ofN (fun _ _ => rfl) (naA fun _ _ => rfl) (naO fun _ _ => rfl) (si_zp a b ha.E hb.E) (naK fun _ _ => rfl)
end
end Mi

set_option Elab.async false
set_option linter.all false
set_option maxRecDepth 100000
set_option maxHeartbeats 1000000
/-! Mi20: statements: the look, the readings. -/
namespace Mi
open PySem L2
/-! ### the look -/
structure SB where
  S : Inf → Stmt → Bool
  B : Inf → List Stmt → Bool
def sb1 (f : Inf → Stmt → Bool) : SB := ⟨f, fun I sts => match sts with
  | [s] => f I s
  | _ => false⟩
def notComp : Expr → Bool
  | .ListComp .. => false
  | .SetComp .. => false
  | .DictComp .. => false
  | _ => true
def notSlice : Expr → Bool
  | .Slice .. => false
  | _ => true
def notTup : Expr → Bool
  | .Tuple .. => false
  | _ => true
/-- name = [..] on one line, the name a local -/
def swB (sc : Scope) (y : Str) (py : Pos) : Expr → Bool
  | .ListComp _ _ s p => decide (sc.names.lookup y = some .local) && (py.line == p.line && !(s.names.any fun (n, k) => n == y && (k == .local || k == .cell)))
  | _ => false
/-- the names that are stored from the right -/
def swN (sc : Scope) (ts vs : List Expr) : Option (List Str) :=
  if !(ts.length == 2 || ts.length == 3) || vs.length != ts.length then none else
  if vs.any fun | .Starred .. => true | _ => false then none else
  let line := (ts.head?.map (·.pos.line)).getD 0
  let names := ts.filterMap fun
    | .Name id pos => if sc.names.lookup id == some .local && pos.line == line then some id else none
    | _ => none
  if names.length != ts.length || names.eraseDups.length != names.length then none else
  if vs.all (foldedForSure 8) then none else
  if vs.all (constantsAlone 8) then none else
  some names
def namesOk (I : Inf) : List Nat → List Str → Bool
  | [], [] => true
  | i :: is, x :: xs => (decide (I.N[i]? = some x) && decide (I.sc.names.lookup x = some .local)) && namesOk I is xs
  | _, _ => false
def cs : St → SB
  | .skip => ⟨fun _ st => match st with
    | .Pass _ => true
    | .Expr (.Constant (.str _) _ _) _ => true
    | _ => false, fun _ sts => match sts with
    | [] => true
    | [.Pass _] => true
    | [.Expr (.Constant (.str _) _ _) _] => true
    | _ => false⟩
  | .seq a b => ⟨fun _ _ => false, fun I sts => match sts with
    | s :: t :: r => (cs a).S I s && (cs b).B I (t :: r)
    | _ => false⟩
  | .set i x => sb1 (fun I st => match st with
    | .Assign [.Name y _] e _ => setB I i y && chkE I x e
    | _ => false)
  | .unp is x => sb1 (fun I st => match st with
    | .Assign [.Tuple ts _ _] e _ => chkTgs I is ts && (chkE I x e && (notTup e && notComp e))
    | _ => false)
  | .par is es => sb1 (fun I st => match st with
    | .Assign [.Tuple ts _ _] (.Tuple vs _ _) _ => chkA I es vs && (match swN I.sc ts vs with
      | some ns => namesOk I is ns && decide (is.Nodup)
      | none => false)
    | _ => false)
  | .sub o i x => sb1 (fun I st => match st with
    | .Assign [.Subscript eo ei _] e _ => chkE I o eo && (chkE I i ei && (chkE I x e && notSlice ei))
    | _ => false)
  | .drop x => sb1 (fun I st => match st with
    | .Expr e _ => chkE I x e && notComp e
    | _ => false)
  | .ifs c a b => sb1 (fun I st => match st with
    | .If ec sa sb _ => chkE I c ec && ((cs a).B I sa && (cs b).B I sb)
    | _ => false)
  | .whl c b => sb1 (fun I st => match st with
    | .While ec sb [] _ => chkE I c ec && (cs b).B I sb
    | _ => false)
  | .fors tg it b => sb1 (fun I st => match st with
    | .For et ei sb [] _ => chkI I it (isTup et) ei && (chkTg I tg et && (cs b).B I sb)
    | _ => false)
  | .ret x => sb1 (fun I st => match st with
    | .Return (some e) _ => chkE I x e
    | _ => false)
  | .retN => sb1 (fun _ st => match st with
    | .Return none _ => true
    | _ => false)
  | .brk => sb1 (fun _ st => match st with
    | .Break _ => true
    | _ => false)
  | .cnt => sb1 (fun _ st => match st with
    | .Continue _ => true
    | _ => false)
def chkS (I : Inf) (m : St) (s : Stmt) : Bool := (cs m).S I s
def chkB (I : Inf) (m : St) (s : List Stmt) : Bool := (cs m).B I s
section
variable {g : Gi} {n : Nat}
/-- the context of a def's body -/
structure XS (g : Gi) (I : Inf) (X : Cx) : Prop where
  kd : I.sc.kind = .function
  pas : PassesOwn (model X.prog X.w) X.A X.env X.xe
  fnl : ∀ x, X.env.scope.names.lookup x = some .cell → X.fn x = true
def noSl (fl : List (V × W)) : Prop := ∀ p ∈ fl, ∀ i, p.2 ≠ W.s i
theorem noSl.noS {fl : List (V × W)} (h : noSl fl) (vs : List Nat) : noS vs fl := fun p hp i q => absurd q (h p hp i)
def outS (Wx : Kx) (b : Bs) (L : Nat) (fl : List (V × W)) (D : Ends) : SR → Prop
  | .nx e => ∀ (σ : L2.St) H, σ.length = L → ERx b σ H e fl → D.nx σ H
  | .brk e => ∀ (σ : L2.St) H, σ.length = L → ERx b σ H e fl → D.bk σ H
  | .cnt e => ∀ (σ : L2.St) H, σ.length = L → ERx b σ H e fl → D.ct σ H
  | .ret d own e => ∀ F H v, Post b F H e.le → Res b F H v d own → D.rt v H
  | .exc x e => ∀ (σ : L2.St) H cls d, ERex b σ H e fl x cls d → Wx σ cls d H
  | .bad => False
def rdS (g : Gi) (n : Nat) (Wx : Kx) (L : Nat) (m : St) : TS := fun D σ H => ∃ b e fl, BokG g b ∧ σ.length = L ∧ noSl fl ∧ ERx b σ H e fl ∧ outS Wx b L fl D (evS (callN g.T n) m e)
def SS (g : Gi) (n : Nat) (m : St) : Prop := ∀ (I : Inf) (X : Cx) (Wx : Kx), GOk g I.nm I.fr n → XO g I n Wx X → XS g I X →
  (∀ st : Stmt, chkS I m st = true → PS X st (rdS g n Wx I.N.length m)) ∧ (∀ sts : List Stmt, chkB I m sts = true → PSs X sts (rdS g n Wx I.N.length m))
variable {X : Cx} {I : Inf} {Wx : Kx} {b : Bs} {L : Nat} {fl : List (V × W)}
theorem wkS {st : Stmt} {t t' : TS} (h : PS X st t) (w : ∀ D σ H, t' D σ H → t D σ H) : PS X st t' := ⟨fun pins s σ H D I q => h.run pins s σ H D I (w _ _ _ q)⟩
theorem wkSs {st : List Stmt} {t t' : TS} (h : PSs X st t) (w : ∀ D σ H, t' D σ H → t D σ H) : PSs X st t' := ⟨fun pins s σ H D I q => h.run pins s σ H D I (w _ _ _ q)⟩
/-- a statement alone -/
theorem SS.one {m : St} {f : Inf → Stmt → Bool} (hc : cs m = sb1 f) (h : ∀ (I : Inf) (X : Cx) (Wx : Kx), GOk g I.nm I.fr n → XO g I n Wx X → XS g I X → ∀ st : Stmt, f I st = true → PS X st (rdS g n Wx I.N.length m)) : SS g n m := fun I X Wx G o o2 =>
  ⟨fun st q => h I X Wx G o o2 st (by unfold chkS at q; rw [hc] at q; exact q), fun sts q => by
    unfold chkB at q
    rw [hc] at q
    match sts, q with
    | [s], q => exact pss_one (h I X Wx G o o2 s q)
    | [], q => cases q
    | _ :: _ :: _, q => cases q⟩
/-- the value first, then the statement -/
theorem outS.st {α β : Type} {okr : α → β → Prop} {psh : α → β → List (V × W)} {σ : L2.St} {D : Ends} {r : R α} {f : α → Env → SR} (h : outS Wx b L fl D (r.st f)) :
    outG okr psh Wx b σ fl (fun y H1 => ∃ a e1, okr a y ∧ ERx b σ H1 e1 (fl ++ psh a y) ∧ outS Wx b L fl D (f a e1)) r := by
  cases r with
  | ok a e => exact fun y H' h1 h2 => ⟨a, e, h1, h2, h⟩
  | exc x e => exact fun H' cls d h1 => h σ H' cls d h1
  | bad => exact h
theorem outS.sq {D : Ends} {r : SR} {f : Env → SR} (h : outS Wx b L fl D (r.sq f)) : outS Wx b L fl { D with nx := fun σ H => ∃ e, σ.length = L ∧ ERx b σ H e fl ∧ outS Wx b L fl D (f e) } r := by
  cases r with
  | nx e => exact fun σ H h1 h2 => ⟨e, h1, h2, h⟩
  | brk e => exact h
  | cnt e => exact h
  | ret d own e => exact h
  | exc x e => exact h
  | bad => exact h
theorem SE.st {m : Ex} (hm : SE g n m) : SE g n m := hm
/-- the reading of a statement that begins with a value -/
theorem rdS_E {m : St} {x : Ex} {f : W → Env → SR} (hv : ∀ e, evS (callN g.T n) m e = (evE (callN g.T n) x e).st f) {D : Ends} {σ : L2.St} {H : Hp} {Q : VK} (q : rdS g n Wx L m D σ H)
    (hQ : ∀ b e1 fl v w H1, BokG g b → σ.length = L → noSl fl → ERx b σ H1 e1 (fl ++ [(v, w)]) → outS Wx b L fl D (f w e1) → Q v H1) : rdE g n Wx x σ H Q := by
  obtain ⟨b, e, fl, hb, hl, hf, E, h⟩ := q
  rw [hv] at h
  refine ⟨b, e, fl, hb, E, (outS.st h).mono ?_⟩
  rintro v H1 ⟨w, e1, _, E1, h1⟩
  exact hQ b e1 fl v w H1 hb hl hf E1 h1
/-! ### the odd ways of storing -/
theorem kind_of {X : Cx} (o : XO g I n Wx X) {x : Str} : X.env.kindOf x = I.sc.names.lookup x := by
  show X.env.scope.names.lookup x = _
  rw [o.sc]
theorem block_fun {env : PySem.Env} (h : env.scope.kind = .function) : env.blockKind = .function := by
  unfold Env.blockKind
  rw [h]
  rfl
theorem sw_any {e : Expr} {y : Str} {py : Pos} {l : Nat} {env : PySem.Env} (hk : env.scope.kind = .function) (h : notComp e = true ∨ (∃ a b s p, e = .ListComp a b s p)) : swapsWith e (some (.Name y py)) l env = pure (swB env.scope y py e) := by
  have hb := block_fun hk
  rcases h with h | ⟨a, b, s, p, rfl⟩
  · cases e <;> first | rfl | cases h
  · unfold swapsWith
    simp only [hb]
    show (pure ((true && (env.scope.names.lookup y == some .local) && py.line == p.line) && !(s.names.any fun (n, k) => n == y && (k == .local || k == .cell))) : Sem Bool) = pure (swB env.scope y py (.ListComp a b s p))
    congr 1
    unfold swB
    have : (env.scope.names.lookup y == some .local) = decide (env.scope.names.lookup y = some .local) := by
      cases q : env.scope.names.lookup y with
      | none => rfl
      | some k => cases k <;> rfl
    rw [this]
    simp [Bool.and_assoc]
theorem chk_comp {m : Ex} {e : Expr} (h : chkE I m e = true) : notComp e = true ∨ (∃ a b s p, e = .ListComp a b s p) := by
  cases e with
  | ListComp a b s p => exact .inr ⟨_, _, _, _, rfl⟩
  | SetComp a b s p =>
    exfalso
    unfold chkE at h
    cases m with
    | k d => cases d <;> cases h
    | _ => cases h
  | DictComp a b s p q =>
    exfalso
    unfold chkE at h
    cases m with
    | k d => cases d <;> cases h
    | _ => cases h
  | _ => exact .inl rfl
theorem chk_lc {m : Ex} {a : Expr} {gs : List Comprehension} {s : Scope} {p : Pos} (h : chkE I m (.ListComp a gs s p) = true) : ∃ tg el it c, m = .lc tg el it c := by
  unfold chkE at h
  cases m with
  | k d => cases d <;> cases h
  | lc tg el it c => exact ⟨_, _, _, _, rfl⟩
  | _ => cases h
theorem sw_sub {e o i : Expr} {p : Pos} {l : Nat} {env : PySem.Env} : swapsWith e (some (.Subscript o i p)) l env = pure false := by
  cases e <;> rfl
theorem sw_tup {e : Expr} {ts : List Expr} {k : Nat} {p : Pos} {l : Nat} {env : PySem.Env} : swapsWith e (some (.Tuple ts k p)) l env = pure false := by
  cases e <;> rfl
theorem sw_none {e : Expr} {l : Nat} {env : PySem.Env} (h : notComp e = true) : swapsWith e none l env = pure false := by
  cases e <;> first | rfl | cases h
theorem sst_sub {e o i : Expr} {p : Pos} {env : PySem.Env} : swappedStores [.Subscript o i p] e env = pure none := by
  cases e <;> rfl
theorem sst_tup {e : Expr} {ts : List Expr} {k : Nat} {p : Pos} {env : PySem.Env} (h : notTup e = true) : swappedStores [.Tuple ts k p] e env = pure none := by
  cases e <;> first | rfl | cases h
theorem sst_par {ts vs : List Expr} {k k2 : Nat} {p p2 : Pos} {env : PySem.Env} {ns : List Str} (hk : env.scope.kind = .function) (h : swN env.scope ts vs = some ns) : swappedStores [.Tuple ts k p] (.Tuple vs k2 p2) env = pure (some ns) := by
  have hb := block_fun hk
  unfold swN at h
  unfold swappedStores
  simp only [hb]
  split at h
  · cases h
  · rename_i h1
    split at h
    · cases h
    · rename_i h2
      simp only at h
      split at h
      · cases h
      · rename_i h3
        split at h
        · cases h
        · rename_i h4
          split at h
          · cases h
          · rename_i h5
            simp only [Bool.not_eq_true] at h1 h2 h3 h4 h5
            refine (if_neg ?_).trans ?_
            · rw [h1]; decide
            · refine (if_neg fun z => Bool.false_ne_true (h2.symm.trans z)).trans ?_
              refine (if_neg fun z => Bool.false_ne_true (h3.symm.trans z)).trans ?_
              refine (if_neg fun z => Bool.false_ne_true (h4.symm.trans z)).trans ?_
              refine (if_neg fun z => Bool.false_ne_true (h5.symm.trans z)).trans ?_
              exact congrArg pure h
end
end Mi

set_option Elab.async false
set_option linter.all false
set_option maxRecDepth 100000
set_option maxHeartbeats 1000000
/-! Mi21: statements, one by one. -/
namespace Mi
open PySem L2
section
variable {g : Gi} {n : Nat}
theorem XS.tg {I : Inf} {X : Cx} {Wx : Kx} (o : XO g I n Wx X) (o2 : XS g I X) {i : Nat} {x : Str} (h : setB I i x = true) : TgN X i x := by
  obtain ⟨h1, h2⟩ := Bool.and_eq_true_iff.mp (show (locB I.sc x && decide (I.N[i]? = some x)) = true from h)
  have h2 := of_decide_eq_true h2
  refine ⟨by rw [o.hN]; exact h2, ?_⟩
  have q := o2.fnl x
  unfold L2.Loc
  rw [o.sc] at q ⊢
  unfold locB at h1
  split at h1
  · rename_i z
    exact ⟨.inl z, .inr z⟩
  · rename_i z
    exact ⟨.inr z, .inl (q z)⟩
  · cases h1
theorem setB_lt {I : Inf} {i : Nat} {x : Str} (h : setB I i x = true) : i < I.N.length := by
  obtain ⟨_, h2⟩ := Bool.and_eq_true_iff.mp (show (locB I.sc x && decide (I.N[i]? = some x)) = true from h)
  exact (List.getElem?_eq_some_iff.mp (of_decide_eq_true h2)).1
theorem chkTgs_lt {I : Inf} : ∀ {is : List Nat} {es : List Expr}, chkTgs I is es = true → ∀ i ∈ is, i < I.N.length
  | [], _, _, i, hi => by cases hi
  | _ :: _, [], h, _, _ => by cases h
  | j :: is, e :: es, h, i, hi => by
    cases e with
    | Name x p =>
      obtain ⟨h1, h2⟩ := Bool.and_eq_true_iff.mp (show (setB I j x && chkTgs I is es) = true from h)
      rcases List.mem_cons.mp hi with rfl | hi
      · exact setB_lt h1
      · exact chkTgs_lt h2 i hi
    | _ => cases h
theorem chkTg_lt {I : Inf} {tg : Tg} {e : Expr} (h : chkTg I tg e = true) : ∀ i ∈ tg.ids, i < I.N.length := by
  intro i hi
  cases tg with
  | one j =>
    cases e with
    | Name x p =>
      have : i = j := List.mem_singleton.mp hi
      subst this
      exact setB_lt h
    | _ => cases h
  | many is =>
    cases e with
    | Tuple es k p => exact chkTgs_lt (show chkTgs I is es = true from h) i hi
    | _ => cases h
variable {X : Cx} {I : Inf} {Wx : Kx} {b : Bs} {L : Nat} {fl : List (V × W)}
/-- a value stored in a slot -/
theorem store_ok1 {σ : L2.St} {H : Hp} {e1 e2 : Env} {v : V} {w : W} {i : Nat} (hf : noSl fl) (hi : i < σ.length) (E : ERx b σ H e1 (fl ++ [(v, w)])) (h : e1.store i w = some e2) : ERx b (σ.set i (some v)) H e2 fl := by
  obtain ⟨F, O, E⟩ := E
  have hn : ∀ (j : Nat) (u : V) (k : Nat), fl[j]? = some (u, W.s k) → k ≠ i := fun j u k q => absurd rfl (hf _ (List.mem_of_getElem? q) k)
  cases w with
  | d d =>
    cases h
    have r : Rep b.K F d v := E.flr _ _ _ get_end
    exact ⟨F, O, E.drop.setV hn hi r⟩
  | o d =>
    cases h
    obtain ⟨O', E'⟩ := E.setO hn hi
    exact ⟨F, O', E'⟩
  | s k =>
    have h : (match e1.tak (.s k) with
      | some (d, e') => some (e'.setS i (.val d))
      | none => none) = some e2 := h
    cases c : e1.tak (.s k) with
    | none => rw [c] at h; cases h
    | some p =>
      obtain ⟨d, e'⟩ := p
      rw [c] at h
      cases h
      obtain ⟨F', O', E', _, r, _⟩ := E.tak (l2 := []) c
      exact ⟨F', O', E'.drop.setV hn hi r⟩
theorem outS.st2 {α β : Type} {okr : α → β → Prop} {psh : α → β → List (V × W)} {σ : L2.St} {D : Ends} {r : R α} {f : α → Env → SR} (mid : List (V × W)) (h : outS Wx b L fl D (r.st f)) :
    outG okr psh Wx b σ (fl ++ mid) (fun y H1 => ∃ a e1, okr a y ∧ ERx b σ H1 e1 ((fl ++ mid) ++ psh a y) ∧ outS Wx b L fl D (f a e1)) r := by
  cases r with
  | ok a e => exact fun y H' h1 h2 => ⟨a, e, h1, h2, h⟩
  | exc x e => exact fun H' cls d h1 => h σ H' cls d h1.drop
  | bad => exact h
theorem outG.cast {α β : Type} {okr : α → β → Prop} {psh : α → β → List (V × W)} {σ : L2.St} {fl' : List (V × W)} {Q Q' : β → Hp → Prop} {r : R α} (h : outG okr psh Wx b σ fl Q r) (e : fl = fl') (hQ : ∀ y H, Q y H → Q' y H) : outG okr psh Wx b σ fl' Q' r := by
  subst e
  exact h.mono hQ
theorem ss_skip : SS g n .skip := by
  intro I X Wx G o o2
  have nx : ∀ {D : Ends} {σ : L2.St} {H : Hp}, rdS g n Wx I.N.length .skip D σ H → tNext D σ H := fun {D σ H} ⟨b, e, fl, hb, hl, hf, E, h⟩ => h σ H hl E
  have one : ∀ st : Stmt, chkS I .skip st = true → PS X st (rdS g n Wx I.N.length .skip) := fun st h => by
    cases st with
    | Pass p => exact wkS ps_pass fun D σ H q => nx q
    | Expr e p =>
      cases e with
      | Constant c j pc =>
        cases c with
        | str x => exact wkS ps_doc fun D σ H q => nx q
        | _ => cases h
      | _ => cases h
    | _ => cases h
  refine ⟨one, fun sts h => ?_⟩
  match sts, h with
  | [], _ => exact wkSs pss_nil fun D σ H q => nx q
  | [st], h =>
    refine pss_one (one st ?_)
    cases st with
    | Pass p => rfl
    | Expr e p =>
      cases e with
      | Constant c j pc =>
        cases c with
        | str x => rfl
        | _ => cases h
      | _ => cases h
    | _ => cases h
  | s :: t :: r, h => cases s <;> first | cases h | (rename_i e p; cases e <;> first | cases h | (rename_i c j pc; cases c <;> cases h))
theorem ss_seq (a c : Mi.St) (ha : SS g n a) (hc : SS g n c) : SS g n (.seq a c) := by
  intro I X Wx G o o2
  refine ⟨fun st h => (by cases h), fun sts h => ?_⟩
  match sts, h with
  | [], h => cases h
  | [_], h => cases h
  | s :: t :: r, h =>
    obtain ⟨h1, h2⟩ := Bool.and_eq_true_iff.mp (show (chkS I a s && chkB I c (t :: r)) = true from h)
    refine wkSs (pss_cons ((ha I X Wx G o o2).1 s h1) ((hc I X Wx G o o2).2 _ h2)) fun D σ H ⟨b, e, fl, hb, hl, hf, E, h⟩ => ?_
    refine ⟨b, e, fl, hb, hl, hf, E, ?_⟩
    have h := outS.sq (r := evS (callN g.T n) a e) (f := evS (callN g.T n) c) h
    revert h
    cases evS (callN g.T n) a e with
    | nx e1 =>
      intro h σ' H' h1 h2
      obtain ⟨e2, h3, h4, h5⟩ := h σ' H' h1 h2
      exact ⟨b, e2, fl, hb, h3, hf, h4, h5⟩
    | brk e1 => exact fun h => h
    | cnt e1 => exact fun h => h
    | ret d own e1 => exact fun h => h
    | exc x e1 => exact fun h => h
    | bad => exact fun h => h
theorem ss_set (i : Nat) (x : Ex) (hx : All g n x) (hlc : ∀ tg el it c, x = .lc tg el it c → All g n el ∧ All g n it ∧ All g n c) : SS g n (.set i x) := by
  refine SS.one rfl fun I X Wx G o o2 st h => ?_
  split at h
  · rename_i y py e p
    obtain ⟨h1, h2⟩ := Bool.and_eq_true_iff.mp (show (setB I i y && chkE I x e) = true from h)
    obtain ⟨t1, t2, t3⟩ := XS.tg o o2 h1
    have rd : ∀ {D : Ends} {σ : L2.St} {H : Hp}, rdS g n Wx I.N.length (.set i x) D σ H → tAsg (rdE g n Wx x) (gName i) D σ H := fun {D σ H} q => by
      refine rdS_E (f := fun w e1 => match e1.store i w with | some e2 => .nx e2 | none => .bad) (fun e => rfl) q fun b e1 fl v w H1 hb hl hf E1 h3 => ?_
      cases c : e1.store i w with
      | none => simp only [c] at h3; exact h3.elim
      | some e2 =>
        simp only [c] at h3
        exact h3 _ _ (by rw [List.length_set]; exact hl) (store_ok1 hf (by rw [hl]; exact setB_lt h1) E1 c)
    have hk : X.env.scope.kind = .function := by rw [o.sc]; exact o2.kd
    have hN : X.N.Nodup := by rw [o.hN]; exact o.nd
    have sw := sw_any (y := y) (py := py) (l := p.line) hk (chk_comp h2)
    cases hs : swB X.env.scope y py e with
    | false =>
      rw [hs] at sw
      exact wkS (ps_set hN t1 t2 (hx.E I X Wx G o e h2) sw t3) fun D σ H q => rd q
    | true =>
      rw [hs] at sw
      have hl : ∃ a gs s p, e = .ListComp a gs s p := by
        cases e <;> first | exact ⟨_, _, _, _, rfl⟩ | cases hs
      obtain ⟨a, gs, s, pl, rfl⟩ := hl
      obtain ⟨tg, el, it, c, rfl⟩ := chk_lc h2
      obtain ⟨a1, a2, a3⟩ := hlc _ _ _ _ rfl
      obtain ⟨et, ei, ifs, rfl, P⟩ := lc_parts a1.E a2.I a3.T G o h2
      have hy : X.env.scope.names.lookup y = some .local := by
        unfold swB at hs
        simp only [Bool.and_eq_true, decide_eq_true_eq] at hs
        exact hs.1
      refine wkS (ps_setLc o.calm hN t1 hy sw P.hi P.ok P.hg P.ht P.he P.hs) fun D σ H q => ?_
      exact P.rd σ H _ (rd q)
  · cases h
theorem ss_unp (is : List Nat) (x : Ex) (hx : All g n x) : SS g n (.unp is x) := by
  refine SS.one rfl fun I X Wx G o o2 st h => ?_
  split at h
  · rename_i ts k tp e p
    simp only [Bool.and_eq_true] at h
    obtain ⟨h1, h2, h3, h4⟩ := h
    have hN : X.N.Nodup := by rw [o.hN]; exact o.nd
    have pg : PG X (.Tuple ts k tp) (gTg X.K (.many is)) := pg_tg o.calm hN (fun i x q => XS.tg o o2 q) (tg := .many is) h1
    refine wkS (ps_asg (hx.E I X Wx G o e h2) pg (sw_tup (ts := ts) (k := k) (p := tp) (l := p.line) (env := X.env)) (sst_tup h3)) fun D σ H q => ?_
    refine rdS_E (f := fun w e1 => match e1.tak w with
      | some (d, e2) => (match e2.bindT (.many is) d with
        | some e3 => .nx e3
        | none => .bad)
      | none => .bad) (fun e => rfl) q fun b e1 fl v w H1 hb hl hf ⟨F, O, E1⟩ h3 => ?_
    have hK : X.K = b.K := by rw [o.hK]; exact hb.1.symm
    cases c : e1.tak w with
    | none => simp only [c] at h3; exact h3.elim
    | some pr =>
      obtain ⟨d, e2⟩ := pr
      simp only [c] at h3
      obtain ⟨F2, O2, E2, _, r, _⟩ := E1.tak (l2 := []) c
      cases c2 : e2.bindT (.many is) d with
      | none => simp only [c2] at h3; exact h3.elim
      | some e3 =>
        simp only [c2] at h3
        exact tg_rd (tg := .many is) hK E2.drop r (fun i hi => by rw [hl]; exact chkTgs_lt h1 i hi) (hf.noS _) c2 fun σ' g1 g2 E3 => h3 _ _ (by rw [g1, hl]) ⟨_, _, E3⟩
  · cases h
theorem notSlice_asg {eo ei : Expr} {p : Pos} {env : PySem.Env} (h : notSlice ei = true) (v : Value) : assign (.Subscript eo ei p) env v = (do
      let ov ← holding [v] (eval eo env)
      let iv ← holding [v, ov] (eval ei env)
      standAt p
      holding [v, ov, iv] (setItem ov iv v)
      release [v, ov, iv] []) := by
  cases ei <;> first | rfl | cases h
theorem ss_sub (ox ix x : Ex) (ho : All g n ox) (hi : All g n ix) (hx : All g n x) : SS g n (.sub ox ix x) := by
  refine SS.one rfl fun I X Wx G o o2 st h => ?_
  split at h
  · rename_i eo ei sp e p
    simp only [Bool.and_eq_true] at h
    obtain ⟨h1, h2, h3, h4⟩ := h
    refine wkS (ps_asg (hx.E I X Wx G o e h3) (pg_sub (ho.E I X Wx G o eo h1) (hi.E I X Wx G o ei h2) set_list (notSlice_asg h4)) (sw_sub (o := eo) (i := ei) (p := sp) (l := p.line) (env := X.env)) sst_sub) fun D σ H q => ?_
    refine rdS_E (f := fun w e1 => (evE (callN g.T n) ox e1).st fun wo e2 => (evE (callN g.T n) ix e2).st fun wi e3 => match wo, e3.cur wi with
      | .s k, some (.int j) => (match e3.tak w with
        | some (d, e4) => (match e4.at k with
          | some (.lst xs, true) => (match L2.ixN xs.length j with
            | some n => .nx (e4.put k (.lst (xs.set n d), true))
            | none => .bad)
          | _ => .bad)
        | none => .bad)
      | _, _ => .bad) (fun e => rfl) q fun b e1 fl v w H1 hb hl hf E1 h3 => ?_
    refine ⟨b, e1, _, hb, E1, (outS.st2 [(v, w)] h3).mono ?_⟩
    rintro vo H2 ⟨wo, e2, _, E2, h3⟩
    refine ⟨b, e2, _, hb, E2, (outS.st2 ([(v, w)] ++ [(vo, wo)]) (by simpa [List.append_assoc] using h3)).cast (by simp [List.append_assoc]) ?_⟩
    rintro vi H3 ⟨wi, e3, _, ⟨F, O, E3⟩, h3⟩
    cases wo with
    | d _ => exact h3.elim
    | o _ => exact h3.elim
    | s k =>
      cases c1 : e3.cur wi with
      | none => simp only [c1] at h3; exact h3.elim
      | some di =>
        cases di with
        | int j =>
          simp only [c1] at h3
          cases c2 : e3.tak w with
          | none => simp only [c2] at h3; exact h3.elim
          | some pr =>
            obtain ⟨d, e4⟩ := pr
            simp only [c2] at h3
            cases c3 : e4.at k with
            | none => simp only [c3] at h3; exact h3.elim
            | some pq =>
              obtain ⟨dk, bk⟩ := pq
              simp only [c3] at h3
              cases dk with
              | lst xs =>
                cases bk with
                | false => exact h3.elim
                | true =>
                  cases c4 : L2.ixN xs.length j with
                  | none => simp only [c4] at h3; exact h3.elim
                  | some m =>
                    simp only [c4] at h3
                    have hvi := (E3.has get_end c1).intV
                    subst hvi
                    have E3' : ER b F O σ H3 e3 (fl ++ (v, w) :: [(vo, .s k), (.int j, wi)]) := by simpa [List.append_assoc] using E3
                    obtain ⟨F4, O4, E4, _, r, _⟩ := E3'.tak c2
                    have hσ : σ[k]? = some (some vo) := E4.flr (fl.length + 1) vo (.s k) (by simp)
                    obtain ⟨a, q1, q2⟩ := E4.atOwn c3 rfl
                    rw [q1] at hσ
                    cases hσ
                    have hO : ∃ ow, O4 a = some (ow, .lst xs) := by
                      rcases q2 with ⟨_, z⟩ | ⟨_, _, _, _, z⟩
                      · exact ⟨_, z⟩
                      · exact ⟨_, z⟩
                    obtain ⟨ow, hO⟩ := hO
                    obtain ⟨_, ⟨us, hus, rus⟩, _, _⟩ := E4.own _ _ _ hO
                    obtain ⟨O5, E5⟩ := E4.putM (d' := .lst (xs.set m d)) (o := .lst (us.set m v)) c3 rfl q1 ⟨_, upd_same, rus.set r m⟩
                    exact ⟨a, us, j, m, rfl, rfl, hus, by rw [← rus.length]; exact c4, h3 _ _ hl ⟨_, _, E5.drop⟩⟩
              | _ => cases bk <;> exact h3.elim
        | _ => simp only [c1] at h3; exact h3.elim
  · cases h
theorem ss_drop (x : Ex) (hx : All g n x) : SS g n (.drop x) := by
  refine SS.one rfl fun I X Wx G o o2 st h => ?_
  split at h
  · rename_i e p
    obtain ⟨h1, h2⟩ := Bool.and_eq_true_iff.mp h
    refine wkS (ps_expr (hx.E I X Wx G o e h1) (sw_none h2)) fun D σ H q => ?_
    refine rdS_E (f := fun _ e1 => .nx e1) (fun e => rfl) q fun b e1 fl v w H1 hb hl hf ⟨F, O, E1⟩ h3 => ?_
    exact h3 _ _ hl ⟨F, O, E1.drop⟩
  · cases h
theorem ss_ifs (c : Ex) (a d : Mi.St) (hc : All g n c) (ha : SS g n a) (hd : SS g n d) : SS g n (.ifs c a d) := by
  refine SS.one rfl fun I X Wx G o o2 st h => ?_
  split at h
  · rename_i ec sa sb p
    simp only [Bool.and_eq_true] at h
    obtain ⟨h1, h2, h3⟩ := h
    refine wkS (ps_if (hc.T I X Wx G o ec h1).1 ((ha I X Wx G o o2).2 sa h2) ((hd I X Wx G o o2).2 sb h3)) fun D σ H ⟨b, e, fl, hb, hl, hf, E, h⟩ => ?_
    have h : outS Wx b I.N.length fl D ((evT (callN g.T n) c e).st fun t e1 => if t then evS (callN g.T n) a e1 else evS (callN g.T n) d e1) := h
    refine ⟨b, e, fl, hb, E, (outS.st h).mono ?_⟩
    rintro t H1 ⟨t', e1, rfl, E1, h1⟩
    have E1 := E1.drop
    cases t with
    | true => exact ⟨b, e1, fl, hb, hl, hf, E1, h1⟩
    | false => exact ⟨b, e1, fl, hb, hl, hf, E1, h1⟩
  · cases h
theorem ss_ret (x : Ex) (hx : All g n x) : SS g n (.ret x) := by
  refine SS.one rfl fun I X Wx G o o2 st h => ?_
  split at h
  · rename_i e p
    refine wkS (ps_ret (hx.E I X Wx G o e h)) fun D σ H q => ?_
    refine rdS_E (f := fun w e1 => match w with
      | .d d => .ret d false e1
      | .o d => .ret d true e1
      | .s i => (match e1.sl[i]? with
        | some (.own d) => .ret d true e1
        | _ => (match e1.tak w with
          | some (d, e2) => .ret d false e2
          | none => .bad))) (fun e => rfl) q fun b e1 fl v w H1 hb hl hf ⟨F, O, E1⟩ h3 => ?_
    cases w with
    | d d =>
      have r : Rep b.K F d v := E1.flr _ _ _ get_end
      exact h3 F H1 v E1.post r
    | o d =>
      obtain ⟨a, e2, hO⟩ := E1.flr _ _ _ get_end
      obtain ⟨q1, q2, _, q4⟩ := E1.own _ _ _ hO
      exact h3 F H1 v E1.post ⟨a, e2, q4 (fun _ z => nomatch z), q1, q2⟩
    | s i =>
      have hσ : σ[i]? = some (some v) := E1.flr _ _ _ get_end
      have tk : ∀ {r : SR}, (match e1.tak (.s i) with
          | some (d, e2) => SR.ret d false e2
          | none => .bad) = r → outS Wx b I.N.length fl D r → D.rt v H1 := fun {r} er hr => by
        subst er
        cases c : e1.tak (.s i) with
        | none => simp only [c] at hr; exact hr.elim
        | some pr =>
          obtain ⟨d, e2⟩ := pr
          simp only [c] at hr
          obtain ⟨F2, O2, E2, _, r, _⟩ := E1.tak (l2 := []) c
          exact hr F2 H1 v E2.post r
      cases hs : e1.sl[i]? with
      | none => simp only [hs] at h3; exact tk rfl h3
      | some t =>
        cases t with
        | own d =>
          simp only [hs] at h3
          obtain ⟨a, q1, hO⟩ := E1.slot _ _ hs
          rw [hσ] at q1
          cases q1
          obtain ⟨q1, q2, _, q4⟩ := E1.own _ _ _ hO
          exact h3 F H1 _ E1.post ⟨a, rfl, q4 (fun _ z => nomatch z), q1, q2⟩
        | no => simp only [hs] at h3; exact tk rfl h3
        | val d => simp only [hs] at h3; exact tk rfl h3
        | lent k => simp only [hs] at h3; exact tk rfl h3
  · cases h
theorem ss_retN : SS g n .retN := by
  refine SS.one rfl fun I X Wx G o o2 st h => ?_
  split at h
  · exact wkS ps_retN fun D σ H ⟨b, e, fl, hb, hl, hf, ⟨F, O, E⟩, h⟩ => h F H .non E.post rfl
  · cases h
theorem ss_brk : SS g n .brk := by
  refine SS.one rfl fun I X Wx G o o2 st h => ?_
  split at h
  · exact wkS ps_break fun D σ H ⟨b, e, fl, hb, hl, hf, E, h⟩ => h σ H hl E
  · cases h
theorem ss_cnt : SS g n .cnt := by
  refine SS.one rfl fun I X Wx G o o2 st h => ?_
  split at h
  · exact wkS ps_continue fun D σ H ⟨b, e, fl, hb, hl, hf, E, h⟩ => h σ H hl E
  · cases h
end
end Mi

set_option Elab.async false
set_option linter.all false
set_option maxRecDepth 100000
set_option maxHeartbeats 1000000
namespace L2
open PySem PySem.Spec PyProof.Rows
section
variable {X : Cx} {pos : Pos}
/-- a, b, c = x, y, z with plain local names: stored from the right -/
def tPar3 (i j k : Nat) (ta : TA) : TS := fun D σ H => ta σ H fun vs H1 => ∃ v w z, vs = [v, w, z] ∧ D.nx (((σ.set k (some z)).set j (some w)).set i (some v)) H1
theorem ps_par3 {i j k : Nat} {x y z : Str} {a b c : Expr} {ta : TA} {px py pz pt : Pos} {kt k2 pt2} (hc : X.calm = true) (hN : X.N.Nodup) (hi : X.N[i]? = some x) (hj : X.N[j]? = some y) (hk : X.N[k]? = some z)
    (hx : X.env.scope.names.lookup x = some .local) (hy : X.env.scope.names.lookup y = some .local) (hz : X.env.scope.names.lookup z = some .local) (ha : PA X [a, b, c] ta)
    (hw : swappedStores [.Tuple [.Name x px, .Name y py, .Name z pz] kt pt] (.Tuple [a, b, c] k2 pt2) X.env = pure (some [x, y, z]))
    (hs : swapsWithSole [.Tuple [.Name x px, .Name y py, .Name z pz] kt pt] (.Tuple [a, b, c] k2 pt2) pos.line X.env = pure false := by rfl) :
    PS X (.Assign [.Tuple [.Name x px, .Name y py, .Name z pz] kt pt] (.Tuple [a, b, c] k2 pt2) pos) (tPar3 i j k ta) := by
  refine ⟨fun pins s σ H D I h => ?_⟩
  rw [exec_Assign_arm]
  refine wpAny_bind (wpAny_standAt ?_)
  rw [hs]
  refine wpAny_bind (wpAny_pure ?_)
  rw [if_neg (by decide)]
  refine wpAny_bind (Tuple_ (thn (ha.run _ pins s σ H _ I h) fun us s1 ⟨vs, H1, I1, r1, q1⟩ => ?_))
  obtain ⟨v, w, t, e1, q1⟩ := q1
  subst e1
  obtain ⟨u1, u2, u3, rfl, rv, rw', rt⟩ : ∃ u1 u2 u3, us = [u1, u2, u3] ∧ RelV v u1 ∧ RelV w u2 ∧ RelV t u3 := by
    cases r1 with
    | cons p q =>
      cases q with
      | cons p' q' =>
        cases q' with
        | cons p'' q'' =>
          cases q''
          exact ⟨_, _, _, rfl, p, p', p''⟩
  refine wpAny_newObj_type ?_ (by show 3 ≤ sizeLine; decide)
  have I2 : Inv X pins σ H1 { s1 with heap := s1.heap.push { cls := .type "tuple", data := .seq [u1, u2, u3].toArray } } := I1.kept (t' := s1.toks) fun b o e => Heap.get?_push_of_some _ e
  rw [hw]
  refine wpAny_bind (wpAny_pure ?_)
  show wpAny (model X.prog X.w) X.A (do rule "assign.swapped-stores"; let items ← unpackItems (.ref s1.heap.objs.size) 3 none; assignInOrder [fun v => bindName X.env z v, fun v => bindName X.env y v, fun v => bindName X.env x v] items.reverse; pure Flow.next) _ _ _
  refine wpAny_bind (wpAny_rule (wpAny_bind (unpackItems_tuple (items := #[u1, u2, u3]) (I.ok.hd hc) (IsTup.new s1.heap _) fun h' hx' => ?_)))
  have I3 := I2.kept (h' := h') (t' := s1.toks) fun b o e => hx' b o (Nat.ne_of_lt (Heap.lt_size e)) e
  show wpAny _ _ (assignInOrder [fun v => bindName X.env z v, fun v => bindName X.env y v, fun v => bindName X.env x v] [u3, u2, u1] >>= fun _ => pure Flow.next) _ _ _
  refine wpAny_bind (assignInOrder_cons (wpAny_bindName (store_ok I3 hN hk (.inl hz) rt (fun s2 I4 => ?_) (.inr hz))))
  refine assignInOrder_cons (wpAny_bindName (store_ok I4 hN hj (.inl hy) rw' (fun s3 I5 => ?_) (.inr hy)))
  refine assignInOrder_cons (wpAny_bindName (store_ok I5 hN hi (.inl hx) rv (fun s4 I6 => assignInOrder_nil (wpAny_pure ?_)) (.inr hx)))
  exact ⟨_, H1, I6, q1⟩
end
end L2
/-! Mi22: stores in parallel, loops; every statement. -/
namespace Mi
open PySem L2
section
variable {g : Gi} {n : Nat}
variable {X : Cx} {I : Inf} {Wx : Kx} {b : Bs} {L : Nat} {fl : List (V × W)}
theorem holds_ok : ∀ {ws us : List W} {vs : List V} {fl : List (V × W)} {F : Hp} {O : Gh} {σ : L2.St} {H : Hp} {e e' : Env}, ER b F O σ H e (fl ++ vs.zip ws) → vs.length = ws.length → e.holds ws = some (us, e') →
    ∃ F' O', ER b F' O' σ H e' (fl ++ vs.zip us) ∧ us.length = ws.length ∧ ∀ u ∈ us, ∀ i, u ≠ W.s i
  | [], us, vs, fl, F, O, σ, H, e, e', E, hl, h => by
    cases h
    cases vs with
    | nil => exact ⟨F, O, E, rfl, fun u hu => by cases hu⟩
    | cons _ _ => cases hl
  | w :: ws, us, [], fl, F, O, σ, H, e, e', E, hl, h => by cases hl
  | w :: ws, us, v :: vs, fl, F, O, σ, H, e, e', E, hl, h => by
    have E : ER b F O σ H e (fl ++ (v, w) :: vs.zip ws) := E
    have tail : ∀ {w' : W} {e1 : Env} {F : Hp} {O : Gh} {us' : List W}, (∀ i, w' ≠ .s i) → ER b F O σ H e1 (fl ++ (v, w') :: vs.zip ws) → e1.holds ws = some (us', e') → ∃ F' O', ER b F' O' σ H e' (fl ++ (v :: vs).zip (w' :: us')) ∧ (w' :: us').length = (w :: ws).length ∧ ∀ u ∈ w' :: us', ∀ i, u ≠ W.s i := fun {w' e1 F O us'} hw E1 h1 => by
      have E1' : ER b F O σ H e1 ((fl ++ [(v, w')]) ++ vs.zip ws) := by simpa [List.append_assoc] using E1
      obtain ⟨F', O', E2, h2, h3⟩ := holds_ok E1' (by simpa using hl) h1
      refine ⟨F', O', by simpa [List.append_assoc] using E2, by simp [h2], fun u hu i => ?_⟩
      rcases List.mem_cons.mp hu with rfl | hu
      · exact hw i
      · exact h3 u hu i
    cases w with
    | s i =>
      have h : (match e.tak (.s i) with
        | some (d, e1) => (match e1.holds ws with
          | some (us, e2) => some (.d d :: us, e2)
          | none => none)
        | none => none) = some (us, e') := h
      cases c : e.tak (.s i) with
      | none => rw [c] at h; cases h
      | some pr =>
        obtain ⟨d, e1⟩ := pr
        rw [c] at h
        have h : (match e1.holds ws with
          | some (us, e2) => some (.d d :: us, e2)
          | none => none) = some (us, e') := h
        cases c2 : e1.holds ws with
        | none => rw [c2] at h; cases h
        | some pr =>
          obtain ⟨us', e2⟩ := pr
          rw [c2] at h
          cases h
          obtain ⟨F1, O1, E1, _, _, _⟩ := E.tak c
          exact tail (fun i z => nomatch z) E1 c2
    | d d =>
      have h : (match e.holds ws with
        | some (us, e2) => some (.d d :: us, e2)
        | none => none) = some (us, e') := h
      cases c2 : e.holds ws with
      | none => rw [c2] at h; cases h
      | some pr =>
        obtain ⟨us', e2⟩ := pr
        rw [c2] at h
        cases h
        exact tail (fun i z => nomatch z) E c2
    | o d =>
      have h : (match e.holds ws with
        | some (us, e2) => some (.o d :: us, e2)
        | none => none) = some (us, e') := h
      cases c2 : e.holds ws with
      | none => rw [c2] at h; cases h
      | some pr =>
        obtain ⟨us', e2⟩ := pr
        rw [c2] at h
        cases h
        exact tail (fun i z => nomatch z) E c2
def stAll (σ : L2.St) : List Nat → List V → L2.St
  | i :: is, v :: vs => (stAll σ is vs).set i (some v)
  | _, _ => σ
theorem stAll_length {σ : L2.St} : ∀ {is : List Nat} {vs : List V}, (stAll σ is vs).length = σ.length
  | [], _ => by unfold stAll; rfl
  | _ :: _, [] => by unfold stAll; rfl
  | i :: is, v :: vs => by unfold stAll; rw [List.length_set, stAll_length]
theorem setWs_ok : ∀ {is : List Nat} {us : List W} {vs : List V} {fl : List (V × W)} {F : Hp} {O : Gh} {σ : L2.St} {H : Hp} {e : Env}, ER b F O σ H e (fl ++ vs.zip us) → noSl fl → (∀ u ∈ us, ∀ i, u ≠ W.s i) → vs.length = us.length → us.length = is.length → (∀ i ∈ is, i < σ.length) →
    ∃ O', ER b F O' (stAll σ is vs) H (e.setWs is us) fl
  | [], us, vs, fl, F, O, σ, H, e, E, hf, hu, hl, hl2, hi => by
    unfold stAll Env.setWs
    exact ⟨O, E.drop⟩
  | i :: is, [], vs, fl, F, O, σ, H, e, E, hf, hu, hl, hl2, hi => by cases hl2
  | i :: is, u :: us, [], fl, F, O, σ, H, e, E, hf, hu, hl, hl2, hi => by cases hl
  | i :: is, u :: us, v :: vs, fl, F, O, σ, H, e, E, hf, hu, hl, hl2, hi => by
    have E : ER b F O σ H e (fl ++ (v, u) :: vs.zip us) := E
    have E' : ER b F O σ H e ((fl ++ [(v, u)]) ++ vs.zip us) := by simpa [List.append_assoc] using E
    have hf' : noSl (fl ++ [(v, u)]) := fun p hp k => by
      rcases List.mem_append.mp hp with z | z
      · exact hf p z k
      · have := List.mem_singleton.mp z
        subst this
        exact hu u List.mem_cons_self k
    obtain ⟨O1, E1⟩ := setWs_ok E' hf' (fun x hx => hu x (List.mem_cons_of_mem _ hx)) (by simpa using hl) (by simpa using hl2) (fun k hk => hi k (List.mem_cons_of_mem _ hk))
    have hi' : i < (stAll σ is vs).length := by rw [stAll_length]; exact hi i List.mem_cons_self
    have hn : ∀ (j : Nat) (w : V) (k : Nat), fl[j]? = some (w, W.s k) → k ≠ i := fun j w k q => absurd rfl (hf _ (List.mem_of_getElem? q) k)
    cases u with
    | d d =>
      have r : Rep b.K F d v := E1.flr _ _ _ get_end
      exact ⟨O1, E1.drop.setV hn hi' r⟩
    | o d =>
      exact E1.setO hn hi'
    | s k => exact absurd rfl (hu _ List.mem_cons_self k)
theorem namesOk_get {I : Inf} {i : Nat} {x : Str} {is : List Nat} {xs : List Str} (h : namesOk I (i :: is) (x :: xs) = true) : I.N[i]? = some x ∧ I.sc.names.lookup x = some .local ∧ namesOk I is xs = true := by
  obtain ⟨h1, h2⟩ := Bool.and_eq_true_iff.mp (show ((decide (I.N[i]? = some x) && decide (I.sc.names.lookup x = some .local)) && namesOk I is xs) = true from h)
  obtain ⟨h3, h4⟩ := Bool.and_eq_true_iff.mp h1
  exact ⟨of_decide_eq_true h3, of_decide_eq_true h4, h2⟩
/-- the shape of what is stored from the right -/
theorem swN_shape {sc : Scope} {ts vs : List Expr} {ns : List Str} (h : swN sc ts vs = some ns) :
    (∃ x px y py a b, ts = [.Name x px, .Name y py] ∧ vs = [a, b] ∧ ns = [x, y]) ∨ (∃ x px y py z pz a b c, ts = [.Name x px, .Name y py, .Name z pz] ∧ vs = [a, b, c] ∧ ns = [x, y, z]) := by
  unfold swN at h
  split at h
  · cases h
  · rename_i h1
    split at h
    · cases h
    · simp only at h
      split at h
      · cases h
      · rename_i h3
        split at h
        · cases h
        · split at h
          · cases h
          · obtain ⟨h1, h2⟩ := Bool.or_eq_false_iff.mp (eq_false_of_ne_true h1)
            obtain ⟨h3, _⟩ := Bool.or_eq_false_iff.mp (eq_false_of_ne_true h3)
            simp only [Bool.not_eq_false', Bool.or_eq_true, beq_iff_eq] at h1
            have h2 : vs.length = ts.length := by simpa using h2
            rw [bne_eq_false_iff_eq] at h3
            have h := Option.some.inj h
            generalize (Option.map (fun x : Expr => x.pos.line) ts.head?).getD 0 = ln at h h3
            have h4 := h3
            have one : ∀ {t : Expr} {l : List Expr} {f : Expr → Option Str}, (List.filterMap f (t :: l)).length = (t :: l).length → ∃ x, f t = some x ∧ (List.filterMap f l).length = l.length ∧ List.filterMap f (t :: l) = x :: List.filterMap f l := fun {t l f} q => by
              cases c : f t with
              | none =>
                rw [List.filterMap_cons_none c] at q
                have := List.length_filterMap_le f l
                simp only [List.length_cons] at q
                omega
              | some x =>
                rw [List.filterMap_cons_some c] at q ⊢
                exact ⟨x, rfl, by simpa using q, rfl⟩
            have nm : ∀ {t : Expr} {x : Str}, (match t with
                | .Name id pos => if (List.lookup id sc.names == some NameKind.local && pos.line == ln) = true then some id else none
                | _ => none) = some x → ∃ p, t = .Name x p := fun {t x} q => by
              cases t with
              | Name id p =>
                dsimp only at q
                split at q
                · cases q; exact ⟨p, rfl⟩
                · cases q
              | _ => cases q
            rcases h1 with h1 | h1
            · match ts, h1, vs, h2 with
              | [t1, t2], _, [a, b], _ =>
                left
                obtain ⟨x, q1, q2, q3⟩ := one h4
                obtain ⟨y, q4, q5, q6⟩ := one q2
                obtain ⟨px, rfl⟩ := nm q1
                obtain ⟨py, rfl⟩ := nm q4
                rw [q3, q6] at h
                exact ⟨x, px, y, py, a, b, rfl, rfl, by rw [← h] <;> rfl⟩
            · match ts, h1, vs, h2 with
              | [t1, t2, t3], _, [a, b, c], _ =>
                right
                obtain ⟨x, q1, q2, q3⟩ := one h4
                obtain ⟨y, q4, q5, q6⟩ := one q2
                obtain ⟨z, q7, q8, q9⟩ := one q5
                obtain ⟨px, rfl⟩ := nm q1
                obtain ⟨py, rfl⟩ := nm q4
                obtain ⟨pz, rfl⟩ := nm q7
                rw [q3, q6, q9] at h
                exact ⟨x, px, y, py, z, pz, a, b, c, rfl, rfl, by rw [← h] <;> rfl⟩
end
end Mi

set_option Elab.async false
set_option linter.all false
set_option maxRecDepth 100000
set_option maxHeartbeats 1000000
/-! Mi23: stores in parallel, loops; every statement. -/
namespace Mi
open PySem L2
section
variable {g : Gi} {n : Nat}
theorem namesOk_lt {I : Inf} : ∀ {is : List Nat} {xs : List Str}, namesOk I is xs = true → ∀ i ∈ is, i < I.N.length
  | [], _, _, i, hi => by cases hi
  | _ :: _, [], h, _, _ => by cases h
  | j :: is, x :: xs, h, i, hi => by
    obtain ⟨h1, _, h3⟩ := namesOk_get h
    rcases List.mem_cons.mp hi with rfl | hi
    · exact (List.getElem?_eq_some_iff.mp h1).1
    · exact namesOk_lt h3 i hi
theorem namesOk_len {I : Inf} : ∀ {is : List Nat} {xs : List Str}, namesOk I is xs = true → is.length = xs.length
  | [], [], _ => rfl
  | [], _ :: _, h => by cases h
  | _ :: _, [], h => by cases h
  | j :: is, x :: xs, h => by simp [namesOk_len (namesOk_get h).2.2]
theorem ss_par (is : List Nat) (es : Ex) (hes : All g n es) : SS g n (.par is es) := by
  refine SS.one rfl fun I X Wx G o o2 st h => ?_
  split at h
  · rename_i ts k tp vs k2 p2 p
    obtain ⟨h1, h2⟩ := Bool.and_eq_true_iff.mp h
    cases hs : swN I.sc ts vs with
    | none => simp only [hs] at h2; cases h2
    | some ns =>
      simp only [hs, Bool.and_eq_true, decide_eq_true_eq] at h2
      obtain ⟨h3, h4⟩ := h2
      have hN : X.N.Nodup := by rw [o.hN]; exact o.nd
      have hk : X.env.scope.kind = .function := by rw [o.sc]; exact o2.kd
      have hw := sst_par (k := k) (k2 := k2) (p := tp) (p2 := p2) (env := X.env) hk (by rw [o.sc]; exact hs)
      have rd : ∀ (D : Ends) (σ : L2.St) (H : Hp), rdS g n Wx I.N.length (.par is es) D σ H → rdA g n Wx es σ H fun us H1 => us.length = is.length ∧ D.nx (stAll σ is us) H1 := fun D σ H ⟨b, e, fl, hb, hl, hf, E, h⟩ => by
        have h : outS Wx b I.N.length fl D ((evA (callN g.T n) es e).st fun ws e1 => match e1.holds ws with
          | some (us, e2) => if us.length = is.length then .nx (e2.setWs is us) else .bad
          | none => .bad) := h
        refine ⟨b, e, fl, hb, E, (outS.st h).mono ?_⟩
        rintro us H1 ⟨ws, e1, hl1, ⟨F, O, E1⟩, h1⟩
        cases c : e1.holds ws with
        | none => simp only [c] at h1; exact h1.elim
        | some pr =>
          obtain ⟨ws', e2⟩ := pr
          simp only [c] at h1
          obtain ⟨F2, O2, E2, q1, q2⟩ := holds_ok E1 hl1 c
          by_cases hc : ws'.length = is.length
          · rw [if_pos hc] at h1
            obtain ⟨O3, E3⟩ := setWs_ok E2 hf q2 (by rw [hl1, q1]) hc (fun i hi => by rw [hl]; exact namesOk_lt h3 i hi)
            exact ⟨by rw [hl1, ← q1, hc], h1 _ _ (by rw [stAll_length]; exact hl) ⟨_, _, E3⟩⟩
          · rw [if_neg hc] at h1; exact h1.elim
      have hlen := namesOk_len h3
      rcases swN_shape hs with ⟨x, px, y, py, a, c, rfl, rfl, rfl⟩ | ⟨x, px, y, py, z, pz, a, c, d, rfl, rfl, rfl⟩
      · match is, hlen, h3, h4, rd with
        | [i, j], _, h3, h4, rd =>
          obtain ⟨n1, n2, h3⟩ := namesOk_get h3
          obtain ⟨n3, n4, _⟩ := namesOk_get h3
          have hij : i ≠ j := fun z => by subst z; simp at h4
          refine wkS (ps_par o.calm hN (by rw [o.hN]; exact n1) (by rw [o.hN]; exact n3) hij (by rw [o.sc]; exact n2) (by rw [o.sc]; exact n4) (hes.A I X Wx G o _ h1) hw) fun D σ H q => ?_
          obtain ⟨b, e, fl, hb, E, q⟩ := rd _ _ _ q
          refine ⟨b, e, fl, hb, E, q.mono ?_⟩
          rintro us H1 ⟨hu, q⟩
          match us, hu, q with
          | [v, w], _, q =>
            refine ⟨v, w, rfl, ?_⟩
            rw [List.set_comm _ _ hij]
            exact q
      · match is, hlen, h3, h4, rd with
        | [i, j, l], _, h3, h4, rd =>
          obtain ⟨n1, n2, h3⟩ := namesOk_get h3
          obtain ⟨n3, n4, h3⟩ := namesOk_get h3
          obtain ⟨n5, n6, _⟩ := namesOk_get h3
          refine wkS (ps_par3 o.calm hN (by rw [o.hN]; exact n1) (by rw [o.hN]; exact n3) (by rw [o.hN]; exact n5) (by rw [o.sc]; exact n2) (by rw [o.sc]; exact n4) (by rw [o.sc]; exact n6) (hes.A I X Wx G o _ h1) hw) fun D σ H q => ?_
          obtain ⟨b, e, fl, hb, E, q⟩ := rd _ _ _ q
          refine ⟨b, e, fl, hb, E, q.mono ?_⟩
          rintro us H1 ⟨hu, q⟩
          match us, hu, q with
          | [v, w, u], _, q => exact ⟨v, w, u, rfl, q⟩
  · cases h
theorem ss_whl (c : Ex) (d : Mi.St) (hc : All g n c) (hd : SS g n d) : SS g n (.whl c d) := by
  refine SS.one rfl fun I X Wx G o o2 st h => ?_
  split at h
  · rename_i ec sb p
    obtain ⟨h1, h2⟩ := Bool.and_eq_true_iff.mp h
    refine wkS (ps_while o2.pas (hc.T I X Wx G o ec h1).1 ((hd I X Wx G o o2).2 sb h2)) fun D σ H ⟨b, e, fl, hb, hl, hf, E, h⟩ => ?_
    have h : outS Wx b I.N.length fl D (whlL (evT (callN g.T n) c) (evS (callN g.T n) d) turns e) := h
    refine ⟨fun m σ H => ∃ e, σ.length = I.N.length ∧ ERx b σ H e fl ∧ outS Wx b I.N.length fl D (whlL (evT (callN g.T n) c) (evS (callN g.T n) d) m e), ⟨turns, e, hl, E, h⟩, ?_⟩
    rintro m σ H ⟨e, hl, E, h⟩
    cases m with
    | zero => exact h.elim
    | succ m =>
      have h : outS Wx b I.N.length fl D ((evT (callN g.T n) c e).st fun t e1 => if t then (match evS (callN g.T n) d e1 with
        | .nx e2 => whlL (evT (callN g.T n) c) (evS (callN g.T n) d) m e2
        | .cnt e2 => whlL (evT (callN g.T n) c) (evS (callN g.T n) d) m e2
        | .brk e2 => .nx e2
        | r => r) else .nx e1) := h
      refine ⟨b, e, fl, hb, E, (outS.st h).mono ?_⟩
      rintro t H1 ⟨t', e1, rfl, E1, h1⟩
      have E1 := E1.drop
      cases t with
      | false =>
        rw [if_neg Bool.false_ne_true] at h1 ⊢
        exact h1 _ _ hl E1
      | true =>
        rw [if_pos rfl] at h1 ⊢
        refine ⟨fun σ H => ∃ e, σ.length = I.N.length ∧ ERx b σ H e fl ∧ outS Wx b I.N.length fl D (whlL (evT (callN g.T n) c) (evS (callN g.T n) d) m e), fun σ' H' q => ⟨m, Nat.lt_succ_self m, q⟩, b, e1, fl, hb, hl, hf, E1, ?_⟩
        cases q : evS (callN g.T n) d e1 with
        | nx e2 => rw [q] at h1; exact fun σ' H' g1 g2 => ⟨e2, g1, g2, h1⟩
        | cnt e2 => rw [q] at h1; exact fun σ' H' g1 g2 => ⟨e2, g1, g2, h1⟩
        | brk e2 => rw [q] at h1; exact h1
        | ret x own e2 => rw [q] at h1; exact h1
        | exc x e2 => rw [q] at h1; exact h1
        | bad => rw [q] at h1; exact h1
  · cases h
/-- what stands on its way below is only there to stay -/
theorem outS.mid {Wx : Kx} {b : Bs} {L : Nat} {fl ent : List (V × W)} {D : Ends} {nx ct : L2.St → Hp → Prop} {r : SR} {k : Env → SR}
    (h : outS Wx b L fl D (match r with | .nx e => k e | .cnt e => k e | .brk e => .nx e | r => r))
    (hn : ∀ (σ : L2.St) H e, σ.length = L → ERx b σ H e (fl ++ ent) → outS Wx b L fl D (k e) → nx σ H) (hc : ∀ (σ : L2.St) H e, σ.length = L → ERx b σ H e (fl ++ ent) → outS Wx b L fl D (k e) → ct σ H) : outS Wx b L (fl ++ ent) { D with nx := nx, ct := ct, bk := D.nx } r := by
  cases r with
  | nx e => exact fun σ H g1 g2 => hn σ H e g1 g2 h
  | cnt e => exact fun σ H g1 g2 => hc σ H e g1 g2 h
  | brk e => exact fun σ H g1 g2 => h σ H g1 g2.drop
  | ret x own e => exact h
  | exc x e => exact fun σ H cls d q => h σ H cls d q.drop
  | bad => exact h
theorem ss_fors (tg : Tg) (it : Ex) (d : Mi.St) (hi : All g n it) (hd : SS g n d) : SS g n (.fors tg it d) := by
  refine SS.one rfl fun I X Wx G o o2 st h => ?_
  split at h
  · rename_i et ei sb p
    simp only [Bool.and_eq_true] at h
    obtain ⟨h1, h2, h3⟩ := h
    have hN : X.N.Nodup := by rw [o.hN]; exact o.nd
    refine wkS (ps_for o2.pas o.calm (hi.I I X Wx G o et ei h1) (pg_tg o.calm hN (fun i x q => XS.tg o o2 q) h2) ((hd I X Wx G o o2).2 sb h3) (notSet_ok (chkI_notSet h1) X.env)) fun D σ H ⟨b, e, fl, hb, hl, hf, E, h⟩ => ?_
    have hK : X.K = b.K := by rw [o.hK]; exact hb.1.symm
    refine ⟨b, e, fl, hb, E, ?_⟩
    generalize hff : (fun d' e => match Env.bindT e tg d' with
      | some e' => evS (callN g.T n) d e'
      | none => .bad) = ff
    have h : outS Wx b I.N.length fl D ((evI (callN g.T n) it e).st fun xs e1 => forL ff xs e1) := by rw [← hff]; exact h
    cases q : evI (callN g.T n) it e with
    | bad => rw [q] at h; exact h
    | exc x e1 => rw [q] at h; exact fun H' cls d hE => h σ H' cls d hE
    | ok xs e1 =>
      rw [q] at h
      have h : outS Wx b I.N.length fl D (forL ff xs e1) := h
      intro J H1 ent hJ E1
      refine ⟨fun i m σ H => i ≤ xs.length ∧ m = xs.length - i ∧ ∃ e, σ.length = I.N.length ∧ ERx b σ H e (fl ++ ent) ∧ outS Wx b I.N.length fl D (forL ff (xs.drop i) e), ⟨xs.length, Nat.zero_le _, rfl, e1, hl, E1, by rw [List.drop_zero]; exact h⟩, ?_⟩
      rintro i m σ H2 ⟨hi, rfl, e2, hl, ⟨F, O, E2⟩, h⟩
      by_cases hi2 : i = xs.length
      · subst hi2
        rw [List.drop_length] at h
        exact .inl ⟨hJ.stop _ _ _ _ _ _ E2, h _ _ hl ⟨_, _, E2.drop⟩⟩
      · have hi3 : i < xs.length := by omega
        refine .inr ⟨hJ.go _ _ _ _ _ _ i E2 hi3, fun σ H => ∃ e, σ.length = I.N.length ∧ ERx b σ H e (fl ++ ent) ∧ outS Wx b I.N.length fl D (forL ff (xs.drop (i + 1)) e), fun σ' H' hN => ⟨xs.length - (i + 1), by omega, hi3, rfl, hN⟩, fun x H' y => ?_⟩
        obtain ⟨F', O', E3, r⟩ := hJ.yld _ _ _ _ _ _ i x H' xs[i] E2 (List.getElem?_eq_getElem hi3) y
        rw [List.drop_eq_getElem_cons hi3] at h
        have h : outS Wx b I.N.length fl D (match ff xs[i] e2 with
          | .nx e1 => forL ff (xs.drop (i + 1)) e1
          | .cnt e1 => forL ff (xs.drop (i + 1)) e1
          | .brk e1 => .nx e1
          | r => r) := h
        have hfe : noSl (fl ++ ent) := fun p hp k => by
          rcases List.mem_append.mp hp with z | z
          · exact hf p z k
          · obtain ⟨dd, q⟩ := hJ.nos p z
            rw [q]
            exact fun z => nomatch z
        rw [← hff] at h
        cases hb1 : e2.bindT tg xs[i] with
        | none => simp only [hb1] at h; exact h.elim
        | some e5 =>
          simp only [hb1] at h
          refine tg_rd (e := e2) (e' := e5) hK E3 r (fun k hk => by rw [hl]; exact chkTg_lt h2 k hk) (hfe.noS _) hb1 fun σ2 g1 g2 E4 => ?_
          refine ⟨b, e5, fl ++ ent, hb, by rw [g1, hl], hfe, ⟨_, _, E4⟩, outS.mid (k := fun e1 => forL ff (xs.drop (i + 1)) e1) (by rw [hff] at h; exact h) (fun σ' H' e' q1 q2 q3 => ⟨e', q1, q2, q3⟩) fun σ' H' e' q1 q2 q3 => ⟨e', q1, q2, q3⟩⟩
  · cases h
theorem allS (m : Mi.St) : SS g n m := by
  induction m with
  | skip => exact ss_skip
  | seq a b ha hb => exact ss_seq a b ha hb
  | set i x => exact ss_set i x (all x) fun tg el it c _ => ⟨all el, all it, all c⟩
  | unp is x => exact ss_unp is x (all x)
  | par is es => exact ss_par is es (all es)
  | sub o i x => exact ss_sub o i x (all o) (all i) (all x)
  | drop x => exact ss_drop x (all x)
  | ifs c a b ha hb => exact ss_ifs c a b (all c) ha hb
  | whl c b hb => exact ss_whl c b (all c) hb
  | fors tg it b hb => exact ss_fors tg it b (all it) hb
  | ret x => exact ss_ret x (all x)
  | retN => exact ss_retN
  | brk => exact ss_brk
  | cnt => exact ss_cnt
end
end Mi

set_option Elab.async false
set_option linter.all false
set_option maxRecDepth 100000
set_option maxHeartbeats 1000000
/-! Mi24: a def keeps the promise that the small language tells. -/
namespace Mi
open PySem L2
theorem cx_none {P : Program} {w : World} {st : List PySem.Env} {H : Hp} {s : Shared} {e : Value} {s' : Shared} (h : L2.CX P w st H s (fun _ _ _ => False) e s') : False := by
  obtain ⟨_, _, _, _, _, _, _, _, _, _, _, _, h⟩ := h
  exact h
section
variable {g : Gi} {n : Nat}
theorem body_out {b : Bs} {L : Nat} {Q : VK} {E : XK} {fn : Fn} {as : List (D × Bool)} {cal : Cal} (h : outC b Q E (runF cal fn as)) :
    outS (fun _ cls d H => E cls d H) b L [] { nx := fun _ H' => Q .non H', rt := Q } (evS cal fn.body (env0 fn.n as)) := by
  unfold runF at h
  cases q : evS cal fn.body (env0 fn.n as) with
  | nx e => rw [q] at h; exact fun σ H' _ ⟨F, O, E1⟩ => h F H' .non E1.post rfl
  | ret d own e => rw [q] at h; exact h
  | exc x e => rw [q] at h; exact fun σ H' cls d ⟨F, O, E1, r⟩ => h F H' cls d E1.post r
  | brk e => rw [q] at h; exact h.elim
  | cnt e => rw [q] at h; exact h.elim
  | bad => rw [q] at h; exact h.elim
theorem fn_ok (hCX : g.CX = L2.CX g.P g.w) {j : Nat} {fn : Fn} (hT : g.T j = some fn) {I : Inf} {ps : List Str} {x qual : Str} {params : Arguments} {body : List Stmt} {dvs : List V} {kws : List (Str × V)} {f : Addr} {fd : FuncData}
    (S : FnScope I.N ps I.sc) (F : FunD g.K x qual params body I.sc dvs kws f fd) (hn : fn.n = I.N.length) (hnp : fn.np = ps.length) (hk : chkB I fn.body body = true) (G : GOk g I.nm I.fr n) :
    FnOk g.P g.w g.K g.mg g.base g.CX (n + 1) f fd ps (spM g (n + 1) j) := by
  have hpl : ps.length ≤ I.N.length := by have := congrArg List.length S.pre; rw [List.length_take] at this; omega
  refine F.ok S (fun vs H Q E ⟨F0, as, A, p, hl, _⟩ => by rw [← p.len, hl fn hT, hnp]) fun cdv A outer s H vs Q E hr ⟨F0, as, Ad, p, hl, h⟩ => ?_
  let X := cxOf g.CX g.P g.w g.K g.mg g.base I.N qual I.sc f cdv A outer s H E
  have tk : Takes X (fun cls d _ H' => E cls d H') := takes_of rfl rfl rfl (E₁ := fun e' s'' => g.CX outer H s E e' s'') (by
    show X.xe = _
    funext e s'
    show wpAny _ _ _ _ _ _ = wpAny _ _ _ _ _ _
    rw [hCX]
    rfl)
  have o : XO g I n (fun _ cls d H' => E cls d H') X := ⟨rfl, rfl, rfl, rfl, rfl, rfl, S.nd, rfl, rfl, hr, fun σ => by
    rw [hCX]
    exact passAt tk σ⟩
  have o2 : XS g I X := ⟨S.kind, passes_of (X := X) (K := fun e s'' => g.CX outer H s E e s'') (E₁ := fun e' s'' => g.CX outer H s E e' s'') rfl, fun _ _ => rfl⟩
  refine ⟨rdS g n (fun _ cls d H' => E cls d H') I.N.length fn.body, (allS fn.body I X _ G o o2).2 body hk, ?_⟩
  have hvl : vs.length ≤ I.N.length := by rw [← p.len, hl fn hT, hnp]; exact hpl
  refine ⟨g.b Ad F0 H, env0 fn.n as, [], ⟨rfl, rfl, rfl⟩, ?_, fun p hp => (by cases hp), ⟨_, _, by rw [hn]; exact entry p hvl⟩, body_out ?_⟩
  · show (L2.start I.N vs).length = _
    unfold L2.start
    rw [List.length_append, List.length_map, List.length_replicate]
    omega
  · have h : outC (g.b Ad F0 H) Q E (match g.T j with
      | some d => runF (callN g.T n) d as
      | none => .bad) := h
    rw [hT] at h
    exact h
theorem fn_zero {j : Nat} {f : Addr} {fd : FuncData} {ps : List Str} : FnOk g.P g.w g.K g.mg g.base g.CX 0 f fd ps (spM g 0 j) :=
  ⟨fun vs H Q E ⟨_, _, _, _, _, h⟩ => h.elim, fun A outer s H args us vs Q E _ _ _ _ ⟨_, _, _, _, _, h⟩ => h.elim⟩
end
end Mi

set_option Elab.async false
set_option linter.all false
set_option maxRecDepth 100000
namespace Mi
open PySem L2
theorem zip_lookup : ∀ {ps : List Str} {us : List Value} {x : Str}, us.length = ps.length → x ∈ ps → ((ps.zip us).lookup x).isSome = true
  | [], us, x, _, h => by cases h
  | p :: ps, [], x, hl, h => by cases hl
  | p :: ps, u :: us, x, hl, h => by
    show (List.lookup x ((p, u) :: ps.zip us)).isSome = true
    cases q : x == p with
    | true => simp only [List.lookup_cons, q]; rfl
    | false =>
      simp only [List.lookup_cons, q]
      refine zip_lookup (by simpa using hl) ?_
      rcases List.mem_cons.mp h with rfl | h
      · simp at q
      · exact h
theorem zip_fm : ∀ {ps : List Str} {us : List Value}, us.length = ps.length → ps.Nodup → (ps.filterMap fun n => ((ps.zip us).lookup n).map (n, ·)) = ps.zip us := by
  intro ps us hl hn
  have key : ∀ (qs : List Str) (vs : List Value), vs.length = qs.length → qs.Nodup → ∀ (l : List (Str × Value)), (∀ x ∈ qs, l.lookup x = (qs.zip vs).lookup x) → (qs.filterMap fun n => (l.lookup n).map (n, ·)) = qs.zip vs := by
    intro qs
    induction qs with
    | nil => intros; rfl
    | cons q qs ih =>
      intro vs hl hn l h
      cases vs with
      | nil => cases hl
      | cons v vs =>
        obtain ⟨n1, n2⟩ := List.nodup_cons.mp hn
        have h1 : l.lookup q = some v := by
          rw [h q List.mem_cons_self]
          show List.lookup q ((q, v) :: qs.zip vs) = some v
          simp [List.lookup_cons]
        rw [List.filterMap_cons_some (b := (q, v)) (by rw [h1]; rfl)]
        refine congrArg _ (ih vs (by simpa using hl) n2 l fun x hx => ?_)
        rw [h x (List.mem_cons_of_mem _ hx)]
        show List.lookup x ((q, v) :: qs.zip vs) = _
        have : (x == q) = false := by
          rw [beq_eq_false_iff_ne]
          intro z
          subst z
          exact n1 hx
        simp [List.lookup_cons, this]
  exact key ps us hl hn _ fun _ _ => rfl
theorem bind_simple {x qual : Str} {params : Arguments} {body : List Stmt} {scope : Scope} {kV doc pm cdv ct : Value} {an : Option Addr} {ps : List Str} {us : List Value} (h1 : params.posonlyargs = []) (h2 : params.kwonlyargs = []) (h3 : params.vararg = none) (h4 : params.kwarg = none)
    (h5 : params.args.map (·.arg) = ps) (hn : ps.Nodup) (hl : us.length = ps.length) : bindArgs (PySem.W.fnOf x qual params body scope .none kV doc pm an cdv ct) ⟨us, []⟩ = pure (ps.zip us) := by
  unfold bindArgs
  have e1 : (PySem.W.fnOf x qual params body scope .none kV doc pm an cdv ct).params = params := rfl
  have e2 : (PySem.W.fnOf x qual params body scope .none kV doc pm an cdv ct).defaults = .none := rfl
  have e3 : seqItems? .none = pure none := rfl
  simp only [e1, e2, e3, h1, h2, h3, h4, h5, List.map_nil, List.nil_append, List.append_nil, List.forIn_nil, pure_bind]
  have g1 : ¬ (us.length > ps.length) := by omega
  have g2 : (ps.filter fun n => ((ps.zip us).lookup n).isNone) = [] := by
    rw [List.filter_eq_nil_iff]
    intro a ha
    have := zip_lookup hl ha
    cases q : (ps.zip us).lookup a with
    | none => rw [q] at this; cases this
    | some v => simp
  simp [g1, g2, zip_fm hl hn]
theorem lookup_app_none {α : Type} : ∀ {l m : List (Str × α)} {x : Str}, l.lookup x = none → (l ++ m).lookup x = m.lookup x
  | [], _, _, _ => rfl
  | (y, v) :: l, m, x, h => by
    cases q : x == y with
    | true => simp [List.lookup_cons, q] at h
    | false =>
      simp only [List.cons_append, List.lookup_cons, q] at h ⊢
      exact lookup_app_none h
theorem lookup_app_some {α : Type} {v : α} : ∀ {l m : List (Str × α)} {x : Str}, l.lookup x = some v → (l ++ m).lookup x = some v
  | [], _, _, h => by simp at h
  | (y, w) :: l, m, x, h => by
    cases q : x == y with
    | true => simp only [List.cons_append, List.lookup_cons, q] at h ⊢; exact h
    | false =>
      simp only [List.cons_append, List.lookup_cons, q] at h ⊢
      exact lookup_app_some h
theorem zip_lookup_none {α : Type} : ∀ {ps : List Str} {us : List α} {x : Str}, x ∉ ps → (ps.zip us).lookup x = none
  | [], us, x, h => by simp
  | p :: ps, [], x, h => by simp
  | p :: ps, u :: us, x, h => by
    have h1 : (x == p) = false := by
      rw [beq_eq_false_iff_ne]
      exact fun z => h (by rw [z]; exact List.mem_cons_self)
    simp only [List.zip_cons_cons, List.lookup_cons, h1]
    exact zip_lookup_none fun z => h (List.mem_cons_of_mem _ z)
/-- the loop over the keywords: each is new and is one of the names -/
theorem kw_loop {nm : List Str} (f : Str × Value → List (Str × Value) × List (Str × Value) → Sem (ForInStep (List (Str × Value) × List (Str × Value))))
    (hf : ∀ k v a l, nm.contains k = true → (l.lookup k).isSome = false → f (k, v) (l, a) = pure (.yield (l ++ [(k, v)], a))) :
    ∀ (kws : List (Str × Value)) (l : List (Str × Value)) (a : List (Str × Value)), (∀ q ∈ kws, q.1 ∈ nm) → (kws.map (·.1)).Nodup → (∀ q ∈ kws, (l.lookup q.1).isSome = false) → forIn kws (l, a) f = pure (l ++ kws, a)
  | [], l, a, _, _, _ => by simp
  | (k, v) :: r, l, a, h1, h2, h3 => by
    rw [List.forIn_cons, hf k v a l (by simpa using h1 _ List.mem_cons_self) (h3 _ List.mem_cons_self)]
    have h2' : k ∉ r.map (·.1) ∧ (r.map (·.1)).Nodup := List.nodup_cons.mp h2
    rw [pure_bind]
    show forIn r (l ++ [(k, v)], a) f = _
    rw [kw_loop f hf r (l ++ [(k, v)]) a (fun q hq => h1 q (List.mem_cons_of_mem _ hq)) h2'.2 fun q hq => ?_]
    · simp
    · have n1 : l.lookup q.1 = none := by
        have := h3 q (List.mem_cons_of_mem _ hq)
        cases c : l.lookup q.1 with
        | none => rfl
        | some x => rw [c] at this; cases this
      rw [lookup_app_none n1]
      have : (q.1 == k) = false := by
        rw [beq_eq_false_iff_ne]
        intro z
        exact h2'.1 (by rw [← z]; exact List.mem_map_of_mem hq)
      simp [List.lookup_cons, this]
theorem bind_kw {x qual : Str} {params : Arguments} {body : List Stmt} {scope : Scope} {kV doc pm cdv ct : Value} {an : Option Addr} {ps : List Str} {us : List Value} {kws : List (Str × Value)} (h1 : params.posonlyargs = []) (h2 : params.kwonlyargs = []) (h3 : params.vararg = none) (h4 : params.kwarg = none)
    (h5 : params.args.map (·.arg) = ps) (hn : ps.Nodup) (hl : us.length ≤ ps.length) (hk : ∀ q ∈ kws, q.1 ∈ ps) (hkn : (kws.map (·.1)).Nodup) (hd : ∀ q ∈ kws, ((ps.zip us).lookup q.1).isSome = false)
    (hall : ∀ p ∈ ps, ((ps.zip us ++ kws).lookup p).isSome = true) :
    bindArgs (PySem.W.fnOf x qual params body scope .none kV doc pm an cdv ct) ⟨us, kws⟩ = pure (ps.filterMap fun n => ((ps.zip us ++ kws).lookup n).map (n, ·)) := by
  unfold bindArgs
  have e1 : (PySem.W.fnOf x qual params body scope .none kV doc pm an cdv ct).params = params := rfl
  have e2 : (PySem.W.fnOf x qual params body scope .none kV doc pm an cdv ct).defaults = .none := rfl
  have e3 : seqItems? .none = pure none := rfl
  simp only [e1, e2, e3, h1, h2, h3, h4, h5, List.map_nil, List.nil_append, List.append_nil, List.forIn_nil, pure_bind]
  rw [kw_loop (nm := ps) _ ?hf kws (ps.zip us) [] hk hkn hd]
  case hf =>
    intro k v a l q1 q2
    have q3 : k ∈ ps := by simpa using q1
    simp [q1, q2, q3]
  have g1 : ¬ (us.length > ps.length) := by omega
  have g2 : (ps.filter fun n => ((ps.zip us ++ kws).lookup n).isNone) = [] := by
    rw [List.filter_eq_nil_iff]
    intro a ha
    have := hall a ha
    cases q : (ps.zip us ++ kws).lookup a with
    | none => rw [q] at this; cases this
    | some v => simp
  simp [g1, g2]
theorem picks_bound {α : Type} {l : List α} : ∀ {is : List Nat} {a : List α}, picks l is = some a → ∀ i ∈ is, i < l.length
  | [], a, _, i, hi => by cases hi
  | k :: is, a, h, i, hi => by
    obtain ⟨x, r, h1, h2, rfl⟩ := picks_cons h
    rcases List.mem_cons.mp hi with rfl | hi
    · exact (List.getElem?_eq_some_iff.mp h1).1
    · exact picks_bound h2 i hi
theorem picks_vals {vs : List V} {us : List Value} (r : Vals vs us) : ∀ {is : List Nat} {a : List V} {b : List Value}, picks vs is = some a → picks us is = some b → Vals a b
  | [], a, b, h, h' => by cases h; cases h'; exact .nil
  | i :: is, a, b, h, h' => by
    obtain ⟨x, p, h1, h2, rfl⟩ := picks_cons h
    obtain ⟨u, q, h3, h4, rfl⟩ := picks_cons h'
    obtain ⟨u', hu, ru⟩ := r.get h1
    rw [h3] at hu
    cases hu
    exact .cons ru (picks_vals r h2 h4)
structure PermOk (ps : List Str) (m : Nat) (ks : List Str) (perm : List Nat) : Prop where
  ne : ks ≠ []
  le : m ≤ ps.length
  nd : ks.Nodup
  sub : ∀ k ∈ ks, k ∈ ps.drop m
  all : ∀ p ∈ ps.drop m, p ∈ ks
  len : ks.length = ps.length - m
  eq : perm = (List.range m) ++ (ps.drop m).map fun p => m + ks.idxOf p
theorem permB_ok {ps : List Str} {m : Nat} {ks : List Str} {perm : List Nat} (h : permB ps m ks perm = true) : PermOk ps m ks perm := by
  unfold permB at h
  simp only [Bool.and_eq_true, decide_eq_true_eq, Bool.not_eq_true', List.all_eq_true, List.contains_iff_mem] at h
  obtain ⟨h0, h1, h2, ⟨h3, h4⟩, h5, h6⟩ := h
  exact ⟨(fun z => by rw [z] at h0; cases h0), h1, h2, h3, h4, h5, h6⟩
theorem permB_lt {ps : List Str} {m : Nat} {ks : List Str} {perm : List Nat} (P : PermOk ps m ks perm) : perm.length = ps.length ∧ ∀ i ∈ perm, i < m + ks.length := by
  rw [P.eq]
  refine ⟨by have := P.le; simp; omega, fun i hi => ?_⟩
  rcases List.mem_append.mp hi with z | z
  · have := List.mem_range.mp z; omega
  · obtain ⟨p, hp, rfl⟩ := List.mem_map.mp z
    have := List.idxOf_lt_length_of_mem (P.all p hp)
    omega
theorem zip_get_lookup {α : Type} : ∀ {ks : List Str} {ws : List α} {p : Str}, ks.Nodup → ws.length = ks.length → p ∈ ks → (ks.zip ws).lookup p = ws[ks.idxOf p]?
  | [], ws, p, _, _, h => by cases h
  | k :: ks, [], p, _, hl, _ => by cases hl
  | k :: ks, w :: ws, p, hn, hl, h => by
    obtain ⟨n1, n2⟩ := List.nodup_cons.mp hn
    by_cases e : p = k
    · subst e
      simp [List.lookup_cons, List.idxOf_cons]
    · have e1 : (p == k) = false := beq_eq_false_iff_ne.mpr e
      have e2 : (k == p) = false := beq_eq_false_iff_ne.mpr fun z => e z.symm
      have hm : p ∈ ks := by
        rcases List.mem_cons.mp h with z | z
        · exact absurd z e
        · exact z
      simp only [List.zip_cons_cons, List.lookup_cons, e1, List.idxOf_cons, e2, cond_false, List.getElem?_cons_succ]
      exact zip_get_lookup n2 (by simpa using hl) hm
theorem zip_takeL {α : Type} : ∀ (ps : List Str) (us : List α), ps.zip us = (ps.take us.length).zip us
  | [], us => by simp
  | p :: ps, [] => by simp
  | p :: ps, u :: us => by
    show (p, u) :: ps.zip us = (p, u) :: (ps.take us.length).zip us
    rw [zip_takeL ps us]
theorem fm_zip {α : Type} {l : List (Str × α)} : ∀ {ps : List Str} {r : List α}, r.length = ps.length → (∀ (i : Nat) (p : Str), ps[i]? = some p → l.lookup p = r[i]?) → (ps.filterMap fun n => (l.lookup n).map (n, ·)) = ps.zip r
  | [], r, _, _ => by simp
  | p :: ps, [], hl, _ => by cases hl
  | p :: ps, x :: r, hl, h => by
    have h1 : l.lookup p = some x := h 0 p rfl
    rw [List.filterMap_cons_some (b := (p, x)) (by rw [h1]; rfl), fm_zip (by simpa using hl) fun i q hq => h (i + 1) q (by simpa using hq)]
    rfl
theorem perm_lookup {α : Type} {ps : List Str} {m : Nat} {ks : List Str} {perm : List Nat} (P : PermOk ps m ks perm) (hn : ps.Nodup) {us ws : List α} (hu : us.length = m) (hw : ws.length = ks.length) :
    ∃ r, picks (us ++ ws) perm = some r ∧ r.length = ps.length ∧ ∀ (i : Nat) (p : Str), ps[i]? = some p → (ps.zip us ++ ks.zip ws).lookup p = r[i]? := by
  obtain ⟨hl, hlt⟩ := permB_lt P
  obtain ⟨r, hr⟩ := picks_lt (l := us ++ ws) (is := perm) fun i hi => by rw [List.length_append]; have := hlt i hi; omega
  refine ⟨r, hr, (picks_len hr).trans hl, fun i p hp => ?_⟩
  have get : ∀ {l : List α} {is : List Nat} {a : List α} {i j : Nat}, picks l is = some a → is[i]? = some j → a[i]? = l[j]? := fun {l is} => by
    induction is with
    | nil => intro a i j _ h; simp at h
    | cons k is ih =>
      intro a i j h hj
      obtain ⟨x, q, h1, h2, rfl⟩ := picks_cons h
      cases i with
      | zero => simp at hj; subst hj; simpa using h1.symm
      | succ i => simpa using ih h2 (by simpa using hj)
  have hi : i < ps.length := (List.getElem?_eq_some_iff.mp hp).1
  by_cases hm : i < m
  · have hj : perm[i]? = some i := by
      rw [P.eq, List.getElem?_append_left (by simpa using hm)]
      simp [hm]
    rw [get hr hj, List.getElem?_append_left (by omega)]
    have hz : (ps.zip us).lookup p = us[i]? := by
      have key : ∀ {ps : List Str} {us : List α} {i : Nat} {p : Str}, ps.Nodup → ps[i]? = some p → i < us.length → (ps.zip us).lookup p = us[i]? := fun {ps} => by
        induction ps with
        | nil => intro us i p _ h; simp at h
        | cons q ps ih =>
          intro us i p hn hp hi
          obtain ⟨n1, n2⟩ := List.nodup_cons.mp hn
          cases us with
          | nil => simp at hi
          | cons u us =>
            cases i with
            | zero => simp at hp; subst hp; simp [List.lookup_cons]
            | succ i =>
              have hp' : ps[i]? = some p := by simpa using hp
              have : (p == q) = false := by
                rw [beq_eq_false_iff_ne]
                intro z
                subst z
                exact n1 (List.mem_of_getElem? hp')
              simp only [List.zip_cons_cons, List.lookup_cons, this, List.getElem?_cons_succ]
              exact ih n2 hp' (by simpa using hi)
      exact key hn hp (by omega)
    cases c : us[i]? with
    | none => rw [List.getElem?_eq_none_iff] at c; omega
    | some u => rw [lookup_app_some (hz.trans c)]
  · have hdm : p ∈ ps.drop m := by
      have : (ps.drop m)[i - m]? = some p := by rw [List.getElem?_drop]; rw [show m + (i - m) = i by omega]; exact hp
      exact List.mem_of_getElem? this
    have hpk := P.all p hdm
    have hj : perm[i]? = some (m + ks.idxOf p) := by
      rw [P.eq, List.getElem?_append_right (by simp; omega), List.length_range, List.getElem?_map, List.getElem?_drop, show m + (i - m) = i by omega, hp]
      rfl
    rw [get hr hj, List.getElem?_append_right (by omega), hu, Nat.add_sub_cancel_left, ← zip_get_lookup P.nd hw hpk]
    refine lookup_app_none ?_
    have hnt : p ∉ ps.take m := fun z => by
      have nd : (ps.take m ++ ps.drop m).Nodup := by rw [List.take_append_drop]; exact hn
      exact (List.nodup_append.mp nd).2.2 p z p hdm rfl
    have : ps.zip us = (ps.take m).zip us := by rw [← hu]; exact zip_takeL ps us
    rw [this]
    exact zip_lookup_none hnt
end Mi

set_option Elab.async false
set_option linter.all false
set_option maxRecDepth 100000
set_option maxHeartbeats 1000000
/-! Mi26: a program's defs as a table; every def keeps its promise, at every depth. -/
namespace Mi
open PySem L2
/-- one def: as the head tells it, its names by slot, its parameters, its form in the small language -/
structure Df where
  d : He.DefD
  N : List Str
  ps : List Str
  fn : Fn
def scB (N ps : List Str) (sc : Scope) : Bool := decide (sc.kind = .function) && (!sc.isCoroutine && (!sc.isGenerator && (decide N.Nodup && (decide (N.take ps.length = ps) && (ps.all (fun x => locB sc x) && sc.names.all fun y => decide (y.2 ≠ .free))))))
theorem scB_ok {N ps : List Str} {sc : Scope} (h : scB N ps sc = true) : FnScope N ps sc := by
  unfold scB at h
  simp only [Bool.and_eq_true, decide_eq_true_eq, Bool.not_eq_true', List.all_eq_true] at h
  obtain ⟨h1, h2, h3, h4, h5, h6, h7⟩ := h
  refine ⟨h1, h2, h3, h4, h5, fun x hx => ?_, h7⟩
  have := h6 x hx
  unfold locB at this
  split at this
  · exact .inl (by assumption)
  · exact .inr (by assumption)
  · cases this
def simB (a : Arguments) (ps : List Str) : Bool := a.posonlyargs.isEmpty && (a.kwonlyargs.isEmpty && (a.vararg.isNone && (a.kwarg.isNone && decide (a.args.map (·.arg) = ps))))
def Df.okB (nm : List (Str × GK)) (fr : List Str) (t : Df) : Bool :=
  scB t.N t.ps t.d.scope && (simB t.d.params t.ps && (t.d.dfl.isEmpty && (t.d.kwd.isEmpty && (decide (t.fn.n = t.N.length) && (decide (t.fn.np = t.ps.length) && (t.fn.dfl.isEmpty && chkB ⟨t.N, t.d.scope, nm, fr⟩ t.fn.body t.d.body))))))
structure Df.Ok (nm : List (Str × GK)) (fr : List Str) (t : Df) : Prop where
  sc : FnScope t.N t.ps t.d.scope
  sim : simB t.d.params t.ps = true
  dfl : t.d.dfl = []
  kwd : t.d.kwd = []
  n : t.fn.n = t.N.length
  np : t.fn.np = t.ps.length
  dfl2 : t.fn.dfl = []
  chk : chkB ⟨t.N, t.d.scope, nm, fr⟩ t.fn.body t.d.body = true
theorem Df.okB_ok {nm : List (Str × GK)} {fr : List Str} {t : Df} (h : t.okB nm fr = true) : t.Ok nm fr := by
  unfold Df.okB at h
  simp only [Bool.and_eq_true, decide_eq_true_eq, List.isEmpty_iff] at h
  obtain ⟨h1, h2, h3, h4, h5, h6, h7, h8⟩ := h
  exact ⟨scB_ok h1, h2, h3, h4, h5, h6, h7, h8⟩
theorem sim_bind {a : Arguments} {ps : List Str} (h : simB a ps = true) (hn : ps.Nodup) {x qual : Str} {body : List Stmt} {scope : Scope} {kV doc pm cdv ct : Value} {an : Option Addr} {us : List Value} (hl : us.length = ps.length) :
    bindArgs (PySem.W.fnOf x qual a body scope .none kV doc pm an cdv ct) ⟨us, []⟩ = pure (ps.zip us) := by
  unfold simB at h
  simp only [Bool.and_eq_true, decide_eq_true_eq, List.isEmpty_iff, Option.isNone_iff_eq_none] at h
  obtain ⟨h1, h2, h3, h4, h5⟩ := h
  exact bind_simple h1 h2 h3 h4 h5 hn hl
theorem kb_of {K : PySem.W.Frag} {a : Arguments} {ps : List Str} (h : simB a ps = true) (hn : ps.Nodup) {x qual : Str} {body : List Stmt} {scope : Scope} {f : Addr} {fd : FuncData} {m : Nat} {ks : List Str} {perm : List Nat} (P : PermOk ps m ks perm) (F : FunD K x qual a body scope [] [] f fd) :
    KBn K fd ps m ks (fun us ws => (picks (us ++ ws) perm).getD []) (fun vs zs => (picks (vs ++ zs) perm).getD []) := by
  obtain ⟨oc, od, dV, kV, doc, pm, an, cdv, ct, osl, rfl, lk, hcd, hD, hK⟩ := F.ex
  unfold simB at h
  simp only [Bool.and_eq_true, decide_eq_true_eq, List.isEmpty_iff, Option.isNone_iff_eq_none] at h
  obtain ⟨h1, h2, h3, h4, h5⟩ := h
  refine ⟨fun s us ws X l1 l2 => ?_, fun {vs us zs ws} r1 r2 => ?_⟩
  · rcases hD with ⟨_, rfl⟩ | ⟨e, _⟩
    · obtain ⟨r, hr, hrl, hlk⟩ := perm_lookup P hn l1 l2
      have hml : us.length ≤ ps.length := by rw [l1]; exact P.le
      have names : ∀ q ∈ ks.zip ws, q.1 ∈ ks := fun q hq => (List.of_mem_zip (show (q.1, q.2) ∈ ks.zip ws from hq)).1
      have := bind_kw (x := x) (qual := qual) (body := body) (scope := scope) (kV := kV) (doc := doc) (pm := pm) (cdv := cdv) (ct := ct) (an := an) (us := us) (kws := ks.zip ws) h1 h2 h3 h4 h5 hn hml (fun q hq => List.mem_of_mem_drop (P.sub _ (names q hq))) (by
          have e : (ks.zip ws).map (·.1) = ks := by
            rw [List.map_fst_zip (by omega)]
          rw [e]
          exact P.nd) (fun q hq => by
          have hd := P.sub _ (names q hq)
          have hnt : q.1 ∉ ps.take m := fun z => by
            have nd : (ps.take m ++ ps.drop m).Nodup := by rw [List.take_append_drop]; exact hn
            exact (List.nodup_append.mp nd).2.2 q.1 z q.1 hd rfl
          have e : ps.zip us = (ps.take m).zip us := by rw [← l1]; exact zip_takeL ps us
          rw [e, zip_lookup_none hnt] <;> rfl) (fun p hp => by
          obtain ⟨i, hi⟩ := List.getElem?_of_mem hp
          rw [hlk i p hi]
          have : i < r.length := by rw [hrl]; exact (List.getElem?_eq_some_iff.mp hi).1
          rw [List.getElem?_eq_getElem this] <;> rfl)
      refine BindsTo.of_eq (this.trans ?_)
      rw [fm_zip hrl hlk, hr] <;> rfl
    · exact absurd rfl e
  · have r3 : Vals (vs ++ zs) (us ++ ws) := r1.append r2
    show Vals ((picks (vs ++ zs) perm).getD []) ((picks (us ++ ws) perm).getD [])
    cases c : picks (vs ++ zs) perm with
    | none =>
      cases c2 : picks (us ++ ws) perm with
      | none => exact .nil
      | some b =>
        exfalso
        have hlen : ∀ i ∈ perm, i < (vs ++ zs).length := fun i hi => by
          rw [r3.length]
          exact picks_bound c2 i hi
        obtain ⟨a, ha⟩ := picks_lt hlen
        rw [c] at ha
        cases ha
    | some a =>
      cases c2 : picks (us ++ ws) perm with
      | none =>
        exfalso
        have hlen : ∀ i ∈ perm, i < (us ++ ws).length := fun i hi => by
          rw [← r3.length]
          exact picks_bound c i hi
        obtain ⟨b, hb⟩ := picks_lt hlen
        rw [c2] at hb
        cases hb
      | some b => exact picks_vals r3 c c2
def nmB (dfs : List Df) (nm : List (Str × GK)) : Bool := nm.all fun p => match p.2 with
  | .fn j lo hi ps => (match dfs[j]? with
    | some t => decide (t.d.at_ = (p.1, none)) && (decide (lo = t.fn.np) && (decide (hi = t.fn.np) && decide (ps = t.ps)))
    | none => false)
  | .cst _ => true
  | .exc => true
theorem lookN_mem : ∀ {nm : List (Str × GK)} {x : Str} {k : GK}, lookN nm x = some k → (x, k) ∈ nm
  | [], _, _, h => by cases h
  | (y, k') :: r, x, k, h => by
    unfold lookN at h
    split at h
    · rename_i e
      cases h
      subst e
      exact List.mem_cons_self
    · exact List.mem_cons_of_mem _ (lookN_mem h)
structure Facts (g : Gi) (dfs : List Df) (nm : List (Str × GK)) (fr : List Str) : Prop where
  T : g.T = fun j => (dfs[j]?).map (·.fn)
  cx : g.CX = L2.CX g.P g.w
  fr : ∀ x, fr.contains x = true → g.mg x = none
  cst : ∀ x d, lookN nm x = some (.cst d) → ∃ u v, g.mg x = some u ∧ RelV v u ∧ ∀ F, Rep g.K F d v
  exc : ∀ x, lookN nm x = some .exc → g.mg x = some (.ref (He.ga g.K x)) ∧ PySem.W.keepIn g.K (.ref (He.ga g.K x)) = true ∧ PySem.W.excIn g.K (He.ga g.K x) He.veBase "ValueError.__new__" = true ∧ excB g.K x = true
  glo : ∀ (j : Nat) (t : Df), dfs[j]? = some t → t.d.at_.2 = none → g.mg t.d.at_.1 = some (.ref (He.fAd g.K t.d.at_))
  fd : ∀ (j : Nat) (t : Df), dfs[j]? = some t → ∃ fd, FunD g.K t.d.name t.d.qual t.d.params t.d.body t.d.scope (t.d.dvs g.K) (t.d.kws g.K) (He.fAd g.K t.d.at_) fd
section
variable {g : Gi} {dfs : List Df} {nm : List (Str × GK)} {fr : List Str}
theorem pads_nil {f : Fn} (h : f.dfl = []) (m : Nat) : f.pads m = [] := by
  unfold Fn.pads
  rw [h, List.drop_nil]
theorem gok_of (K : Facts g dfs nm fr) (ok : dfs.all (Df.okB nm fr) = true) (hn : nmB dfs nm = true) {n : Nat}
    (hf : ∀ (j : Nat) (t : Df) (fd : FuncData), dfs[j]? = some t → FunD g.K t.d.name t.d.qual t.d.params t.d.body t.d.scope (t.d.dvs g.K) (t.d.kws g.K) (He.fAd g.K t.d.at_) fd → FnOk g.P g.w g.K g.mg g.base g.CX n (He.fAd g.K t.d.at_) fd t.ps (spM g n j)) : GOk g nm fr n where
  fr := K.fr
  cst := K.cst
  exc := K.exc
  fn := fun x j lo hi ps h => by
    have h1 := List.all_eq_true.mp hn _ (lookN_mem h)
    dsimp only at h1
    cases ht : dfs[j]? with
    | none => rw [ht] at h1; cases h1
    | some t =>
      rw [ht] at h1
      simp only [Bool.and_eq_true, decide_eq_true_eq] at h1
      obtain ⟨h2, rfl, rfl, rfl⟩ := h1
      have tk := Df.okB_ok (List.all_eq_true.mp ok t (List.mem_of_getElem? ht))
      obtain ⟨fd, F⟩ := K.fd j t ht
      have hT : g.T j = some t.fn := by rw [K.T]; show (dfs[j]?).map (·.fn) = _; rw [ht]; rfl
      have hps : t.ps.Nodup := by rw [← tk.sc.pre]; exact tk.sc.nd.sublist (List.take_sublist _ _)
      have e1 : t.d.dvs g.K = [] := by unfold He.DefD.dvs; rw [tk.dfl]; rfl
      have e2 : t.d.kws g.K = [] := by unfold He.DefD.kws; rw [tk.kwd]; rfl
      refine ⟨He.fAd g.K t.d.at_, fd, t.fn, ?_, F.kp, hT, hf j t fd ht F, fun m h1 h2 => ?_, fun m ks perm hp => ?_⟩
      · have := K.glo j t ht (by rw [h2])
        rw [h2] at this
        rw [h2]
        exact this
      · have hm : m = t.fn.np := Nat.le_antisymm h2 h1
        subst hm
        rw [pads_nil tk.dfl2]
        refine ⟨rfl, [], [], ?_, .nil, fun _ => rfl⟩
        rw [e1, e2] at F
        exact F.bindsN fun kV doc pm an cdv ct us hl => sim_bind tk.sim hps hl
      · have P := permB_ok hp
        rw [e1, e2] at F
        exact ⟨(permB_lt P).1.trans tk.np.symm, fun us ws => (picks (us ++ ws) perm).getD [], fun vs zs => (picks (vs ++ zs) perm).getD [], kb_of tk.sim hps P F, fun vs zs l1 l2 => by
          obtain ⟨r, hr, _⟩ := perm_lookup P hps l1 l2
          show picks (vs ++ zs) perm = some ((picks (vs ++ zs) perm).getD [])
          rw [hr]
          rfl⟩
  cx0 := fun st H s e s' h => by
    rw [K.cx] at h
    exact cx_none h
theorem fns_ok (K : Facts g dfs nm fr) (ok : dfs.all (Df.okB nm fr) = true) (hn : nmB dfs nm = true) : ∀ (n : Nat) (j : Nat) (t : Df) (fd : FuncData), dfs[j]? = some t → FunD g.K t.d.name t.d.qual t.d.params t.d.body t.d.scope (t.d.dvs g.K) (t.d.kws g.K) (He.fAd g.K t.d.at_) fd →
    FnOk g.P g.w g.K g.mg g.base g.CX n (He.fAd g.K t.d.at_) fd t.ps (spM g n j)
  | 0, j, t, fd, _, _ => fn_zero
  | n + 1, j, t, fd, ht, F => by
    have G : GOk g nm fr n := gok_of K ok hn (fns_ok K ok hn n)
    have tk := Df.okB_ok (List.all_eq_true.mp ok t (List.mem_of_getElem? ht))
    have hT : g.T j = some t.fn := by rw [K.T]; show (dfs[j]?).map (·.fn) = _; rw [ht]; rfl
    exact fn_ok (I := ⟨t.N, t.d.scope, nm, fr⟩) K.cx hT tk.sc F tk.n tk.np tk.chk G
/-- the script, handed over -/
theorem rep_ints {K : PySem.W.Frag} {F : Hp} : ∀ {ns : List Int}, RepL K F (ns.map D.int) (ns.map V.int)
  | [] => rfl
  | i :: ns => ⟨_, _, rfl, rfl, rep_ints⟩
theorem law_sp {n j : Nat} {H : Hp} {a : Addr} {ns : List Int} {own : Bool} {out : List (D × Bool)} {fn : Fn} (hT : g.T j = some fn) (hnp : fn.np = 1) (hS : SqL g.K H a (ns.map V.int))
    (h : callA g.T n j [(.lst (ns.map D.int), false)] = .ok (.bl true) own out) : spM g n j [.ref a] H (fun v _ => v = .bl true) fun _ _ _ => False := by
  refine ⟨H, [(.lst (ns.map D.int), false)], [none], ⟨fun _ _ z => z, rfl, rfl, fun k d v h1 h2 => ?_, fun k d v h1 h2 => ?_, fun k k' b h1 _ => ?_⟩, fun f hf => ?_, ?_⟩
  · cases k with
    | zero =>
      cases h1
      cases h2
      exact ⟨⟨a, _, rfl, hS, rep_ints⟩, rfl⟩
    | succ k => simp at h1
  · cases k with
    | zero => cases h1
    | succ k => simp at h1
  · have h1 : ([none] : List (Option Addr))[k]? = some (some b) := h1
    cases k with
    | zero => cases h1
    | succ k => simp at h1
  · rw [hT] at hf
    cases hf
    rw [hnp]
    rfl
  · rw [h]
    intro F' H' v _ r
    cases own with
    | false => exact r
    | true =>
      obtain ⟨_, _, _, _, r⟩ := r
      exact r.elim
end
/-! ### the head's facts -/
def dvD : D → Option He.Dv
  | .int i => some (.int i)
  | .str z => if z.length ≤ lim then some (.str z) else none
  | .bl c => some (.bl c)
  | .non => some .non
  | _ => none
def dvDs : List D → Option (List He.Dv)
  | [] => some []
  | d :: ds => match dvD d, dvDs ds with
    | some v, some vs => some (v :: vs)
    | _, _ => none
theorem dvD_rep {K : PySem.W.Frag} {F : Hp} {d : D} {v : He.Dv} (h : dvD d = some v) : Rep K F d (v.v K) := by
  cases d with
  | int i => cases h; exact rfl
  | bl c => cases h; exact rfl
  | non => cases h; exact rfl
  | str z =>
    have h : (if z.length ≤ lim then some (He.Dv.str z) else none) = some v := h
    split at h
    · rename_i hz
      cases h
      exact ⟨rfl, hz⟩
    · cases h
  | _ => cases h
theorem dvDs_rep {K : PySem.W.Frag} {F : Hp} : ∀ {ds : List D} {vs : List He.Dv}, dvDs ds = some vs → RepL K F ds (vs.map (He.Dv.v K))
  | [], vs, h => by cases h; exact rfl
  | d :: ds, vs, h => by
    unfold dvDs at h
    cases h1 : dvD d with
    | none => rw [h1] at h; cases h
    | some v =>
      cases h2 : dvDs ds with
      | none => rw [h1, h2] at h; cases h
      | some r =>
        rw [h1, h2] at h
        cases h
        exact ⟨_, _, rfl, dvD_rep h1, dvDs_rep h2⟩
def cstB (K : PySem.W.Frag) (x : Str) : D → Bool
  | .int i => (He.Fa.int x i).ok K
  | .str z => (He.Fa.str x z).ok K && decide (z.length ≤ lim)
  | .tup ds => match dvDs ds with
    | some vs => (He.Fa.glo x).ok K && He.tupB K x vs
    | none => false
  | _ => false
def exB (dfs : List Df) (nm : List (Str × GK)) (fr : List Str) (K : PySem.W.Frag) : Bool :=
  (fr.all fun x => (He.Fa.free x).ok K) && ((dfs.all fun t => t.d.at_.2.isSome || (He.Fa.glo t.d.at_.1).ok K) && nm.all fun p => match p.2 with
    | .cst d => cstB K p.1 d
    | .exc => (He.Fa.glo p.1).ok K && ((He.Fa.exc p.1).ok K && excB K p.1)
    | _ => true)
abbrev AlM : Type := He.AlD × Bool
def obsM (dfs : List Df) (nm : List (Str × GK)) (fr : List Str) (K : PySem.W.Frag) : AlM := (He.obsD [] (dfs.map Df.d) K, exB dfs nm fr K)
def obsMG (n : Nat) (dfs : List Df) (nm : List (Str × GK)) (fr : List Str) (h : Addr → Option Obj) : AlM := obsM dfs nm fr (He.frG h (He.asD h n))
def SaysM (dfs : List Df) (nm : List (Str × GK)) (fr : List Str) (K : PySem.W.Frag) : Prop := He.SaysD [] (dfs.map Df.d) K ∧ exB dfs nm fr K = true
def hookM (n : Nat) (dfs : List Df) (nm : List (Str × GK)) (fr : List Str) : PySem.W.Hook where
  α := AlM
  obs := fun s => obsMG n dfs nm fr s.heap.get?
  val := fun _ => (He.valD (dfs.map Df.d), true)
  says := fun _ h => ∃ K : PySem.W.Frag, K.In h ∧ SaysM dfs nm fr K
  of := fun _ s e => ⟨He.frG s.heap.get? (He.asD s.heap.get? n), He.frG_in, congrArg (fun z : AlM => z.1) e, congrArg (fun z : AlM => z.2) e⟩
  keeps := fun _ _ _ ⟨K, hK, c⟩ k => ⟨K, PySem.W.Frag.In.keeps hK k, c⟩
theorem obsMG_eq {n : Nat} {dfs : List Df} {nm : List (Str × GK)} {fr : List Str} {h : Addr → Option Obj} {s : Shared} (e : ∀ a, h a = s.heap.get? a) : obsMG n dfs nm fr h = (hookM n dfs nm fr).obs s := by
  have e : h = s.heap.get? := funext e
  rw [e] <;> rfl
section
variable {dfs : List Df} {nm : List (Str × GK)} {fr : List Str} {P : Program} {w : World} {K : PySem.W.Frag} {mg : Str → Option Value} {base h : Heap}
def tabT (dfs : List Df) : Nat → Option Fn := fun j => (dfs[j]?).map (·.fn)
theorem facts_of (X : K.In h) (G : h.Ns mainGlobals mg) (c : SaysM dfs nm fr K) : Facts ⟨P, w, K, mg, base, L2.CX P w, tabT dfs⟩ dfs nm fr where
  T := rfl
  cx := rfl
  fr := fun x hx => by
    have h1 := (Bool.and_eq_true_iff.mp c.2).1
    exact He.free_ok X G (List.all_eq_true.mp h1 x (by simpa using hx))
  cst := fun x d hx => by
    have h1 := (Bool.and_eq_true_iff.mp (Bool.and_eq_true_iff.mp c.2).2).2
    have h2 := List.all_eq_true.mp h1 _ (lookN_mem hx)
    dsimp only at h2
    cases d with
    | int i =>
      obtain ⟨t, e⟩ := He.int_ok X G (x := x) (i := i) h2
      exact ⟨_, .int i, e, ⟨t, rfl⟩, fun F => rfl⟩
    | str z =>
      obtain ⟨h3, h4⟩ := Bool.and_eq_true_iff.mp (show ((He.Fa.str x z).ok K && decide (z.length ≤ lim)) = true from h2)
      obtain ⟨t, e⟩ := He.str_ok X G (x := x) (z := z) h3
      exact ⟨_, .str z, e, ⟨t, rfl⟩, fun F => ⟨rfl, of_decide_eq_true h4⟩⟩
    | tup ds =>
      have h2 : (match dvDs ds with
        | some vs => (He.Fa.glo x).ok K && He.tupB K x vs
        | none => false) = true := h2
      cases q : dvDs ds with
      | none => rw [q] at h2; cases h2
      | some vs =>
        rw [q] at h2
        obtain ⟨h3, h4⟩ := Bool.and_eq_true_iff.mp h2
        exact ⟨_, .ref (He.ga K x), He.glo_ok X G h3, rfl, fun F => ⟨_, _, rfl, He.tupB_ok h4 F, dvDs_rep q⟩⟩
    | _ => cases h2
  exc := fun x hx => by
    have h1 := (Bool.and_eq_true_iff.mp (Bool.and_eq_true_iff.mp c.2).2).2
    have h2 := List.all_eq_true.mp h1 _ (lookN_mem hx)
    obtain ⟨h3, h4⟩ := Bool.and_eq_true_iff.mp (show ((He.Fa.glo x).ok K && ((He.Fa.exc x).ok K && excB K x)) = true from h2)
    obtain ⟨h5, h6⟩ := Bool.and_eq_true_iff.mp h4
    obtain ⟨e1, e2, _⟩ := He.exc_ok h5
    exact ⟨He.glo_ok X G h3, e2, e1, h6⟩
  glo := fun j t ht hn => by
    have h1 := (Bool.and_eq_true_iff.mp (Bool.and_eq_true_iff.mp c.2).2).1
    have h2 := List.all_eq_true.mp h1 t (List.mem_of_getElem? ht)
    rw [hn] at h2
    have h2 : (He.Fa.glo t.d.at_.1).ok K = true := h2
    have := He.glo_ok X G h2
    unfold He.fAd
    rw [hn]
    exact this
  fd := fun j t ht => c.1.def_ j (d := t.d) (by rw [List.getElem?_map, ht]; rfl)
/-- the law's def: what the head wants -/
theorem endF {jL m N : Nat} {t : Df} {x : Str} {fa : Addr} (ok : dfs.all (Df.okB nm fr) = true) (hn : nmB dfs nm = true) (ht : dfs[jL]? = some t) (hat : t.d.at_.2 = none) (hps : t.ps = [x])
    (law : ∀ ns : List Int, ns.length ≤ m → ∃ own out, callA (tabT dfs) N jL [(.lst (ns.map D.int), false)] = .ok (.bl true) own out) (Y : ∃ K : PySem.W.Frag, K.In h ∧ SaysM dfs nm fr K) (G : h.Ns mainGlobals mg) (hmg : mg t.d.at_.1 = some (.ref fa)) :
    ∃ (K : PySem.W.Frag) (fd : FuncData) (sp : Sp), K.In h ∧ (∀ (s : Shared) (u : Value), BindsTo s fd ⟨[u], []⟩ [(x, u)]) ∧
      (∀ (H : Hp) (a : Addr) (ns : List Int), ns.length ≤ m → Only H → SqL K H a (ns.map V.int) → sp [.ref a] H (fun v _ => v = .bl true) fun _ _ _ => False) ∧
      ∀ base : Heap, K.In base → base.Ns mainGlobals mg → FnOk P w K mg base (L2.CX P w) N fa fd [x] sp := by
  obtain ⟨K, KX, c⟩ := Y
  have tk := Df.okB_ok (List.all_eq_true.mp ok t (List.mem_of_getElem? ht))
  have F0 := facts_of (P := P) (w := w) (base := h) KX G c
  obtain ⟨fd, F⟩ := F0.fd jL t ht
  have efa := F0.glo jL t ht hat
  have e : (some (Value.ref fa)) = some (.ref (He.fAd K t.d.at_)) := hmg.symm.trans efa
  cases e
  have e1 : t.d.dvs K = [] := by unfold He.DefD.dvs; rw [tk.dfl]; rfl
  have hps1 : t.ps.Nodup := by rw [hps]; simp
  refine ⟨K, fd, spM ⟨P, w, K, mg, h, L2.CX P w, tabT dfs⟩ N jL, KX, fun s u => ?_, fun H a ns hl _ hS => ?_, fun base hK hG => ?_⟩
  · have F1 := F
    rw [e1] at F1
    have := F1.bindsA (ps := t.ps) (fun kV doc pm an cdv ct us hl => sim_bind tk.sim hps1 hl) s [u] (by rw [hps]; rfl)
    rw [hps] at this
    exact this
  · obtain ⟨own, out, q⟩ := law ns hl
    refine law_sp (fn := t.fn) ?_ (by rw [tk.np, hps]; rfl) hS q
    show tabT dfs jL = _
    unfold tabT
    rw [ht] <;> rfl
  · have Fb := facts_of (P := P) (w := w) (base := base) KX G c
    have := fns_ok Fb ok hn N jL t fd ht F
    rw [hps] at this
    exact this
end
open PySem.W in
/-- the end, where the way out of an exception hangs on the world -/
theorem walk_ofW {l : PySem.W.OpenLaw} {n k : Nat} {q : Program} {loose : List Str} {XP : (Str → Option Value) → Heap → Prop} {YP : World → Heap → Prop} {d : DefRec} {CX : World → CXT} {x : Str}
    (hn : l.most = some n) (hn2 : n ≤ sizeLine) (hdf : d.params.defaults = []) (hr : Room k callerA)
    (F : ∀ (w : World) (mg : Str → Option Value) (fa : Addr) (h : Heap), YP w h → h.Ns mainGlobals mg → mg d.name = some (.ref fa) →
      ∃ (K : PySem.W.Frag) (fd : FuncData) (sp : Sp), K.In h ∧ (∀ (s : Shared) (u : Value), BindsTo s fd ⟨[u], []⟩ [(x, u)]) ∧
        (∀ (H : Hp) (a : Addr) (ns : List Int), ns.length ≤ n → Only H → SqL K H a (ns.map V.int) → sp [.ref a] H (fun v _ => v = .bl true) fun _ _ _ => False) ∧
        ∀ base : Heap, K.In base → base.Ns mainGlobals mg → FnOk l.prog w K mg base (CX w) k fa fd [x] sp)
    (hCX : ∀ (w : World) (H : Hp) (s : Shared) (e : Value) (s' : Shared), CX w [] H s (fun _ _ _ => False) e s' → False) :
    PySem.W.WalkO q loose XP YP l.row.toRowW d [] (fun f vs => PySem.call f vs) := by
  refine Att.attach_call hn hdf fun w s₀ s₁ mg mb fa o pm cd doc a vs ns G Y ho hd hcd hmg hobj hints hlen hg => ?_
  obtain ⟨K, fd, sp, KX, hb, hsp, hF⟩ := F w mg fa _ Y G.T.g hmg
  exact law_call KX G.T.g G.T.b G.T.builtins G.T.nolimit hg hobj hints (Nat.le_trans hlen hn2) hr hF hb (fun H hO hS => hsp H a ns hlen hO hS) fun H e s' => hCX w H s₁ e s'
end Mi

set_option Elab.async false
set_option linter.all false
set_option maxRecDepth 100000
set_option maxHeartbeats 0
/-! Ms: stepping the evaluator by simp. -/
namespace Mi
open PySem
theorem evT_k (cal : Cal) {d} (e : Env) : evT cal (Ex.k d) e = bT (evE cal (Ex.k d)) e := rfl
theorem evT_v (cal : Cal) {i} (e : Env) : evT cal (Ex.v i) e = bT (evE cal (Ex.v i)) e := rfl
theorem evT_cmp (cal : Cal) {o a b} (e : Env) : evT cal (Ex.cmp o a b) e = bT (evE cal (Ex.cmp o a b)) e := rfl
theorem evT_call (cal : Cal) {f es} (e : Env) : evT cal (Ex.call f es) e = bT (evE cal (Ex.call f es)) e := rfl
theorem evT_isi (cal : Cal) {a cs} (e : Env) : evT cal (Ex.isi a cs) e = bT (evE cal (Ex.isi a cs)) e := rfl
theorem evT_chain (cal : Cal) {o o' a b c} (e : Env) : evT cal (Ex.chain o o' a b c) e = bT (evE cal (Ex.chain o o' a b c)) e := rfl
theorem bT_def (E : Env → R W) (e : Env) : bT E e = (E e).bnd fun x e1 => R.ofO ((e1.cur x).bind truth) e1 := rfl
theorem evO_k (cal : Cal) {d} (e : Env) : evO cal (Ex.k d) e = bO (evE cal (Ex.k d)) e := rfl
theorem evO_v (cal : Cal) {i} (e : Env) : evO cal (Ex.v i) e = bO (evE cal (Ex.v i)) e := rfl
theorem evO_op (cal : Cal) {o a b} (e : Env) : evO cal (Ex.op o a b) e = bO (evE cal (Ex.op o a b)) e := rfl
theorem evO_neg (cal : Cal) {a} (e : Env) : evO cal (Ex.neg a) e = bO (evE cal (Ex.neg a)) e := rfl
theorem bO_def (E : Env → R W) (e : Env) : bO E e = (E e).bnd fun x e1 => match e1.cur x with
    | some (.int i) => .ok (some i) e1
    | _ => .bad := rfl
theorem evI_v (cal : Cal) {i} (e : Env) : evI cal (Ex.v i) e = bI (evE cal (Ex.v i)) e := rfl
theorem evI_tup (cal : Cal) {es} (e : Env) : evI cal (Ex.tup es) e = bI (evE cal (Ex.tup es)) e := rfl
theorem evI_lst (cal : Cal) {es} (e : Env) : evI cal (Ex.lst es) e = bI (evE cal (Ex.lst es)) e := rfl
theorem evI_sl (cal : Cal) {a b c} (e : Env) : evI cal (Ex.sl a b c) e = bI (evE cal (Ex.sl a b c)) e := rfl
theorem bI_def (E : Env → R W) (e : Env) : bI E e = (E e).bnd fun x e1 => match e1.tak x with
    | some (.lst xs, e2) => .ok xs e2
    | some (.tup xs, e2) => .ok xs e2
    | some (.str z, e2) => .ok (z.cps.toList.map fun c => .str ⟨#[c]⟩) e2
    | _ => .bad := rfl
theorem evS_skip (cal : Cal) (e : Env) : evS cal .skip e = .nx e := rfl
theorem evS_seq (cal : Cal) (a b : Mi.St) (e : Env) : evS cal (.seq a b) e = (evS cal a e).sq (evS cal b) := rfl
theorem evS_set (cal : Cal) (i x) (e : Env) : evS cal (.set i x) e = (evE cal x e).st fun w e1 => match e1.store i w with
    | some e2 => .nx e2
    | none => .bad := rfl
theorem evS_drop (cal : Cal) (x) (e : Env) : evS cal (.drop x) e = (evE cal x e).st fun _ e1 => .nx e1 := rfl
theorem evS_ifs (cal : Cal) (c a b) (e : Env) : evS cal (.ifs c a b) e = (evT cal c e).st fun t e1 => if t then evS cal a e1 else evS cal b e1 := rfl
theorem evS_fors (cal : Cal) (tg it b) (e : Env) : evS cal (.fors tg it b) e = (evI cal it e).st fun xs e1 => forL (fun d e => match e.bindT tg d with
    | some e' => evS cal b e'
    | none => .bad) xs e1 := rfl
theorem evS_par (cal : Cal) (is es) (e : Env) : evS cal (.par is es) e = (evA cal es e).st fun ws e1 => match e1.holds ws with
    | some (us, e2) => if us.length = is.length then .nx (e2.setWs is us) else .bad
    | none => .bad := rfl
theorem evS_ret (cal : Cal) (x) (e : Env) : evS cal (.ret x) e = (evE cal x e).st fun w e1 => match w with
    | .d d => .ret d false e1
    | .o d => .ret d true e1
    | .s i => (match e1.sl[i]? with
      | some (.own d) => .ret d true e1
      | _ => (match e1.tak w with
        | some (d, e2) => .ret d false e2
        | none => .bad)) := rfl
theorem evS_sub (cal : Cal) (o i x) (e : Env) : evS cal (.sub o i x) e = (evE cal x e).st fun w e1 => (evE cal o e1).st fun wo e2 => (evE cal i e2).st fun wi e3 => match wo, e3.cur wi with
    | .s k, some (.int j) => (match e3.tak w with
      | some (d, e4) => (match e4.at k with
        | some (.lst xs, true) => (match L2.ixN xs.length j with
          | some n => .nx (e4.put k (.lst (xs.set n d), true))
          | none => .bad)
        | _ => .bad)
      | none => .bad)
    | _, _ => .bad := rfl

/-- a function that simp does not look into -/
structure U {γ : Type} (f : γ) : Type
def R.bndD {α β : Type} (r : R α) (f : α → Env → R β) (_ : U f) : R β := r.bnd f
theorem bndD_ok {α β : Type} (a : α) (e : Env) (f : α → Env → R β) (u : U f) : (R.ok a e).bndD f u = f a e := rfl
theorem bndD_exc {α β : Type} (x : D) (e : Env) (f : α → Env → R β) (u : U f) : (R.exc x e : R α).bndD f u = .exc x e := rfl
theorem bndD_bad {α β : Type} (f : α → Env → R β) (u : U f) : (R.bad : R α).bndD f u = .bad := rfl
def R.stD {α : Type} (r : R α) (f : α → Env → SR) (_ : U f) : SR := r.st f
theorem stD_ok {α : Type} (a : α) (e : Env) (f : α → Env → SR) (u : U f) : (R.ok a e).stD f u = f a e := rfl
theorem stD_exc {α : Type} (x : D) (e : Env) (f : α → Env → SR) (u : U f) : (R.exc x e : R α).stD f u = .exc x e := rfl
theorem stD_bad {α : Type} (f : α → Env → SR) (u : U f) : (R.bad : R α).stD f u = .bad := rfl
def SR.sqD (r : SR) (f : Env → SR) (_ : U f) : SR := r.sq f
theorem sqD_nx (e : Env) (f : Env → SR) (u : U f) : (SR.nx e).sqD f u = f e := rfl
theorem sqD_brk (e : Env) (f : Env → SR) (u : U f) : (SR.brk e).sqD f u = .brk e := rfl
theorem sqD_cnt (e : Env) (f : Env → SR) (u : U f) : (SR.cnt e).sqD f u = .cnt e := rfl
theorem sqD_ret (d : D) (o : Bool) (e : Env) (f : Env → SR) (u : U f) : (SR.ret d o e).sqD f u = .ret d o e := rfl
theorem sqD_exc (x : D) (e : Env) (f : Env → SR) (u : U f) : (SR.exc x e).sqD f u = .exc x e := rfl
theorem sqD_bad (f : Env → SR) (u : U f) : SR.bad.sqD f u = .bad := rfl
theorem evE_opD (cal : Cal) {o} {a} {b} (e : Env) : evE cal (Ex.op o a b) e = (evE cal a e).bndD (fun x e1 => (evE cal b e1).bndD (fun y e2 => match e2.cur x, e2.cur y with
    | some p, some q => R.ofO (opBin o p q) e2
    | _, _ => .bad) ⟨⟩) ⟨⟩ := rfl
theorem evE_negD (cal : Cal) {a} (e : Env) : evE cal (Ex.neg a) e = (evE cal a e).bndD (fun x e1 => match e1.cur x with
    | some (.int i) => .ok (.d (.int (-i))) e1
    | _ => .bad) ⟨⟩ := rfl
theorem evE_cmpD (cal : Cal) {o} {a} {b} (e : Env) : evE cal (Ex.cmp o a b) e = (evE cal a e).bndD (fun x e1 => (evE cal b e1).bndD (fun y e2 => match e2.cur x, e2.cur y with
    | some p, some q => R.ofO ((opCmp o p q).map fun c => .d (.bl c)) e2
    | _, _ => .bad) ⟨⟩) ⟨⟩ := rfl
theorem evE_chainD (cal : Cal) {o} {o'} {a} {b} {c} (e : Env) : evE cal (Ex.chain o o' a b c) e = (evE cal a e).bndD (fun x e1 => (evE cal b e1).bndD (fun y e2 => match e2.cur x, e2.cur y with
    | some p, some q => (match opCmp o p q with
      | some true => (evE cal c e2).bndD (fun z e3 => (match e3.cur y, e3.cur z with
        | some q', some r => R.ofO ((opCmp o' q' r).map fun c => .d (.bl c)) e3
        | _, _ => .bad)) ⟨⟩
      | some false => .ok (.d (.bl false)) e2
      | none => .bad)
    | _, _ => .bad) ⟨⟩) ⟨⟩ := rfl
theorem evE_andD (cal : Cal) {a} {b} (e : Env) : evE cal (Ex.and a b) e = (evE cal a e).bndD (fun x e1 => match (e1.cur x).bind truth with
    | some true => evE cal b e1
    | some false => .ok x e1
    | none => .bad) ⟨⟩ := rfl
theorem evE_orD (cal : Cal) {a} {b} (e : Env) : evE cal (Ex.or a b) e = (evE cal a e).bndD (fun x e1 => match (e1.cur x).bind truth with
    | some true => .ok x e1
    | some false => evE cal b e1
    | none => .bad) ⟨⟩ := rfl
theorem evE_notD (cal : Cal) {a} (e : Env) : evE cal (Ex.not a) e = (evE cal a e).bndD (fun x e1 => match (e1.cur x).bind truth with
    | some c => .ok (.d (.bl (!c))) e1
    | none => .bad) ⟨⟩ := rfl
theorem evE_ifeD (cal : Cal) {c} {a} {b} (e : Env) : evE cal (Ex.ife c a b) e = (evT cal c e).bndD (fun t e1 => if t then evE cal a e1 else evE cal b e1) ⟨⟩ := rfl
theorem evE_tupD (cal : Cal) {es} (e : Env) : evE cal (Ex.tup es) e = (evA cal es e).bndD (fun ws e1 => match e1.taks ws with
    | some (ds, e2) => if ds.length ≤ lim then .ok (.d (.tup ds)) e2 else .bad
    | none => .bad) ⟨⟩ := rfl
theorem evE_lstD (cal : Cal) {es} (e : Env) : evE cal (Ex.lst es) e = (evA cal es e).bndD (fun ws e1 => match e1.taks ws with
    | some (ds, e2) => if ds.length ≤ lim then .ok (.o (.lst ds)) e2 else .bad
    | none => .bad) ⟨⟩ := rfl
theorem evE_ixD (cal : Cal) {a} {b} (e : Env) : evE cal (Ex.ix a b) e = (evE cal a e).bndD (fun x e1 => (evE cal b e1).bndD (fun y e2 => match e2.cur x, e2.cur y with
    | some p, some q => R.ofO ((opIx p q).map .d) e2
    | _, _ => .bad) ⟨⟩) ⟨⟩ := rfl
theorem evE_slD (cal : Cal) {a} {lo} {hi} (e : Env) : evE cal (Ex.sl a lo hi) e = (evE cal a e).bndD (fun x e1 => (evO cal lo e1).bndD (fun l e2 => (evO cal hi e2).bndD (fun h e3 => match e3.cur x with
    | some p => R.ofO (opSl p l h) e3
    | none => .bad) ⟨⟩) ⟨⟩) ⟨⟩ := rfl
theorem evE_biD (cal : Cal) {b} {es} (e : Env) : evE cal (Ex.bi b es) e = (evA cal es e).bndD (fun ws e1 => match e1.curs ws with
    | some ds => R.ofO (biOp b ds) e1
    | none => .bad) ⟨⟩ := rfl
theorem evE_meD (cal : Cal) {m} {o} {es} (e : Env) : evE cal (Ex.me m o es) e = (evE cal o e).bndD (fun x e1 => if (e1.cur x).any (meTyp m) then ((evA cal es e1).bndD (fun ws e2 => match x with
    | .s i => (match e2.taks ws with
      | some (ds, e3) => (match e3.at i with
        | some (d, true) => (match meOp m d ds with
          | some (d', r) => .ok (.d r) (e3.put i (d', true))
          | none => .bad)
        | _ => .bad)
      | none => .bad)
    | _ => .bad) ⟨⟩) else .bad) ⟨⟩ := rfl
theorem evE_callD (cal : Cal) {f} {es} (e : Env) : evE cal (Ex.call f es) e = (evA cal es e).bndD (fun ws e1 => match e1.hand ws with
    | some as => (match cal f as with
      | .ok d own out => .ok (if own then .o d else .d d) (e1.back ws as out)
      | .exc x out => .exc x (e1.back ws as out)
      | .bad => .bad)
    | none => .bad) ⟨⟩ := rfl
theorem evE_callkD (cal : Cal) {f} {es} {ks} {perm} (e : Env) : evE cal (Ex.callk f es ks perm) e = (evA cal es e).bndD (fun ws e1 => (evA cal ks e1).bndD (fun zs e2 => match (freesW (ws ++ zs)).bind fun us => picks us perm with
    | some us => (match e2.hand us with
      | some as => (match cal f as with
        | .ok d own out => .ok (if own then .o d else .d d) (e2.back us as out)
        | .exc x out => .exc x (e2.back us as out)
        | .bad => .bad)
      | none => .bad)
    | none => .bad) ⟨⟩) ⟨⟩ := rfl
theorem evE_isiD (cal : Cal) {a} {cs} (e : Env) : evE cal (Ex.isi a cs) e = (evE cal a e).bndD (fun x e1 => match (e1.cur x).bind (isiD cs) with
    | some n => .ok (.d (.bl n)) e1
    | none => .bad) ⟨⟩ := rfl
theorem evA_consD (cal : Cal) {a} {r} (e : Env) : evA cal (Ex.cons a r) e = (evE cal a e).bndD (fun x e1 => (evA cal r e1).bndD (fun ws e2 => .ok (x :: ws) e2) ⟨⟩) ⟨⟩ := rfl
theorem evT_andD (cal : Cal) {a} {b} (e : Env) : evT cal (Ex.and a b) e = (evT cal a e).bndD (fun t e1 => if t then evT cal b e1 else .ok false e1) ⟨⟩ := rfl
theorem evT_orD (cal : Cal) {a} {b} (e : Env) : evT cal (Ex.or a b) e = (evT cal a e).bndD (fun t e1 => if t then .ok true e1 else evT cal b e1) ⟨⟩ := rfl
theorem evT_notD (cal : Cal) {a} (e : Env) : evT cal (Ex.not a) e = (evT cal a e).bndD (fun t e1 => .ok (!t) e1) ⟨⟩ := rfl
theorem evI_rng1D (cal : Cal) {a} (e : Env) : evI cal (Ex.rng1 a) e = (evE cal a e).bndD (fun x e1 => match e1.cur x with
    | some (.int n) => if n.natAbs < 2 ^ 61 then .ok (rngD 0 n) e1 else .bad
    | _ => .bad) ⟨⟩ := rfl
theorem evI_rng2D (cal : Cal) {a} {b} (e : Env) : evI cal (Ex.rng2 a b) e = (evE cal a e).bndD (fun x e1 => (evE cal b e1).bndD (fun y e2 => match e2.cur x, e2.cur y with
    | some (.int m), some (.int n) => if decide (m.natAbs < 2 ^ 61) && decide (n.natAbs < 2 ^ 61) then .ok (rngD m n) e2 else .bad
    | _, _ => .bad) ⟨⟩) ⟨⟩ := rfl
theorem evI_enD (cal : Cal) {a} (e : Env) : evI cal (Ex.en a) e = (evE cal a e).bndD (fun x e1 => match e1.tak x with
    | some (.lst xs, e2) => .ok (enD 0 xs) e2
    | _ => .bad) ⟨⟩ := rfl
theorem evI_zpD (cal : Cal) {a} {b} (e : Env) : evI cal (Ex.zp a b) e = (evE cal a e).bndD (fun x e1 => (evE cal b e1).bndD (fun y e2 => match e2.taks [x, y] with
    | some ([.lst xs, .lst ys], e3) => .ok (zpD xs ys) e3
    | _ => .bad) ⟨⟩) ⟨⟩ := rfl
theorem bT_defD (E : Env → R W) (e : Env) : bT E e = (E e).bndD (fun x e1 => R.ofO ((e1.cur x).bind truth) e1) ⟨⟩ := rfl
theorem bO_defD (E : Env → R W) (e : Env) : bO E e = (E e).bndD (fun x e1 => match e1.cur x with
    | some (.int i) => .ok (some i) e1
    | _ => .bad) ⟨⟩ := rfl
theorem bI_defD (E : Env → R W) (e : Env) : bI E e = (E e).bndD (fun x e1 => match e1.tak x with
    | some (.lst xs, e2) => .ok xs e2
    | some (.tup xs, e2) => .ok xs e2
    | some (.str z, e2) => .ok (z.cps.toList.map fun c => .str ⟨#[c]⟩) e2
    | _ => .bad) ⟨⟩ := rfl
theorem evS_seqD (cal : Cal) (a b : Mi.St) (e : Env) : evS cal (.seq a b) e = (evS cal a e).sqD (evS cal b) ⟨⟩ := rfl
theorem evS_setD (cal : Cal) (i x) (e : Env) : evS cal (.set i x) e = (evE cal x e).stD (fun w e1 => match e1.store i w with
    | some e2 => .nx e2
    | none => .bad) ⟨⟩ := rfl
theorem evS_dropD (cal : Cal) (x) (e : Env) : evS cal (.drop x) e = (evE cal x e).stD (fun _ e1 => .nx e1) ⟨⟩ := rfl
theorem evS_ifsD (cal : Cal) (c a b) (e : Env) : evS cal (.ifs c a b) e = (evT cal c e).stD (fun t e1 => if t then evS cal a e1 else evS cal b e1) ⟨⟩ := rfl
theorem evS_forsD (cal : Cal) (tg it b) (e : Env) : evS cal (.fors tg it b) e = (evI cal it e).stD (fun xs e1 => forL (fun d e => match e.bindT tg d with
    | some e' => evS cal b e'
    | none => .bad) xs e1) ⟨⟩ := rfl
theorem evS_parD (cal : Cal) (is es) (e : Env) : evS cal (.par is es) e = (evA cal es e).stD (fun ws e1 => match e1.holds ws with
    | some (us, e2) => if us.length = is.length then .nx (e2.setWs is us) else .bad
    | none => .bad) ⟨⟩ := rfl
theorem evS_retD (cal : Cal) (x) (e : Env) : evS cal (.ret x) e = (evE cal x e).stD (fun w e1 => match w with
    | .d d => .ret d false e1
    | .o d => .ret d true e1
    | .s i => (match e1.sl[i]? with
      | some (.own d) => .ret d true e1
      | _ => (match e1.tak w with
        | some (d, e2) => .ret d false e2
        | none => .bad))) ⟨⟩ := rfl
theorem evS_subD (cal : Cal) (o i x) (e : Env) : evS cal (.sub o i x) e = (evE cal x e).stD (fun w e1 => (evE cal o e1).stD (fun wo e2 => (evE cal i e2).stD (fun wi e3 => match wo, e3.cur wi with
    | .s k, some (.int j) => (match e3.tak w with
      | some (d, e4) => (match e4.at k with
        | some (.lst xs, true) => (match L2.ixN xs.length j with
          | some n => .nx (e4.put k (.lst (xs.set n d), true))
          | none => .bad)
        | _ => .bad)
      | none => .bad)
    | _, _ => .bad) ⟨⟩) ⟨⟩) ⟨⟩ := rfl
theorem ob_add (i j : Int) : opBin .Add (.int i) (.int j) = some (.d (.int (i + j))) := rfl
theorem ob_sub (i j : Int) : opBin .Sub (.int i) (.int j) = some (.d (.int (i - j))) := rfl
theorem mulOkL {i j : Int} (h : i.natAbs < 2 ^ 63) : mulOk i j = true := by unfold mulOk; rw [decide_eq_true h]; rfl
theorem mulOkR {i j : Int} (h : j.natAbs < 2 ^ 63) : mulOk i j = true := by unfold mulOk; simp [h]
theorem ob_mul {i j : Int} (h : mulOk i j = true) : opBin .Mult (.int i) (.int j) = some (.d (.int (i * j))) := by
  show (if mulOk i j then some (W.d (.int (i * j))) else none) = _
  rw [h] <;> rfl
theorem ob_mulL {i j : Int} (h : i.natAbs < 9223372036854775808) : opBin .Mult (.int i) (.int j) = some (.d (.int (i * j))) := ob_mul (mulOkL h)
theorem ob_mulR {i j : Int} (h : j.natAbs < 9223372036854775808) : opBin .Mult (.int i) (.int j) = some (.d (.int (i * j))) := ob_mul (mulOkR h)
theorem ob_div {i j : Int} (h : 0 < j) (h2 : j.natAbs.log2 < 9000) : opBin .FloorDiv (.int i) (.int j) = some (.d (.int (i / j))) := by
  show (if decide (0 < j) && decide (j.natAbs.log2 < 9000) then some (W.d (.int (i / j))) else none) = _
  rw [decide_eq_true h, decide_eq_true h2] <;> rfl
theorem ob_mod {i j : Int} (h : 0 < j) : opBin .Mod (.int i) (.int j) = some (.d (.int (i % j))) := by
  show (if 0 < j then some (W.d (.int (i % j))) else none) = _
  rw [if_pos h]
theorem ob_pow {i j : Int} (h : 0 ≤ j) (h2 : j ≤ 1000000) (h3 : i.natAbs < 18446744073709551616) : opBin .Pow (.int i) (.int j) = some (.d (.int (i ^ j.toNat))) := by
  show (if decide (0 ≤ j) && (decide (j ≤ 1000000) && decide (i.natAbs < 2 ^ 64)) then some (W.d (.int (i ^ j.toNat))) else none) = _
  rw [decide_eq_true h, decide_eq_true h2, decide_eq_true (show i.natAbs < 2 ^ 64 from h3)] <;> rfl
theorem ob_cat {x y : Str} (h : x.length + y.length ≤ 16777216) : opBin .Add (.str x) (.str y) = some (.d (.str (x ++ y))) := by
  show (if x.length + y.length ≤ lim then some (W.d (.str (x ++ y))) else none) = _
  rw [if_pos (show x.length + y.length ≤ lim from h)]
theorem oc_lt (i j : Int) : opCmp .Lt (.int i) (.int j) = some (decide (i < j)) := rfl
theorem oc_le (i j : Int) : opCmp .LtE (.int i) (.int j) = some (decide (i ≤ j)) := rfl
theorem oc_gt (i j : Int) : opCmp .Gt (.int i) (.int j) = some (decide (j < i)) := rfl
theorem oc_ge (i j : Int) : opCmp .GtE (.int i) (.int j) = some (decide (j ≤ i)) := rfl
theorem oc_eq (a b : D) : opCmp .Eq a b = eqD a b := rfl
theorem oc_ne (a b : D) : opCmp .NotEq a b = (eqD a b).map (!·) := rfl
theorem oc_in (a b : D) : opCmp .In a b = opIn a b := rfl
theorem oc_nin (a b : D) : opCmp .NotIn a b = (opIn a b).map (!·) := rfl
theorem oc_is (a : D) : opCmp .Is a .non = some (isNonD a) := rfl
theorem oc_isn (a : D) : opCmp .IsNot a .non = some (!isNonD a) := rfl
theorem eq_int (i j : Int) : eqD (.int i) (.int j) = some (decide (i = j)) := by
  show some (PyData.eqv (.int i) (.int j)) = _
  show some (i == j) = _
  by_cases h : i = j <;> simp [h]
theorem eq_bl (i j : Bool) : eqD (.bl i) (.bl j) = some (i == j) := by cases i <;> cases j <;> rfl
theorem eqLen_nil (xs : List D) : xs ≠ [] → eqLen (.lst xs) (.lst []) = some false := fun h => by
  show (if xs.length = 0 then none else some false) = _
  rw [if_neg]
  exact fun e => h (List.length_eq_zero_iff.mp e)
/-- xs == [] -/
theorem eq_nil (xs : List D) : eqD (.lst xs) (.lst []) = some xs.isEmpty := by
  unfold eqD
  cases xs with
  | nil => rfl
  | cons x xs =>
    have e := eqLen_nil (x :: xs) (by simp)
    cases h : toPy (.lst (x :: xs)) with
    | none => exact e
    | some p =>
      have hp : ∃ y ys, p = .list (y :: ys) := by
        have h : (toPys (x :: xs)).map PyData.list = some p := by simpa [toPy] using h
        cases h2 : toPys (x :: xs) with
        | none => rw [h2] at h; cases h
        | some l =>
          rw [h2] at h
          cases h
          cases h3 : toPy x with
          | none => simp [toPys, h3] at h2
          | some p =>
            cases h4 : toPys xs with
            | none => simp [toPys, h3, h4] at h2
            | some q =>
              simp [toPys, h3, h4] at h2
              exact ⟨_, _, by rw [← h2]⟩
      obtain ⟨y, ys, rfl⟩ := hp
      have h3 : toPy (.lst []) = some (.list []) := rfl
      rw [h3]
      dsimp only
      split
      · rfl
      · exact e
/-- a text of signs that are there -/
def strOkM (z : Str) : Bool := z.cps.all (· < 0x110000)
theorem eq_str {x y : Str} (hx : strOkM x = true) (hy : strOkM y = true) : eqD (.str x) (.str y) = some (decide (x = y)) := by
  have ex : SeqAt.shaped (.str x) = true := by
    show (strOkM x && decide (0 ≤ 64)) = true
    rw [hx] <;> rfl
  have ey : SeqAt.shaped (.str y) = true := by
    show (strOkM y && decide (0 ≤ 64)) = true
    rw [hy] <;> rfl
  show (if SeqAt.shaped (.str x) && SeqAt.shaped (.str y) then some (PyData.eqv (.str x) (.str y)) else eqLen (.str x) (.str y)) = _
  rw [ex, ey]
  show some (x == y) = _
  by_cases h : x = y <;> simp [h]
theorem strOkM_iff {z : Str} : strOkM z = true ↔ ∀ c ∈ z.cps.toList, c < 0x110000 := by
  unfold strOkM
  rw [Array.all_eq_true_iff_forall_mem]
  simp
theorem cps_app (x y : Str) : (x ++ y).cps.toList = x.cps.toList ++ y.cps.toList := by
  show (x.cps ++ y.cps).toList = _
  simp
theorem len_app (x y : Str) : (x ++ y).length = x.length + y.length := by
  show (x.cps ++ y.cps).size = x.cps.size + y.cps.size
  simp
theorem len_list (x : Str) : x.length = x.cps.toList.length := by
  show x.cps.size = _
  simp
theorem strOkM_app {x y : Str} (hx : strOkM x = true) (hy : strOkM y = true) : strOkM (x ++ y) = true := by
  rw [strOkM_iff] at *
  intro c hc
  rw [cps_app] at hc
  rcases List.mem_append.mp hc with h | h
  · exact hx c h
  · exact hy c h
theorem cps_cut (z : Str) (lo hi : Option Int) : (L2.cutS z lo hi).cps.toList = (z.cps.toList.drop (HT.sIx z.length 0 lo)).take (HT.sIx z.length z.length hi - HT.sIx z.length 0 lo) := by
  unfold L2.cutS
  simp
theorem strOkM_cut {z : Str} (lo hi : Option Int) (h : strOkM z = true) : strOkM (L2.cutS z lo hi) = true := by
  rw [strOkM_iff] at *
  intro c hc
  rw [cps_cut] at hc
  exact h c (List.mem_of_mem_drop (List.mem_of_mem_take hc))
theorem len_cut (z : Str) (lo hi : Option Int) : (L2.cutS z lo hi).length ≤ z.length := by
  rw [len_list, cps_cut, len_list]
  rw [List.length_take, List.length_drop]
  omega
/-- z[i] -/
theorem ix_str {z : Str} {i : Int} (h0 : 0 ≤ i) (h1 : i < z.length) : ∃ c, opIx (.str z) (.int i) = some (.str ⟨#[c]⟩) ∧ c ∈ z.cps.toList := by
  have hl : i.toNat < z.cps.toList.length := by rw [← len_list]; omega
  refine ⟨z.cps.toList[i.toNat], ?_, List.getElem_mem hl⟩
  show (L2.atI z.cps.toList i).map (fun c => D.str ⟨#[c]⟩) = _
  unfold L2.atI L2.ixN
  rw [if_pos h0, if_pos (by rw [← len_list]; exact h1)]
  simp [List.getElem?_eq_getElem hl]
theorem strOkM_one {c : Nat} {z : Str} (h : strOkM z = true) (hc : c ∈ z.cps.toList) : strOkM ⟨#[c]⟩ = true := by
  rw [strOkM_iff] at *
  intro d hd
  have : d = c := by simpa using hd
  rw [this]
  exact h c hc
/-- xs[i] -/
theorem ix_lst {xs : List D} {i : Int} (h0 : 0 ≤ i) (h1 : i < xs.length) : ∃ d, opIx (.lst xs) (.int i) = some d ∧ d ∈ xs := by
  have hl : i.toNat < xs.length := by omega
  refine ⟨xs[i.toNat], ?_, List.getElem_mem hl⟩
  show L2.atI xs i = _
  unfold L2.atI L2.ixN
  rw [if_pos h0, if_pos h1]
  exact List.getElem?_eq_getElem hl
theorem ixN_of {n : Nat} {i : Int} (h0 : 0 ≤ i) (h1 : i < n) : L2.ixN n i = some i.toNat := by
  unfold L2.ixN
  rw [if_pos h0, if_pos h1]
/-- a loop that goes on to its end -/
theorem forL_inv {P : Nat → Env → Prop} {f : D → Env → SR} : ∀ {xs : List D} {k : Nat} {e : Env}, P k e → (∀ d ∈ xs, ∀ j e, j < k + xs.length → P j e → ∃ e', f d e = .nx e' ∧ P (j + 1) e') → ∃ e', forL f xs e = .nx e' ∧ P (k + xs.length) e'
  | [], k, e, h, _ => ⟨e, rfl, h⟩
  | d :: ds, k, e, h, H => by
    obtain ⟨e1, h1, h2⟩ := H d List.mem_cons_self k e (by simp) h
    obtain ⟨e2, h3, h4⟩ := forL_inv (k := k + 1) h2 fun d hd j e hj => H d (List.mem_cons_of_mem _ hd) j e (by simp; omega)
    refine ⟨e2, ?_, ?_⟩
    · show (match f d e with
        | .nx e1 => forL f ds e1
        | .cnt e1 => forL f ds e1
        | .brk e1 => .nx e1
        | r => r) = _
      rw [h1]
      exact h3
    · rw [List.length_cons]
      have : k + (ds.length + 1) = k + 1 + ds.length := by omega
      rw [this]
      exact h4
/-- a comprehension that goes on to its end, no element left out -/
theorem lcL_inv {P : Nat → Env → Prop} {Q : D → Prop} {c : D → Env → R Bool} {f : Env → R W} : ∀ {xs acc : List D} {k : Nat} {e : Env}, P k e → acc.length + xs.length ≤ lim → (∀ d ∈ acc, Q d) →
    (∀ d ∈ xs, ∀ j e, j < k + xs.length → P j e → ∃ y e', (c d e).bnd (fun t e1 => if t then (f e1).bnd fun w e2 => (match e2.tak w with
      | some (y, e3) => R.ok (some y) e3
      | none => .bad) else .ok none e1) = .ok (some y) e' ∧ Q y ∧ P (j + 1) e') → ∃ ys e', lcL c f xs acc e = .ok ys e' ∧ (∀ d ∈ ys, Q d) ∧ ys.length = acc.length + xs.length ∧ P (k + xs.length) e'
  | [], acc, k, e, h, _, ha, _ => ⟨acc, e, rfl, ha, by simp, h⟩
  | d :: ds, acc, k, e, h, hl, ha, H => by
    obtain ⟨y, e1, h1, hq, h2⟩ := H d List.mem_cons_self k e (by simp) h
    have hl2 : acc.length < lim := by simp at hl; omega
    obtain ⟨ys, e2, h3, h4, h5, h6⟩ := lcL_inv (c := c) (f := f) (xs := ds) (acc := acc ++ [y]) (k := k + 1) h2 (by simp at hl ⊢; omega) (fun d hd => by
      rcases List.mem_append.mp hd with h | h
      · exact ha d h
      · rw [List.mem_singleton.mp h]; exact hq) fun d hd j e hj => H d (List.mem_cons_of_mem _ hd) j e (by simp; omega)
    refine ⟨ys, e2, ?_, h4, by rw [h5]; simp; omega, ?_⟩
    · show (c d e).bnd (fun t e1 => if t then (f e1).bnd fun w e2 => (match e2.tak w with
        | some (y, e3) => if acc.length < lim then lcL c f ds (acc ++ [y]) e3 else .bad
        | none => .bad) else lcL c f ds acc e1) = _
      cases hc : c d e with
      | bad => rw [hc] at h1; cases h1
      | exc x e' => rw [hc] at h1; cases h1
      | ok t e' =>
        rw [hc] at h1
        cases t with
        | false => cases h1
        | true =>
          have h1 : ((f e').bnd fun w e2 => (match e2.tak w with
            | some (y, e3) => R.ok (some y) e3
            | none => .bad)) = .ok (some y) e1 := h1
          show ((f e').bnd fun w e2 => (match e2.tak w with
            | some (y, e3) => if acc.length < lim then lcL c f ds (acc ++ [y]) e3 else .bad
            | none => .bad)) = _
          cases hf : f e' with
          | bad => rw [hf] at h1; cases h1
          | exc x e' => rw [hf] at h1; cases h1
          | ok w e3 =>
            rw [hf] at h1
            have h1 : (match e3.tak w with
              | some (y, e3) => R.ok (some y) e3
              | none => .bad) = .ok (some y) e1 := h1
            show (match e3.tak w with
              | some (y, e3) => if acc.length < lim then lcL c f ds (acc ++ [y]) e3 else .bad
              | none => .bad) = _
            cases ht : e3.tak w with
            | none => rw [ht] at h1; cases h1
            | some p =>
              obtain ⟨y', e4⟩ := p
              rw [ht] at h1
              cases h1
              dsimp only
              rw [if_pos hl2]
              exact h3
    · rw [List.length_cons]
      have : k + (ds.length + 1) = k + 1 + ds.length := by omega
      rw [this]
      exact h6
theorem oi_at {xs : List D} {i : Int} (n : Nat) (h : i = (n : Int)) (hl : n < xs.length) : opIx (.lst xs) (.int i) = xs[n]? := by
  subst h
  show L2.atI xs _ = _
  unfold L2.atI
  rw [ixN_of (by omega) (by omega)]
  simp
theorem oi_0 (x : D) (xs : List D) : opIx (.lst (x :: xs)) (.int 0) = some x := oi_at 0 rfl (by simp)
theorem oi_1 (x y : D) (xs : List D) : opIx (.lst (x :: y :: xs)) (.int 1) = some y := oi_at 1 rfl (by simp)
theorem oi_2 (x y z : D) (xs : List D) : opIx (.lst (x :: y :: z :: xs)) (.int 2) = some z := oi_at 2 rfl (by simp)
theorem oi_3 (x y z w : D) (xs : List D) : opIx (.lst (x :: y :: z :: w :: xs)) (.int 3) = some w := oi_at 3 rfl (by simp)
theorem oi_4 (x y z w v : D) (xs : List D) : opIx (.lst (x :: y :: z :: w :: v :: xs)) (.int 4) = some v := oi_at 4 rfl (by simp)
end Mi
namespace Mi
def St.hd : St → St
  | .seq a _ => a
  | s => s
def St.tl : St → St
  | .seq _ b => b
  | s => s
end Mi

set_option Elab.async false
set_option linter.all false
set_option maxRecDepth 100000
set_option maxHeartbeats 0
namespace K01
open PySem PySem.Spec PyProof.Rows L2 Mi
def top (i : Nat) : Stmt := PySem.Challenge.pw_rimsewn_k01_checks_of_any_value.main.body.getD i (.Pass ⟨0, 0, 0, 0⟩)
def dd (x : Str) (i : Nat) : He.DefD := ⟨(x, none), x, x, defArgs (top i), defBody (top i), defScope (top i), [], []⟩
/-- is_integer -/
def f0 : Fn := ⟨1, 1, [],
  (.ret (.and (.isi (.v 0) ["int"]) (.not (.isi (.v 0) ["bool"]))))⟩
def t0 : Df := ⟨dd "is_integer" 4, ["value"], ["value"], f0⟩
/-- is_within -/
def f1 : Fn := ⟨3, 3, [],
  (.seq (.ifs (.not (.call 0 (.cons (.v 0) .nil))) (.ret (.k (.bl false))) .skip) (.seq (.ifs (.and (.cmp .IsNot (.v 1) (.k .non)) (.cmp .Lt (.v 0) (.v 1))) (.ret (.k (.bl false))) .skip) (.ret (.or (.cmp .Is (.v 2) (.k .non)) (.cmp .LtE (.v 0) (.v 2))))))⟩
def t1 : Df := ⟨dd "is_within" 5, ["value", "least", "most"], ["value", "least", "most"], f1⟩
/-- is_kind -/
def f2 : Fn := ⟨1, 1, [],
  (.ret (.and (.isi (.v 0) ["str"]) (.cmp .In (.v 0) (.g "KINDS" (.tup [(.str "square"), (.str "triangle")])))))⟩
def t2 : Df := ⟨dd "is_kind" 6, ["value"], ["value"], f2⟩
/-- is_name -/
def f3 : Fn := ⟨2, 1, [],
  (.seq (.ifs (.or (.not (.isi (.v 0) ["str"])) (.not (.chain .LtE .LtE (.k (.int 1)) (.bi .len (.cons (.v 0) .nil)) (.k (.int 12))))) (.ret (.k (.bl false))) .skip) (.seq (.ifs (.cmp .NotIn (.ix (.v 0) (.k (.int 0))) (.g "LETTERS" (.str "abcdefghijklmnopqrstuvwxyz"))) (.ret (.k (.bl false))) .skip) (.seq (.fors (.one 1) (.v 0) (.ifs (.and (.cmp .NotIn (.v 1) (.g "LETTERS" (.str "abcdefghijklmnopqrstuvwxyz"))) (.cmp .NotIn (.v 1) (.g "DIGITS" (.str "0123456789")))) (.ret (.k (.bl false))) .skip)) (.ret (.k (.bl true))))))⟩
def t3 : Df := ⟨dd "is_name" 7, ["value", "sign"], ["value"], f3⟩
/-- is_row -/
def f4 : Fn := ⟨2, 1, [],
  (.seq (.ifs (.not (.isi (.v 0) ["list", "tuple"])) (.ret (.k (.bl false))) .skip) (.seq (.fors (.one 1) (.v 0) (.ifs (.not (.call 0 (.cons (.v 1) .nil))) (.ret (.k (.bl false))) .skip)) (.ret (.k (.bl true)))))⟩
def t4 : Df := ⟨dd "is_row" 8, ["value", "part"], ["value"], f4⟩
/-- first_twice -/
def f5 : Fn := ⟨3, 1, [],
  (.seq (.set 1 (.bi .set .nil)) (.seq (.fors (.one 2) (.v 0) (.seq (.ifs (.cmp .In (.v 2) (.v 1)) (.ret (.v 2)) .skip) (.drop (.me .add (.v 1) (.cons (.v 2) .nil))))) (.ret (.k .non))))⟩
def t5 : Df := ⟨dd "first_twice" 9, ["values", "seen", "value"], ["values"], f5⟩
/-- _law_pen -/
def f6 : Fn := ⟨2, 1, [],
  (.ret (.lst (.cons (.lc (.one 1) (.bi .int (.cons (.v 1) .nil)) (.sl (.v 0) .no (.k (.int 60))) (.k (.bl true))) (.cons (.k (.int 0)) (.cons (.k (.int 0)) .nil)))))⟩
def t6 : Df := ⟨dd "_law_pen" 14, ["_law_script", "_law_cell"], ["_law_script"], f6⟩
/-- _law_draw -/
def f7 : Fn := ⟨7, 2, [],
  (.seq (.ifs (.cmp .Gt (.ix (.v 0) (.k (.int 2))) (.k (.int 0))) (.seq (.set 2 (.op .Mod (.bi .int (.cons (.ix (.v 0) (.k (.int 2))) .nil)) (.v 1))) (.seq (.sub (.v 0) (.k (.int 2)) (.op .FloorDiv (.bi .int (.cons (.ix (.v 0) (.k (.int 2))) .nil)) (.v 1))) (.ret (.v 2)))) .skip) (.seq (.set 3 (.ix (.v 0) (.k (.int 1)))) (.seq (.sub (.v 0) (.k (.int 1)) (.op .Add (.v 3) (.k (.int 1)))) (.seq (.set 4 (.op .Add (.op .Mult (.k (.int 41719)) (.v 3)) (.k (.int 1327)))) (.seq (.ifs (.cmp .NotEq (.ix (.v 0) (.k (.int 0))) (.lst .nil)) (.set 4 (.ix (.ix (.v 0) (.k (.int 0))) (.op .Mod (.bi .int (.cons (.v 3) .nil)) (.bi .len (.cons (.ix (.v 0) (.k (.int 0))) .nil))))) .skip) (.seq (.ifs (.and (.cmp .Lt (.v 3) (.bi .len (.cons (.ix (.v 0) (.k (.int 0))) .nil))) (.cmp .GtE (.bi .abs (.cons (.v 4) .nil)) (.op .Pow (.k (.int 10)) (.k (.int 18))))) (.seq (.set 5 (.op .Add (.op .Mult (.k (.int 2)) (.op .Sub (.bi .abs (.cons (.v 4) .nil)) (.op .Pow (.k (.int 10)) (.k (.int 18))))) (.bi .int (.cons (.cmp .Lt (.v 4) (.k (.int 0))) .nil)))) (.seq (.sub (.v 0) (.k (.int 2)) (.op .FloorDiv (.bi .int (.cons (.v 5) .nil)) (.v 1))) (.ret (.op .Mod (.bi .int (.cons (.v 5) .nil)) (.v 1))))) .skip) (.seq (.set 6 (.op .Mod (.bi .int (.cons (.op .Pow (.op .Add (.op .Add (.op .Mod (.bi .int (.cons (.v 4) .nil)) (.k (.int 2147483549))) (.op .Mult (.k (.int 52361)) (.v 3))) (.k (.int 1327))) (.k (.int 5))) .nil)) (.k (.int 2147483647)))) (.seq (.set 6 (.op .Mod (.bi .int (.cons (.op .Pow (.op .Add (.op .Add (.op .Mult (.v 6) (.op .Add (.op .Mult (.k (.int 2)) (.v 3)) (.k (.int 1613)))) (.op .Mult (.op .Mult (.k (.int 41719)) (.v 3)) (.v 3))) (.k (.int 52361))) (.k (.int 3))) .nil)) (.k (.int 2147483489)))) (.ret (.op .Mod (.bi .int (.cons (.op .FloorDiv (.v 6) (.k (.int 64))) .nil)) (.v 1)))))))))))⟩
def t7 : Df := ⟨dd "_law_draw" 15, ["_law_pen_here", "_law_many", "_law_digit", "_law_at", "_law_cell", "_law_great", "_law_mixed"], ["_law_pen_here", "_law_many"], f7⟩
/-- _law_signs -/
def f8 : Fn := ⟨0, 0, [],
  (.ret (.k (.str " !\"#$&'()*+,-./0123456789:;<=>?@ABCDEFGHIJKLMNOPQRSTUVWXYZ[\\]^_`abcdefghijklmnopqrstuvwxyz{|}~")))⟩
def t8 : Df := ⟨dd "_law_signs" 16, [], [], f8⟩
/-- _law_text -/
def f9 : Fn := ⟨6, 1, [],
  (.seq (.par [1, 2, 3] (.cons (.call 8 .nil) (.cons (.k (.str "abcdefghijklmnopqrstuvwxyz0123456789")) (.cons (.call 7 (.cons (.v 0) (.cons (.k (.int 4)) .nil))) .nil)))) (.seq (.ifs (.cmp .Eq (.v 3) (.k (.int 0))) (.ret (.ix (.lst (.cons (.k (.str "square")) (.cons (.k (.str "triangle")) (.cons (.k (.str "squares")) (.cons (.k (.str "Square")) (.cons (.k (.str "triangl")) (.cons (.k (.str "triangle ")) (.cons (.k (.str "squar")) (.cons (.k (.str "trianglesquare")) .nil))))))))) (.call 7 (.cons (.v 0) (.cons (.k (.int 8)) .nil))))) .skip) (.seq (.set 4 (.k (.str ""))) (.seq (.fors (.one 5) (.rng1 (.call 7 (.cons (.v 0) (.cons (.k (.int 15)) .nil)))) (.set 4 (.op .Add (.v 4) (.ife (.cmp .Lt (.v 3) (.k (.int 3))) (.ix (.v 2) (.call 7 (.cons (.v 0) (.cons (.k (.int 36)) .nil)))) (.ix (.v 1) (.call 7 (.cons (.v 0) (.cons (.bi .len (.cons (.v 1) .nil)) .nil)))))))) (.seq (.ifs (.and (.cmp .Eq (.v 3) (.k (.int 2))) (.cmp .NotEq (.v 4) (.k (.str "")))) (.seq (.set 5 (.call 7 (.cons (.v 0) (.cons (.bi .len (.cons (.v 4) .nil)) .nil)))) (.set 4 (.op .Add (.op .Add (.sl (.v 4) .no (.v 5)) (.ix (.op .Add (.v 1) (.k (.str "\n\t"))) (.call 7 (.cons (.v 0) (.cons (.op .Add (.bi .len (.cons (.v 1) .nil)) (.k (.int 2))) .nil))))) (.sl (.v 4) (.op .Add (.v 5) (.k (.int 1))) .no)))) .skip) (.seq (.ifs (.cmp .Eq (.call 7 (.cons (.v 0) (.cons (.k (.int 6)) .nil))) (.k (.int 0))) (.seq (.set 5 (.call 7 (.cons (.v 0) (.cons (.op .Add (.bi .len (.cons (.v 4) .nil)) (.k (.int 1))) .nil)))) (.set 4 (.op .Add (.op .Add (.sl (.v 4) .no (.v 5)) (.ix (.lst (.cons (.k (.str "\n")) (.cons (.k (.str "\t")) (.cons (.k (.str " ")) .nil)))) (.call 7 (.cons (.v 0) (.cons (.k (.int 3)) .nil))))) (.sl (.v 4) (.v 5) .no)))) .skip) (.ret (.v 4))))))))⟩
def t9 : Df := ⟨dd "_law_text" 17, ["_law_pen_here", "_law_signs_here", "_law_small", "_law_kind", "_law_made", "_law_at"], ["_law_pen_here"], f9⟩
/-- _law_number -/
def f10 : Fn := ⟨1, 1, [],
  (.seq (.ifs (.cmp .Eq (.call 7 (.cons (.v 0) (.cons (.k (.int 3)) .nil))) (.k (.int 0))) (.ret (.op .Sub (.call 7 (.cons (.v 0) (.cons (.op .Pow (.k (.int 10)) (.k (.int 40))) .nil))) (.op .Pow (.k (.int 10)) (.k (.int 39))))) .skip) (.ret (.op .Sub (.call 7 (.cons (.v 0) (.cons (.k (.int 60)) .nil))) (.k (.int 20)))))⟩
def t10 : Df := ⟨dd "_law_number" 18, ["_law_pen_here"], ["_law_pen_here"], f10⟩
/-- _law_simple -/
def f11 : Fn := ⟨2, 1, [],
  (.seq (.set 1 (.call 7 (.cons (.v 0) (.cons (.k (.int 7)) .nil)))) (.seq (.ifs (.cmp .Lt (.v 1) (.k (.int 3))) (.ret (.call 10 (.cons (.v 0) .nil))) .skip) (.seq (.ifs (.cmp .Lt (.v 1) (.k (.int 5))) (.ret (.call 9 (.cons (.v 0) .nil))) .skip) (.ret (.ife (.cmp .Eq (.v 1) (.k (.int 5))) (.ix (.lst (.cons (.k (.bl true)) (.cons (.k (.bl false)) (.cons (.k .non) .nil)))) (.call 7 (.cons (.v 0) (.cons (.k (.int 3)) .nil)))) (.mk "Nothing"))))))⟩
def t11 : Df := ⟨dd "_law_simple" 19, ["_law_pen_here", "_law_kind"], ["_law_pen_here"], f11⟩
/-- _law_row -/
def f12 : Fn := ⟨3, 1, [],
  (.seq (.set 1 (.lc (.one 2) (.call 10 (.cons (.v 0) .nil)) (.rng1 (.call 7 (.cons (.v 0) (.cons (.k (.int 9)) .nil)))) (.k (.bl true)))) (.seq (.ifs (.and (.cmp .Eq (.call 7 (.cons (.v 0) (.cons (.k (.int 2)) .nil))) (.k (.int 1))) (.cmp .NotEq (.v 1) (.lst .nil))) (.sub (.v 1) (.call 7 (.cons (.v 0) (.cons (.bi .len (.cons (.v 1) .nil)) .nil))) (.call 11 (.cons (.v 0) .nil))) .skip) (.ret (.v 1))))⟩
def t12 : Df := ⟨dd "_law_row" 20, ["_law_pen_here", "_law_row_here", "_law_at"], ["_law_pen_here"], f12⟩
/-- _law_plain -/
def f13 : Fn := ⟨1, 1, [],
  (.ret (.and (.isi (.v 0) ["int"]) (.not (.isi (.v 0) ["bool"]))))⟩
def t13 : Df := ⟨dd "_law_plain" 21, ["_law_value"], ["_law_value"], f13⟩
/-- _law_names -/
def f14 : Fn := ⟨2, 1, [],
  (.seq (.ifs (.or (.not (.isi (.v 0) ["str"])) (.or (.cmp .Lt (.bi .len (.cons (.v 0) .nil)) (.k (.int 1))) (.or (.cmp .Gt (.bi .len (.cons (.v 0) .nil)) (.k (.int 12))) (.cmp .NotIn (.ix (.v 0) (.k (.int 0))) (.k (.str "abcdefghijklmnopqrstuvwxyz")))))) (.ret (.k (.bl false))) .skip) (.ret (.cmp .Eq (.lc (.one 1) (.v 1) (.v 0) (.cmp .NotIn (.v 1) (.k (.str "0123456789abcdefghijklmnopqrstuvwxyz")))) (.lst .nil))))⟩
def t14 : Df := ⟨dd "_law_names" 22, ["_law_value", "_law_sign"], ["_law_value"], f14⟩
/-- _law_one_right -/
def f15 : Fn := ⟨7, 1, [],
  (.seq (.set 1 (.isi (.v 0) ["list", "tuple"])) (.seq (.ifs (.v 1) (.set 1 (.cmp .Eq (.lc (.one 2) (.v 2) (.v 0) (.not (.call 13 (.cons (.v 2) .nil)))) (.lst .nil))) .skip) (.seq (.set 3 (.and (.isi (.v 0) ["str"]) (.cmp .In (.v 0) (.tup (.cons (.k (.str "square")) (.cons (.k (.str "triangle")) .nil)))))) (.seq (.set 4 (.lst (.cons (.call 0 (.cons (.v 0) .nil)) (.cons (.call 3 (.cons (.v 0) .nil)) (.cons (.call 4 (.cons (.v 0) .nil)) (.cons (.call 2 (.cons (.v 0) .nil)) (.cons (.call 1 (.cons (.v 0) (.cons (.k .non) (.cons (.k .non) .nil)))) .nil))))))) (.seq (.fors (.many [5, 6]) (.zp (.v 4) (.lst (.cons (.call 13 (.cons (.v 0) .nil)) (.cons (.call 14 (.cons (.v 0) .nil)) (.cons (.v 1) (.cons (.v 3) (.cons (.call 13 (.cons (.v 0) .nil)) .nil))))))) (.ifs (.or (.not (.isi (.v 5) ["bool"])) (.cmp .NotEq (.v 5) (.v 6))) (.ret (.k (.bl false))) .skip)) (.ret (.and (.cmp .Eq (.callk 0 .nil (.cons (.v 0) .nil) [0]) (.ix (.v 4) (.k (.int 0)))) (.and (.cmp .Eq (.callk 3 .nil (.cons (.v 0) .nil) [0]) (.ix (.v 4) (.k (.int 1)))) (.cmp .Eq (.callk 2 .nil (.cons (.v 0) .nil) [0]) (.ix (.v 4) (.k (.int 3))))))))))))⟩
def t15 : Df := ⟨dd "_law_one_right" 23, ["_law_value", "_law_rows", "_law_part", "_law_kinds", "_law_told", "_law_answer", "_law_due"], ["_law_value"], f15⟩
/-- _law_bounds_right -/
def f16 : Fn := ⟨7, 2, [],
  (.seq (.set 2 (.ife (.call 13 (.cons (.v 1) .nil)) (.v 1) (.call 10 (.cons (.v 0) .nil)))) (.seq (.fors (.one 3) (.tup (.cons (.k .non) (.cons (.op .Sub (.v 2) (.k (.int 1))) (.cons (.v 2) (.cons (.op .Add (.v 2) (.k (.int 1))) (.cons (.call 10 (.cons (.v 0) .nil)) .nil)))))) (.fors (.one 4) (.tup (.cons (.k .non) (.cons (.op .Sub (.v 2) (.k (.int 1))) (.cons (.v 2) (.cons (.op .Add (.v 2) (.k (.int 1))) (.cons (.call 10 (.cons (.v 0) .nil)) .nil)))))) (.seq (.set 5 (.call 13 (.cons (.v 1) .nil))) (.seq (.ifs (.and (.v 5) (.cmp .IsNot (.v 3) (.k .non))) (.set 5 (.cmp .LtE (.v 3) (.v 1))) .skip) (.seq (.ifs (.and (.v 5) (.cmp .IsNot (.v 4) (.k .non))) (.set 5 (.cmp .LtE (.v 1) (.v 4))) .skip) (.seq (.set 6 (.call 1 (.cons (.v 1) (.cons (.v 3) (.cons (.v 4) .nil))))) (.ifs (.or (.not (.isi (.v 6) ["bool"])) (.or (.cmp .NotEq (.v 6) (.v 5)) (.cmp .NotEq (.callk 1 .nil (.cons (.v 4) (.cons (.v 1) (.cons (.v 3) .nil))) [1, 2, 0]) (.v 5)))) (.ret (.k (.bl false))) .skip))))))) (.ret (.k (.bl true)))))⟩
def t16 : Df := ⟨dd "_law_bounds_right" 24, ["_law_pen_here", "_law_value", "_law_middle", "_law_low", "_law_high", "_law_due", "_law_told"], ["_law_pen_here", "_law_value"], f16⟩
/-- _law_twice_right -/
def f17 : Fn := ⟨9, 1, [],
  (.seq (.set 1 (.lc (.one 2) (.op .Sub (.call 7 (.cons (.v 0) (.cons (.k (.int 20)) .nil))) (.k (.int 6))) (.rng1 (.call 7 (.cons (.v 0) (.cons (.k (.int 17)) .nil)))) (.k (.bl true)))) (.seq (.set 3 (.lc (.one 2) (.call 9 (.cons (.v 0) .nil)) (.rng1 (.call 7 (.cons (.v 0) (.cons (.k (.int 7)) .nil)))) (.k (.bl true)))) (.seq (.ifs (.cmp .NotEq (.v 3) (.lst .nil)) (.drop (.me .append (.v 3) (.cons (.ix (.v 3) (.call 7 (.cons (.v 0) (.cons (.bi .len (.cons (.v 3) .nil)) .nil)))) .nil))) .skip) (.seq (.fors (.one 4) (.tup (.cons (.v 1) (.cons (.v 3) (.cons (.sl (.v 3) .no (.neg (.k (.int 1)))) (.cons (.lst .nil) (.cons (.lst (.cons (.k (.str "")) (.cons (.k (.str "")) .nil))) (.cons (.lst (.cons (.k (.str "1")) (.cons (.k (.str "2")) .nil))) (.cons (.lst (.cons (.k (.int 0)) (.cons (.neg (.k (.int 1))) (.cons (.k (.int 0)) (.cons (.neg (.k (.int 1))) .nil))))) .nil)))))))) (.seq (.par [6, 7] (.cons (.k .non) (.cons (.bi .list (.cons (.v 4) .nil)) .nil))) (.seq (.fors (.many [2, 8]) (.en (.v 4)) (.ifs (.and (.cmp .Is (.v 6) (.k .non)) (.cmp .In (.v 8) (.sl (.v 4) .no (.v 2)))) (.set 6 (.v 8)) .skip)) (.seq (.fors (.one 5) (.tup (.cons (.call 5 (.cons (.v 4) .nil)) (.cons (.call 5 (.cons (.bi .tuple (.cons (.v 4) .nil)) .nil)) .nil))) (.ifs (.or (.cmp .NotEq (.v 5) (.v 6)) (.cmp .NotEq (.cmp .Is (.v 5) (.k .non)) (.cmp .Is (.v 6) (.k .non)))) (.ret (.k (.bl false))) .skip)) (.ifs (.cmp .NotEq (.v 4) (.v 7)) (.ret (.k (.bl false))) .skip))))) (.ret (.k (.bl true)))))))⟩
def t17 : Df := ⟨dd "_law_twice_right" 25, ["_law_pen_here", "_law_numbers", "_law_at", "_law_words", "_law_values", "_law_told", "_law_due", "_law_passed", "_law_value"], ["_law_pen_here"], f17⟩
/-- law -/
def f18 : Fn := ⟨5, 1, [],
  (.seq (.set 1 (.call 6 (.cons (.v 0) .nil))) (.seq (.set 2 (.call 12 (.cons (.v 1) .nil))) (.seq (.set 3 (.lst (.cons (.call 11 (.cons (.v 1) .nil)) (.cons (.call 9 (.cons (.v 1) .nil)) (.cons (.v 2) (.cons (.bi .tuple (.cons (.v 2) .nil)) (.cons (.call 11 (.cons (.v 1) .nil)) (.cons (.lst (.cons (.v 2) .nil)) (.cons (.lst (.cons (.bi .tuple (.cons (.v 2) .nil)) (.cons (.k (.int 1)) .nil))) .nil))))))))) (.seq (.drop (.me .extend (.v 3) (.cons (.lst (.cons (.lst .nil) (.cons (.tup .nil) (.cons (.k (.str "")) (.cons (.k (.str "a")) (.cons (.k (.str "z9")) (.cons (.k (.str "9z")) (.cons (.op .Mult (.k (.str "a")) (.k (.int 12))) (.cons (.op .Mult (.k (.str "a")) (.k (.int 13))) (.cons (.k (.bl true)) (.cons (.k (.bl false)) (.cons (.k (.int 0)) (.cons (.neg (.k (.int 1))) (.cons (.k .non) (.cons (.lst (.cons (.k (.bl true)) .nil)) (.cons (.tup (.cons (.k (.int 0)) .nil)) (.cons (.k (.str "squaretriangle")) .nil))))))))))))))))) .nil))) (.seq (.drop (.me .extend (.v 3) (.cons (.lst (.cons (.k (.str "a\n")) (.cons (.k (.str "\na")) (.cons (.k (.str "a\tb")) (.cons (.k (.str "square\n")) (.cons (.k (.str "triangle ")) (.cons (.k (.str " square")) (.cons (.k (.str "\n")) (.cons (.op .Add (.op .Mult (.k (.str "a")) (.k (.int 12))) (.k (.str "\n"))) (.cons (.op .Add (.op .Mult (.k (.str "z")) (.k (.int 11))) (.k (.str "\n"))) .nil)))))))))) .nil))) (.seq (.fors (.one 4) (.v 3) (.ifs (.not (.call 15 (.cons (.v 4) .nil))) (.ret (.k (.bl false))) .skip)) (.seq (.fors (.one 4) (.tup (.cons (.ix (.v 3) (.k (.int 0))) (.cons (.ix (.v 3) (.k (.int 1))) (.cons (.ix (.v 3) (.k (.int 4))) (.cons (.v 2) (.cons (.k (.bl true)) (.cons (.k (.bl false)) (.cons (.k (.int 0)) (.cons (.k .non) .nil))))))))) (.ifs (.not (.call 16 (.cons (.v 1) (.cons (.v 4) .nil)))) (.ret (.k (.bl false))) .skip)) (.ret (.call 17 (.cons (.v 1) .nil))))))))))⟩
def t18 : Df := ⟨dd "law" 26, ["_law_script", "_law_pen_here", "_law_row_here", "_law_values", "_law_value"], ["_law_script"], f18⟩
def dfs : List Df := [t0, t1, t2, t3, t4, t5, t6, t7, t8, t9, t10, t11, t12, t13, t14, t15, t16, t17, t18]
def nm : List (Str × GK) := [("is_integer", .fn 0 1 1 ["value"]),
  ("is_within", .fn 1 3 3 ["value", "least", "most"]),
  ("is_kind", .fn 2 1 1 ["value"]),
  ("is_name", .fn 3 1 1 ["value"]),
  ("is_row", .fn 4 1 1 ["value"]),
  ("first_twice", .fn 5 1 1 ["values"]),
  ("_law_pen", .fn 6 1 1 ["_law_script"]),
  ("_law_draw", .fn 7 2 2 ["_law_pen_here", "_law_many"]),
  ("_law_signs", .fn 8 0 0 []),
  ("_law_text", .fn 9 1 1 ["_law_pen_here"]),
  ("_law_number", .fn 10 1 1 ["_law_pen_here"]),
  ("_law_simple", .fn 11 1 1 ["_law_pen_here"]),
  ("_law_row", .fn 12 1 1 ["_law_pen_here"]),
  ("_law_plain", .fn 13 1 1 ["_law_value"]),
  ("_law_names", .fn 14 1 1 ["_law_value"]),
  ("_law_one_right", .fn 15 1 1 ["_law_value"]),
  ("_law_bounds_right", .fn 16 2 2 ["_law_pen_here", "_law_value"]),
  ("_law_twice_right", .fn 17 1 1 ["_law_pen_here"]),
  ("law", .fn 18 1 1 ["_law_script"]),
  ("DIGITS", .cst (.str "0123456789")),
  ("KINDS", .cst (.tup [(.str "square"), (.str "triangle")])),
  ("LETTERS", .cst (.str "abcdefghijklmnopqrstuvwxyz")),
  ("Nothing", .exc)]
def fr : List Str := ["abs", "bool", "enumerate", "int", "isinstance", "len", "list", "range", "set", "str", "tuple", "zip"]
theorem okA : dfs.all (Df.okB nm fr) = true := by decide +kernel
theorem okN : nmB dfs nm = true := by decide +kernel
end K01

namespace K01
abbrev T : Nat → Option Mi.Fn := Mi.tabT dfs
end K01

set_option Elab.async false
set_option linter.all false
set_option maxRecDepth 100000
set_option maxHeartbeats 0
namespace K01
open PySem L2 Mi
/-- the pen -/
def pen (cs : List Int) (at_ gr : Int) : D := .lst [.lst (cs.map D.int), .int at_, .int gr]
def PenOk (b : Int) (d : D) : Prop := ∃ cs a g, d = pen cs a g ∧ 0 ≤ a ∧ a ≤ b ∧ 0 ≤ g
theorem PenOk.mono {b c : Int} {d : D} (h : PenOk b d) (hc : b ≤ c) : PenOk c d := by
  obtain ⟨cs, a, g, e, h1, h2, h3⟩ := h
  exact ⟨cs, a, g, e, h1, by omega, h3⟩
def absI (c : Int) : Int := if c < 0 then -c else c
def great (c : Int) : Int := 2 * (absI c - 1000000000000000000) + (if c < 0 then 1 else 0)
def mix1 (c a : Int) : Int := (c % 2147483549 + 52361 * a + 1327) ^ 5 % 2147483647
def mix2 (c a : Int) : Int := (mix1 c a * (2 * a + 1613) + 41719 * a * a + 52361) ^ 3 % 2147483489
theorem mb1 {a b c : Int} (ha : 0 ≤ a) (hb : a ≤ b) (hc : b < 1000000) : (c % 2147483549 + 52361 * a + 1327).natAbs < 18446744073709551616 := by
  have := Int.emod_nonneg c (show (2147483549 : Int) ≠ 0 by decide)
  have := Int.emod_lt_of_pos c (show (0 : Int) < 2147483549 by decide)
  omega
theorem mb2 {a b c : Int} (ha : 0 ≤ a) (hb : a ≤ b) (hc : b < 1000000) : (mix1 c a * (2 * a + 1613) + 41719 * a * a + 52361).natAbs < 18446744073709551616 := by
  have h1 : 0 ≤ mix1 c a := Int.emod_nonneg _ (show (2147483647 : Int) ≠ 0 by decide)
  have h2 : mix1 c a < 2147483647 := Int.emod_lt_of_pos _ (show (0 : Int) < 2147483647 by decide)
  have h3 : mix1 c a * (2 * a + 1613) ≤ 2147483647 * 2001613 := Int.mul_le_mul (by omega) (by omega) (by omega) (by omega)
  have h4 : 0 ≤ mix1 c a * (2 * a + 1613) := Int.mul_nonneg h1 (by omega)
  have h5 : 41719 * a * a ≤ 41719 * 1000000 * 1000000 := Int.mul_le_mul (by omega) (by omega) ha (by omega)
  have h6 : 0 ≤ 41719 * a * a := Int.mul_nonneg (by omega) ha
  omega
theorem draw_run (cal : Cal) {b m : Int} {p : D} (hp : PenOk b p) (hb : b < 1000000) (hm : 0 < m) (hm2 : m.natAbs.log2 < 9000) :
    ∃ v p', runF cal f7 [(p, true), (.int m, false)] = .ok (.int v) false [(p', true), (.int m, false)] ∧ PenOk (b + 1) p' ∧ 0 ≤ v ∧ v < m := by
  obtain ⟨cs, a, g, rfl, ha, hab, hg⟩ := hp
  have hmod : ∀ x : Int, 0 ≤ x % m ∧ x % m < m := fun x => ⟨Int.emod_nonneg _ (by omega), Int.emod_lt_of_pos _ hm⟩
  by_cases hg0 : 0 < g
  · exact ⟨g % m, pen cs a (g / m), by simp [bndD_ok, bndD_exc, bndD_bad, stD_ok, stD_exc, stD_bad, sqD_nx, sqD_brk, sqD_cnt, sqD_ret, sqD_exc, sqD_bad, runF, env0, slotsOf, evS_seqD, evS_ifsD, evS_skip, evS_setD, evS_subD, evS_retD, evS_dropD, evS_parD, evT_k, evT_v, evT_cmp, evT_call, evT_isi, evT_chain, evT_andD, evT_orD, evT_notD, bT_defD, evO_k, evO_v, evO_op, evO_neg, evO_no, bO_defD, evE_k, evE_v, evE_g, evE_opD, evE_negD, evE_cmpD, evE_chainD, evE_andD, evE_orD, evE_notD, evE_ifeD, evE_tupD, evE_lstD, evE_ixD, evE_slD, evE_biD, evE_meD, evE_callD, evE_callkD, evE_isiD, evE_mk, evA_consD, evA_nil, Env.at, Env.cur, Env.curs, Env.see, Env.store, Env.setS, Env.tak, Env.taks, Env.put, Env.hand, Env.back, Env.holds, Env.setWs, Env.setW, sameKey, Env.okey, Env.fz, fzb, oi_0, oi_1, oi_2, oi_3, oi_4, L2.ixN, truth, biOp, ob_add, ob_sub, ob_cat, oc_lt, oc_le, oc_gt, oc_ge, oc_eq, oc_ne, oc_in, oc_nin, oc_is, oc_isn, eq_int, eq_bl, eq_nil, isNonD, f7, pen, hg0, hm, hm2, ob_mod, ob_div], ⟨cs, a, g / m, rfl, ha, by omega, Int.ediv_nonneg hg (by omega)⟩, hmod _⟩
  · have hq : Nat.log2 64 < 9000 := by decide
    have hy : (2 * a + 1613).natAbs < 9223372036854775808 := by omega
    have hz : (41719 * a).natAbs < 9223372036854775808 := by omega
    cases cs with
    | nil =>
      have h1 : ¬ a < 0 := by omega
      have b1 := mb1 (c := 41719 * a + 1327) ha hab hb
      have b2 := mb2 (c := 41719 * a + 1327) ha hab hb
      unfold mix1 at b2
      refine ⟨mix2 (41719 * a + 1327) a / 64 % m, pen [] (a + 1) g, ?_, ⟨[], a + 1, g, rfl, by omega, by omega, hg⟩, hmod _⟩
      simp [bndD_ok, bndD_exc, bndD_bad, stD_ok, stD_exc, stD_bad, sqD_nx, sqD_brk, sqD_cnt, sqD_ret, sqD_exc, sqD_bad, runF, env0, slotsOf, evS_seqD, evS_ifsD, evS_skip, evS_setD, evS_subD, evS_retD, evS_dropD, evS_parD, evT_k, evT_v, evT_cmp, evT_call, evT_isi, evT_chain, evT_andD, evT_orD, evT_notD, bT_defD, evO_k, evO_v, evO_op, evO_neg, evO_no, bO_defD, evE_k, evE_v, evE_g, evE_opD, evE_negD, evE_cmpD, evE_chainD, evE_andD, evE_orD, evE_notD, evE_ifeD, evE_tupD, evE_lstD, evE_ixD, evE_slD, evE_biD, evE_meD, evE_callD, evE_callkD, evE_isiD, evE_mk, evA_consD, evA_nil, Env.at, Env.cur, Env.curs, Env.see, Env.store, Env.setS, Env.tak, Env.taks, Env.put, Env.hand, Env.back, Env.holds, Env.setWs, Env.setW, sameKey, Env.okey, Env.fz, fzb, oi_0, oi_1, oi_2, oi_3, oi_4, L2.ixN, truth, biOp, ob_add, ob_sub, ob_cat, oc_lt, oc_le, oc_gt, oc_ge, oc_eq, oc_ne, oc_in, oc_nin, oc_is, oc_isn, eq_int, eq_bl, eq_nil, isNonD, f7, pen, hg0, hm, hm2, ob_mod, ob_div, ob_mulL, ob_mulR, h1, ob_pow, b1, b2, mix1, mix2, hy, hz, hq]
    | cons c0 cs =>
      have hl : (0 : Int) < cs.length + 1 := by omega
      obtain ⟨d, hd, hmem⟩ := ix_lst (xs := D.int c0 :: cs.map D.int) (i := a % (cs.length + 1)) (Int.emod_nonneg _ (by omega)) (by
        have := Int.emod_lt_of_pos a hl
        simp
        exact this)
      have hc : ∃ c, d = .int c := by
        rcases List.mem_cons.mp hmem with h | h
        · exact ⟨_, h⟩
        · obtain ⟨c, _, h⟩ := List.mem_map.mp h
          exact ⟨c, h.symm⟩
      obtain ⟨c, rfl⟩ := hc
      have b1 := mb1 (c := c) ha hab hb
      have b2 := mb2 (c := c) ha hab hb
      unfold mix1 at b2
      have hgr : 1000000000000000000 ≤ absI c → 0 ≤ great c := fun h => by unfold great; split <;> omega
      have fin : ∀ k : Int, PenOk (b + 1) (pen (c0 :: cs) (a + 1) g) := fun _ => ⟨_, _, _, rfl, by omega, by omega, hg⟩
      by_cases h1 : a < cs.length + 1
      · by_cases h3 : c < 0
        · by_cases h2 : 1000000000000000000 ≤ -c
          · have h4 := hgr (by unfold absI; rw [if_pos h3]; exact h2)
            refine ⟨great c % m, pen (c0 :: cs) (a + 1) (great c / m), ?_, ⟨_, _, _, rfl, by omega, by omega, Int.ediv_nonneg h4 (by omega)⟩, hmod _⟩
            simp [bndD_ok, bndD_exc, bndD_bad, stD_ok, stD_exc, stD_bad, sqD_nx, sqD_brk, sqD_cnt, sqD_ret, sqD_exc, sqD_bad, runF, env0, slotsOf, evS_seqD, evS_ifsD, evS_skip, evS_setD, evS_subD, evS_retD, evS_dropD, evS_parD, evT_k, evT_v, evT_cmp, evT_call, evT_isi, evT_chain, evT_andD, evT_orD, evT_notD, bT_defD, evO_k, evO_v, evO_op, evO_neg, evO_no, bO_defD, evE_k, evE_v, evE_g, evE_opD, evE_negD, evE_cmpD, evE_chainD, evE_andD, evE_orD, evE_notD, evE_ifeD, evE_tupD, evE_lstD, evE_ixD, evE_slD, evE_biD, evE_meD, evE_callD, evE_callkD, evE_isiD, evE_mk, evA_consD, evA_nil, Env.at, Env.cur, Env.curs, Env.see, Env.store, Env.setS, Env.tak, Env.taks, Env.put, Env.hand, Env.back, Env.holds, Env.setWs, Env.setW, sameKey, Env.okey, Env.fz, fzb, oi_0, oi_1, oi_2, oi_3, oi_4, L2.ixN, truth, biOp, ob_add, ob_sub, ob_cat, oc_lt, oc_le, oc_gt, oc_ge, oc_eq, oc_ne, oc_in, oc_nin, oc_is, oc_isn, eq_int, eq_bl, eq_nil, isNonD, f7, pen, hg0, hm, hm2, ob_mod, ob_div, ob_mulL, ob_mulR, h1, ob_pow, h2, hd, great, absI, h3, hl]
          · refine ⟨mix2 c a / 64 % m, pen (c0 :: cs) (a + 1) g, ?_, fin 0, hmod _⟩
            simp [bndD_ok, bndD_exc, bndD_bad, stD_ok, stD_exc, stD_bad, sqD_nx, sqD_brk, sqD_cnt, sqD_ret, sqD_exc, sqD_bad, runF, env0, slotsOf, evS_seqD, evS_ifsD, evS_skip, evS_setD, evS_subD, evS_retD, evS_dropD, evS_parD, evT_k, evT_v, evT_cmp, evT_call, evT_isi, evT_chain, evT_andD, evT_orD, evT_notD, bT_defD, evO_k, evO_v, evO_op, evO_neg, evO_no, bO_defD, evE_k, evE_v, evE_g, evE_opD, evE_negD, evE_cmpD, evE_chainD, evE_andD, evE_orD, evE_notD, evE_ifeD, evE_tupD, evE_lstD, evE_ixD, evE_slD, evE_biD, evE_meD, evE_callD, evE_callkD, evE_isiD, evE_mk, evA_consD, evA_nil, Env.at, Env.cur, Env.curs, Env.see, Env.store, Env.setS, Env.tak, Env.taks, Env.put, Env.hand, Env.back, Env.holds, Env.setWs, Env.setW, sameKey, Env.okey, Env.fz, fzb, oi_0, oi_1, oi_2, oi_3, oi_4, L2.ixN, truth, biOp, ob_add, ob_sub, ob_cat, oc_lt, oc_le, oc_gt, oc_ge, oc_eq, oc_ne, oc_in, oc_nin, oc_is, oc_isn, eq_int, eq_bl, eq_nil, isNonD, f7, pen, hg0, hm, hm2, ob_mod, ob_div, ob_mulL, ob_mulR, h1, ob_pow, h2, hd, h3, hl, b1, b2, mix1, mix2, hy, hz, hq]
        · by_cases h2 : 1000000000000000000 ≤ c
          · have h4 := hgr (by unfold absI; rw [if_neg h3]; exact h2)
            refine ⟨great c % m, pen (c0 :: cs) (a + 1) (great c / m), ?_, ⟨_, _, _, rfl, by omega, by omega, Int.ediv_nonneg h4 (by omega)⟩, hmod _⟩
            simp [bndD_ok, bndD_exc, bndD_bad, stD_ok, stD_exc, stD_bad, sqD_nx, sqD_brk, sqD_cnt, sqD_ret, sqD_exc, sqD_bad, runF, env0, slotsOf, evS_seqD, evS_ifsD, evS_skip, evS_setD, evS_subD, evS_retD, evS_dropD, evS_parD, evT_k, evT_v, evT_cmp, evT_call, evT_isi, evT_chain, evT_andD, evT_orD, evT_notD, bT_defD, evO_k, evO_v, evO_op, evO_neg, evO_no, bO_defD, evE_k, evE_v, evE_g, evE_opD, evE_negD, evE_cmpD, evE_chainD, evE_andD, evE_orD, evE_notD, evE_ifeD, evE_tupD, evE_lstD, evE_ixD, evE_slD, evE_biD, evE_meD, evE_callD, evE_callkD, evE_isiD, evE_mk, evA_consD, evA_nil, Env.at, Env.cur, Env.curs, Env.see, Env.store, Env.setS, Env.tak, Env.taks, Env.put, Env.hand, Env.back, Env.holds, Env.setWs, Env.setW, sameKey, Env.okey, Env.fz, fzb, oi_0, oi_1, oi_2, oi_3, oi_4, L2.ixN, truth, biOp, ob_add, ob_sub, ob_cat, oc_lt, oc_le, oc_gt, oc_ge, oc_eq, oc_ne, oc_in, oc_nin, oc_is, oc_isn, eq_int, eq_bl, eq_nil, isNonD, f7, pen, hg0, hm, hm2, ob_mod, ob_div, ob_mulL, ob_mulR, h1, ob_pow, h2, hd, great, absI, h3, hl]
          · refine ⟨mix2 c a / 64 % m, pen (c0 :: cs) (a + 1) g, ?_, fin 0, hmod _⟩
            simp [bndD_ok, bndD_exc, bndD_bad, stD_ok, stD_exc, stD_bad, sqD_nx, sqD_brk, sqD_cnt, sqD_ret, sqD_exc, sqD_bad, runF, env0, slotsOf, evS_seqD, evS_ifsD, evS_skip, evS_setD, evS_subD, evS_retD, evS_dropD, evS_parD, evT_k, evT_v, evT_cmp, evT_call, evT_isi, evT_chain, evT_andD, evT_orD, evT_notD, bT_defD, evO_k, evO_v, evO_op, evO_neg, evO_no, bO_defD, evE_k, evE_v, evE_g, evE_opD, evE_negD, evE_cmpD, evE_chainD, evE_andD, evE_orD, evE_notD, evE_ifeD, evE_tupD, evE_lstD, evE_ixD, evE_slD, evE_biD, evE_meD, evE_callD, evE_callkD, evE_isiD, evE_mk, evA_consD, evA_nil, Env.at, Env.cur, Env.curs, Env.see, Env.store, Env.setS, Env.tak, Env.taks, Env.put, Env.hand, Env.back, Env.holds, Env.setWs, Env.setW, sameKey, Env.okey, Env.fz, fzb, oi_0, oi_1, oi_2, oi_3, oi_4, L2.ixN, truth, biOp, ob_add, ob_sub, ob_cat, oc_lt, oc_le, oc_gt, oc_ge, oc_eq, oc_ne, oc_in, oc_nin, oc_is, oc_isn, eq_int, eq_bl, eq_nil, isNonD, f7, pen, hg0, hm, hm2, ob_mod, ob_div, ob_mulL, ob_mulR, h1, ob_pow, h2, hd, h3, hl, b1, b2, mix1, mix2, hy, hz, hq]
      · refine ⟨mix2 c a / 64 % m, pen (c0 :: cs) (a + 1) g, ?_, fin 0, hmod _⟩
        simp [bndD_ok, bndD_exc, bndD_bad, stD_ok, stD_exc, stD_bad, sqD_nx, sqD_brk, sqD_cnt, sqD_ret, sqD_exc, sqD_bad, runF, env0, slotsOf, evS_seqD, evS_ifsD, evS_skip, evS_setD, evS_subD, evS_retD, evS_dropD, evS_parD, evT_k, evT_v, evT_cmp, evT_call, evT_isi, evT_chain, evT_andD, evT_orD, evT_notD, bT_defD, evO_k, evO_v, evO_op, evO_neg, evO_no, bO_defD, evE_k, evE_v, evE_g, evE_opD, evE_negD, evE_cmpD, evE_chainD, evE_andD, evE_orD, evE_notD, evE_ifeD, evE_tupD, evE_lstD, evE_ixD, evE_slD, evE_biD, evE_meD, evE_callD, evE_callkD, evE_isiD, evE_mk, evA_consD, evA_nil, Env.at, Env.cur, Env.curs, Env.see, Env.store, Env.setS, Env.tak, Env.taks, Env.put, Env.hand, Env.back, Env.holds, Env.setWs, Env.setW, sameKey, Env.okey, Env.fz, fzb, oi_0, oi_1, oi_2, oi_3, oi_4, L2.ixN, truth, biOp, ob_add, ob_sub, ob_cat, oc_lt, oc_le, oc_gt, oc_ge, oc_eq, oc_ne, oc_in, oc_nin, oc_is, oc_isn, eq_int, eq_bl, eq_nil, isNonD, f7, pen, hg0, hm, hm2, ob_mod, ob_div, ob_mulL, ob_mulR, h1, ob_pow, hd, hl, b1, b2, mix1, mix2, hy, hz, hq]
theorem draw {n : Nat} {b m : Int} {p : D} (hp : PenOk b p) (hb : b < 1000000) (hm : 0 < m) (hm2 : m.natAbs.log2 < 9000) :
    ∃ v p', callN T (n + 1) 7 [(p, true), (.int m, false)] = .ok (.int v) false [(p', true), (.int m, false)] ∧ PenOk (b + 1) p' ∧ 0 ≤ v ∧ v < m := draw_run (callN T n) hp hb hm hm2
end K01

set_option Elab.async false
set_option linter.all false
set_option maxRecDepth 100000
set_option maxHeartbeats 0
namespace K01
open PySem L2 Mi
abbrev SG : Str := " !\"#$&'()*+,-./0123456789:;<=>?@ABCDEFGHIJKLMNOPQRSTUVWXYZ[\\]^_`abcdefghijklmnopqrstuvwxyz{|}~"
abbrev SM : Str := "abcdefghijklmnopqrstuvwxyz0123456789"
theorem sg_len : SG.length = 94 := by decide +kernel
theorem sm_len : SM.length = 36 := by decide +kernel
theorem sg_ok : strOkM SG = true := by decide +kernel
theorem sm_ok : strOkM SM = true := by decide +kernel
theorem log_small {m : Int} (h : 0 ≤ m) (h2 : m < 9000) : m.natAbs.log2 < 9000 := Nat.lt_of_le_of_lt (Nat.log2_le_self _) (by omega)
theorem em_ok : strOkM (Str.ofString "") = true := by decide +kernel
theorem em_eq {s : Str} (h : strOkM s = true) : eqD (.str s) (.str "") = some (decide (s = "")) := eq_str h em_ok
def Txt (k : Nat) (d : D) : Prop := ∃ s : Str, d = .str s ∧ s.length ≤ k ∧ strOkM s = true
def txtB (k : Nat) : D → Bool
  | .str s => decide (s.length ≤ k) && strOkM s
  | _ => false
theorem txtB_ok {k : Nat} {d : D} (h : txtB k d = true) : Txt k d := by
  cases d with
  | str s =>
    obtain ⟨h1, h2⟩ := Bool.and_eq_true_iff.mp (show (decide (s.length ≤ k) && strOkM s) = true from h)
    exact ⟨s, rfl, of_decide_eq_true h1, h2⟩
  | _ => cases h
theorem Txt.mono {k l : Nat} {d : D} (h : Txt k d) (hl : k ≤ l) : Txt l d := by
  obtain ⟨s, e, h1, h2⟩ := h
  exact ⟨s, e, by omega, h2⟩
/-- a sign of a text -/
theorem ix_txt {z : Str} {i : Int} (hz : strOkM z = true) (h0 : 0 ≤ i) (h1 : i < z.length) : ∃ y : Str, opIx (.str z) (.int i) = some (.str y) ∧ y.length = 1 ∧ strOkM y = true := by
  obtain ⟨c, h, hc⟩ := ix_str h0 h1
  exact ⟨_, h, rfl, strOkM_one hz hc⟩
theorem ix_all {xs : List D} {P : D → Prop} {i : Int} (h : ∀ d ∈ xs, P d) (h0 : 0 ≤ i) (h1 : i < xs.length) : ∃ d, opIx (.lst xs) (.int i) = some d ∧ P d := by
  obtain ⟨d, e, hd⟩ := ix_lst h0 h1
  exact ⟨d, e, h d hd⟩
theorem signs {n : Nat} : callN T (n + 1) 8 [] = .ok (.str SG) false [] := rfl
abbrev E9 (p : D) (k : Int) (made : Str) (s5 : Slot) : Mi.Env := ⟨[.lent 0, .val (.str SG), .val (.str SM), .val (.int k), .val (.str made), s5], [(p, true)]⟩
theorem text_start {n : Nat} {b : Int} {p : D} (hp : PenOk b p) (hb : b < 900000) : ∃ k p', evS (callN T (n + 1)) f9.body.hd ⟨[.lent 0, .no, .no, .no, .no, .no], [(p, true)]⟩ = .nx ⟨[.lent 0, .val (.str SG), .val (.str SM), .val (.int k), .no, .no], [(p', true)]⟩ ∧ PenOk (b + 1) p' ∧ 0 ≤ k ∧ k < 4 := by
  obtain ⟨k, p', e, h1, h2, h3⟩ := draw (n := n) (m := 4) hp (by omega) (by omega) (by decide)
  refine ⟨k, p', ?_, h1, h2, h3⟩
  simp [bndD_ok, bndD_exc, bndD_bad, stD_ok, stD_exc, stD_bad, sqD_nx, sqD_brk, sqD_cnt, sqD_ret, sqD_exc, sqD_bad, runF, env0, slotsOf, evS_seqD, evS_ifsD, evS_skip, evS_setD, evS_subD, evS_retD, evS_dropD, evS_parD, evT_k, evT_v, evT_cmp, evT_call, evT_isi, evT_chain, evT_andD, evT_orD, evT_notD, bT_defD, evO_k, evO_v, evO_op, evO_neg, evO_no, bO_defD, evE_k, evE_v, evE_g, evE_opD, evE_negD, evE_cmpD, evE_chainD, evE_andD, evE_orD, evE_notD, evE_ifeD, evE_tupD, evE_lstD, evE_ixD, evE_slD, evE_biD, evE_meD, evE_callD, evE_callkD, evE_isiD, evE_mk, evA_consD, evA_nil, Env.at, Env.cur, Env.curs, Env.see, Env.store, Env.setS, Env.tak, Env.taks, Env.put, Env.hand, Env.back, Env.holds, Env.setWs, Env.setW, sameKey, Env.okey, Env.fz, fzb, oi_0, oi_1, oi_2, oi_3, oi_4, L2.ixN, truth, biOp, ob_add, ob_sub, ob_cat, oc_lt, oc_le, oc_gt, oc_ge, oc_eq, oc_ne, oc_in, oc_nin, oc_is, oc_isn, eq_int, eq_bl, eq_nil, isNonD, f9, St.hd, signs, e]

theorem mem_words : ∀ d ∈ [D.str "square", .str "triangle", .str "squares", .str "Square", .str "triangl", .str "triangle ", .str "squar", .str "trianglesquare"], Txt 14 d := fun d hd => by
  have h : [D.str "square", .str "triangle", .str "squares", .str "Square", .str "triangl", .str "triangle ", .str "squar", .str "trianglesquare"].all (txtB 14) = true := by decide +kernel
  exact txtB_ok (List.all_eq_true.mp h d hd)
theorem mem_ends : ∀ d ∈ [D.str "\n", .str "\t", .str " "], Txt 1 d := fun d hd => by
  have h : [D.str "\n", .str "\t", .str " "].all (txtB 1) = true := by decide +kernel
  exact txtB_ok (List.all_eq_true.mp h d hd)
/-- one sign more -/
theorem text_body {n : Nat} {b k : Int} {p : D} {made : Str} {s5 : Slot} {i : D} (hp : PenOk b p) (hb : b < 900000) (hm : strOkM made = true) (hl : made.length ≤ 100) :
    ∃ p' c, evS (callN T (n + 1)) (.set 4 (.op .Add (.v 4) (.ife (.cmp .Lt (.v 3) (.k (.int 3))) (.ix (.v 2) (.call 7 (.cons (.v 0) (.cons (.k (.int 36)) .nil)))) (.ix (.v 1) (.call 7 (.cons (.v 0) (.cons (.bi .len (.cons (.v 1) .nil)) .nil)))))))
        ((E9 p k made s5).setS 5 (.val i)) = .nx (E9 p' k (made ++ c) (.val i)) ∧ PenOk (b + 1) p' ∧ c.length = 1 ∧ strOkM c = true := by
  by_cases hk : k < 3
  · obtain ⟨v, p', e, h1, h2, h3⟩ := draw (n := n) (m := 36) hp (by omega) (by omega) (by decide)
    obtain ⟨c, hc, hc1, hc2⟩ := ix_txt (z := SM) sm_ok h2 (by rw [sm_len]; exact h3)
    refine ⟨p', c, ?_, h1, hc1, hc2⟩
    have : made.length + c.length ≤ 16777216 := by omega
    simp [bndD_ok, bndD_exc, bndD_bad, stD_ok, stD_exc, stD_bad, sqD_nx, sqD_brk, sqD_cnt, sqD_ret, sqD_exc, sqD_bad, runF, env0, slotsOf, evS_seqD, evS_ifsD, evS_skip, evS_setD, evS_subD, evS_retD, evS_dropD, evS_parD, evT_k, evT_v, evT_cmp, evT_call, evT_isi, evT_chain, evT_andD, evT_orD, evT_notD, bT_defD, evO_k, evO_v, evO_op, evO_neg, evO_no, bO_defD, evE_k, evE_v, evE_g, evE_opD, evE_negD, evE_cmpD, evE_chainD, evE_andD, evE_orD, evE_notD, evE_ifeD, evE_tupD, evE_lstD, evE_ixD, evE_slD, evE_biD, evE_meD, evE_callD, evE_callkD, evE_isiD, evE_mk, evA_consD, evA_nil, Env.at, Env.cur, Env.curs, Env.see, Env.store, Env.setS, Env.tak, Env.taks, Env.put, Env.hand, Env.back, Env.holds, Env.setWs, Env.setW, sameKey, Env.okey, Env.fz, fzb, oi_0, oi_1, oi_2, oi_3, oi_4, L2.ixN, truth, biOp, ob_add, ob_sub, ob_cat, oc_lt, oc_le, oc_gt, oc_ge, oc_eq, oc_ne, oc_in, oc_nin, oc_is, oc_isn, eq_int, eq_bl, eq_nil, isNonD, hk, e, hc, this]
  · obtain ⟨v, p', e, h1, h2, h3⟩ := draw (n := n) (m := (SG.length : Int)) hp (by omega) (by rw [sg_len]; decide) (by rw [sg_len]; decide)
    obtain ⟨c, hc, hc1, hc2⟩ := ix_txt (z := SG) sg_ok h2 h3
    refine ⟨p', c, ?_, h1, hc1, hc2⟩
    have : made.length + c.length ≤ 16777216 := by omega
    simp [bndD_ok, bndD_exc, bndD_bad, stD_ok, stD_exc, stD_bad, sqD_nx, sqD_brk, sqD_cnt, sqD_ret, sqD_exc, sqD_bad, runF, env0, slotsOf, evS_seqD, evS_ifsD, evS_skip, evS_setD, evS_subD, evS_retD, evS_dropD, evS_parD, evT_k, evT_v, evT_cmp, evT_call, evT_isi, evT_chain, evT_andD, evT_orD, evT_notD, bT_defD, evO_k, evO_v, evO_op, evO_neg, evO_no, bO_defD, evE_k, evE_v, evE_g, evE_opD, evE_negD, evE_cmpD, evE_chainD, evE_andD, evE_orD, evE_notD, evE_ifeD, evE_tupD, evE_lstD, evE_ixD, evE_slD, evE_biD, evE_meD, evE_callD, evE_callkD, evE_isiD, evE_mk, evA_consD, evA_nil, Env.at, Env.cur, Env.curs, Env.see, Env.store, Env.setS, Env.tak, Env.taks, Env.put, Env.hand, Env.back, Env.holds, Env.setWs, Env.setW, sameKey, Env.okey, Env.fz, fzb, oi_0, oi_1, oi_2, oi_3, oi_4, L2.ixN, truth, biOp, ob_add, ob_sub, ob_cat, oc_lt, oc_le, oc_gt, oc_ge, oc_eq, oc_ne, oc_in, oc_nin, oc_is, oc_isn, eq_int, eq_bl, eq_nil, isNonD, hk, e, hc, this]

theorem rng_len (v : Int) : (rngD 0 v).length = v.toNat := by
  unfold rngD
  simp
theorem evI_rng {cal : Cal} {a : Ex} {e e1 : Mi.Env} {v : Int} (h : evE cal a e = .ok (.d (.int v)) e1) (hv : v.natAbs < 2305843009213693952) : evI cal (.rng1 a) e = .ok (rngD 0 v) e1 := by
  rw [evI_rng1, h]
  show (if v.natAbs < 2 ^ 61 then R.ok (rngD 0 v) e1 else .bad) = _
  rw [if_pos (show v.natAbs < 2 ^ 61 from hv)]
theorem text_loop {n : Nat} {b k : Int} {p : D} (hp : PenOk b p) (hb : b < 800000) :
    ∃ p' made s5, evS (callN T (n + 1)) f9.body.tl.tl.tl.hd (E9 p k "" .no) = .nx (E9 p' k made s5) ∧ PenOk (b + 15) p' ∧ made.length ≤ 14 ∧ strOkM made = true := by
  obtain ⟨v, p1, e, h1, h2, h3⟩ := draw (n := n) (m := 15) hp (by omega) (by omega) (by decide)
  have ei : evI (callN T (n + 1)) (.rng1 (.call 7 (.cons (.v 0) (.cons (.k (.int 15)) .nil)))) (E9 p k "" .no) = .ok (rngD 0 v) (E9 p1 k "" .no) := evI_rng (by simp [bndD_ok, bndD_exc, bndD_bad, stD_ok, stD_exc, stD_bad, sqD_nx, sqD_brk, sqD_cnt, sqD_ret, sqD_exc, sqD_bad, runF, env0, slotsOf, evS_seqD, evS_ifsD, evS_skip, evS_setD, evS_subD, evS_retD, evS_dropD, evS_parD, evT_k, evT_v, evT_cmp, evT_call, evT_isi, evT_chain, evT_andD, evT_orD, evT_notD, bT_defD, evO_k, evO_v, evO_op, evO_neg, evO_no, bO_defD, evE_k, evE_v, evE_g, evE_opD, evE_negD, evE_cmpD, evE_chainD, evE_andD, evE_orD, evE_notD, evE_ifeD, evE_tupD, evE_lstD, evE_ixD, evE_slD, evE_biD, evE_meD, evE_callD, evE_callkD, evE_isiD, evE_mk, evA_consD, evA_nil, Env.at, Env.cur, Env.curs, Env.see, Env.store, Env.setS, Env.tak, Env.taks, Env.put, Env.hand, Env.back, Env.holds, Env.setWs, Env.setW, sameKey, Env.okey, Env.fz, fzb, oi_0, oi_1, oi_2, oi_3, oi_4, L2.ixN, truth, biOp, ob_add, ob_sub, ob_cat, oc_lt, oc_le, oc_gt, oc_ge, oc_eq, oc_ne, oc_in, oc_nin, oc_is, oc_isn, eq_int, eq_bl, eq_nil, isNonD, e]) (by omega)
  have hl := rng_len v
  obtain ⟨e', h4, h5⟩ := forL_inv (P := fun j e => ∃ p' made s5, e = E9 p' k made s5 ∧ PenOk (b + 1 + (j : Int)) p' ∧ made.length ≤ j ∧ strOkM made = true) (f := fun d e => match e.bindT (.one 5) d with
    | some e' => evS (callN T (n + 1)) (.set 4 (.op .Add (.v 4) (.ife (.cmp .Lt (.v 3) (.k (.int 3))) (.ix (.v 2) (.call 7 (.cons (.v 0) (.cons (.k (.int 36)) .nil)))) (.ix (.v 1) (.call 7 (.cons (.v 0) (.cons (.bi .len (.cons (.v 1) .nil)) .nil))))))) e'
    | none => .bad) (xs := rngD 0 v) (k := 0) (e := E9 p1 k "" .no) ⟨p1, "", .no, rfl, by simpa using h1, by decide, em_ok⟩ (fun d _ j e hj hP => by
      obtain ⟨q, made, s5, rfl, g1, g2, g3⟩ := hP
      obtain ⟨q', c, g4, g5, g6, g7⟩ := text_body (n := n) (k := k) (made := made) (s5 := s5) (i := d) g1 (by omega) g3 (by omega)
      exact ⟨_, g4, q', made ++ c, _, rfl, g5.mono (by omega), by rw [len_app]; omega, strOkM_app g3 g7⟩)
  obtain ⟨p', made, s5, rfl, g1, g2, g3⟩ := h5
  refine ⟨p', made, s5, ?_, g1.mono (by omega), by omega, g3⟩
  show evS (callN T (n + 1)) (.fors (.one 5) (.rng1 (.call 7 (.cons (.v 0) (.cons (.k (.int 15)) .nil)))) _) _ = _
  rw [evS_fors, ei]
  exact h4
/-- one sign changed -/
theorem text_e {n : Nat} {b k : Int} {p : D} {made : Str} {s5 : Slot} (hp : PenOk b p) (hb : b < 900000) (hm : strOkM made = true) (hl : made.length ≤ 100) :
    ∃ p' made' s5', evS (callN T (n + 1)) f9.body.tl.tl.tl.tl.hd (E9 p k made s5) = .nx (E9 p' k made' s5') ∧ PenOk (b + 2) p' ∧ made'.length ≤ 2 * made.length + 1 ∧ strOkM made' = true := by
  by_cases hk : k = 2
  · by_cases hz : made = ""
    · subst hz
      exact ⟨p, "", s5, by simp [bndD_ok, bndD_exc, bndD_bad, stD_ok, stD_exc, stD_bad, sqD_nx, sqD_brk, sqD_cnt, sqD_ret, sqD_exc, sqD_bad, runF, env0, slotsOf, evS_seqD, evS_ifsD, evS_skip, evS_setD, evS_subD, evS_retD, evS_dropD, evS_parD, evT_k, evT_v, evT_cmp, evT_call, evT_isi, evT_chain, evT_andD, evT_orD, evT_notD, bT_defD, evO_k, evO_v, evO_op, evO_neg, evO_no, bO_defD, evE_k, evE_v, evE_g, evE_opD, evE_negD, evE_cmpD, evE_chainD, evE_andD, evE_orD, evE_notD, evE_ifeD, evE_tupD, evE_lstD, evE_ixD, evE_slD, evE_biD, evE_meD, evE_callD, evE_callkD, evE_isiD, evE_mk, evA_consD, evA_nil, Env.at, Env.cur, Env.curs, Env.see, Env.store, Env.setS, Env.tak, Env.taks, Env.put, Env.hand, Env.back, Env.holds, Env.setWs, Env.setW, sameKey, Env.okey, Env.fz, fzb, oi_0, oi_1, oi_2, oi_3, oi_4, L2.ixN, truth, biOp, ob_add, ob_sub, ob_cat, oc_lt, oc_le, oc_gt, oc_ge, oc_eq, oc_ne, oc_in, oc_nin, oc_is, oc_isn, eq_int, eq_bl, eq_nil, isNonD, f9, St.tl, St.hd, hk, em_eq hm], hp.mono (by omega), by decide, em_ok⟩
    · have hlen : 0 < made.length := by
        rw [len_list]
        cases c : made.cps.toList with
        | nil => exact absurd (by cases made; simp at c; subst c; rfl) hz
        | cons => simp
      obtain ⟨v, p1, e, h1, h2, h3⟩ := draw (n := n) (m := (made.length : Int)) hp (by omega) (by omega) (log_small (by omega) (by omega))
      obtain ⟨u, p2, e2, h4, h5, h6⟩ := draw (n := n) (m := (SG.length : Int) + 2) h1 (by omega) (by rw [sg_len]; decide) (by rw [sg_len]; decide)
      have el : (SG ++ ("\n\t" : Str)).length = 96 := by decide +kernel
      obtain ⟨c, hc, hc1, hc2⟩ := ix_txt (z := SG ++ ("\n\t" : Str)) (by decide +kernel) h5 (by rw [el]; rw [sg_len] at h6; exact h6)
      have l1 := len_cut made none (some v)
      have l2 := len_cut made (some (v + 1)) none
      have hx : ∀ y : Str, strOkM y = true → eqD (.str made) (.str y) = some (decide (made = y)) := fun y hy => eq_str hm hy
      have k1 : SG.length + Str.length "\n\t" ≤ 16777216 := by decide +kernel
      have k2 : (L2.cutS made none (some v)).length + c.length ≤ 16777216 := by omega
      have k3 : (L2.cutS made none (some v) ++ c).length + (L2.cutS made (some (v + 1)) none).length ≤ 16777216 := by rw [len_app]; omega
      refine ⟨p2, L2.cutS made none (some v) ++ c ++ L2.cutS made (some (v + 1)) none, .val (.int v), ?_, h4.mono (by omega), ?_, ?_⟩
      · simp [bndD_ok, bndD_exc, bndD_bad, stD_ok, stD_exc, stD_bad, sqD_nx, sqD_brk, sqD_cnt, sqD_ret, sqD_exc, sqD_bad, runF, env0, slotsOf, evS_seqD, evS_ifsD, evS_skip, evS_setD, evS_subD, evS_retD, evS_dropD, evS_parD, evT_k, evT_v, evT_cmp, evT_call, evT_isi, evT_chain, evT_andD, evT_orD, evT_notD, bT_defD, evO_k, evO_v, evO_op, evO_neg, evO_no, bO_defD, evE_k, evE_v, evE_g, evE_opD, evE_negD, evE_cmpD, evE_chainD, evE_andD, evE_orD, evE_notD, evE_ifeD, evE_tupD, evE_lstD, evE_ixD, evE_slD, evE_biD, evE_meD, evE_callD, evE_callkD, evE_isiD, evE_mk, evA_consD, evA_nil, Env.at, Env.cur, Env.curs, Env.see, Env.store, Env.setS, Env.tak, Env.taks, Env.put, Env.hand, Env.back, Env.holds, Env.setWs, Env.setW, sameKey, Env.okey, Env.fz, fzb, oi_0, oi_1, oi_2, oi_3, oi_4, L2.ixN, truth, biOp, ob_add, ob_sub, ob_cat, oc_lt, oc_le, oc_gt, oc_ge, oc_eq, oc_ne, oc_in, oc_nin, oc_is, oc_isn, eq_int, eq_bl, eq_nil, isNonD, f9, St.tl, St.hd, hk, em_eq hm, hz, e, e2, hc, ob_cat, opSl, k1, k2, k3]

      · rw [len_app, len_app]; omega
      · exact strOkM_app (strOkM_app (strOkM_cut _ _ hm) hc2) (strOkM_cut _ _ hm)
  · exact ⟨p, made, s5, by simp [bndD_ok, bndD_exc, bndD_bad, stD_ok, stD_exc, stD_bad, sqD_nx, sqD_brk, sqD_cnt, sqD_ret, sqD_exc, sqD_bad, runF, env0, slotsOf, evS_seqD, evS_ifsD, evS_skip, evS_setD, evS_subD, evS_retD, evS_dropD, evS_parD, evT_k, evT_v, evT_cmp, evT_call, evT_isi, evT_chain, evT_andD, evT_orD, evT_notD, bT_defD, evO_k, evO_v, evO_op, evO_neg, evO_no, bO_defD, evE_k, evE_v, evE_g, evE_opD, evE_negD, evE_cmpD, evE_chainD, evE_andD, evE_orD, evE_notD, evE_ifeD, evE_tupD, evE_lstD, evE_ixD, evE_slD, evE_biD, evE_meD, evE_callD, evE_callkD, evE_isiD, evE_mk, evA_consD, evA_nil, Env.at, Env.cur, Env.curs, Env.see, Env.store, Env.setS, Env.tak, Env.taks, Env.put, Env.hand, Env.back, Env.holds, Env.setWs, Env.setW, sameKey, Env.okey, Env.fz, fzb, oi_0, oi_1, oi_2, oi_3, oi_4, L2.ixN, truth, biOp, ob_add, ob_sub, ob_cat, oc_lt, oc_le, oc_gt, oc_ge, oc_eq, oc_ne, oc_in, oc_nin, oc_is, oc_isn, eq_int, eq_bl, eq_nil, isNonD, f9, St.tl, St.hd, hk], hp.mono (by omega), by omega, hm⟩
/-- one sign more, at any place -/
theorem text_f {n : Nat} {b k : Int} {p : D} {made : Str} {s5 : Slot} (hp : PenOk b p) (hb : b < 900000) (hm : strOkM made = true) (hl : made.length ≤ 100) :
    ∃ p' made' s5', evS (callN T (n + 1)) f9.body.tl.tl.tl.tl.tl.hd (E9 p k made s5) = .nx (E9 p' k made' s5') ∧ PenOk (b + 3) p' ∧ made'.length ≤ 2 * made.length + 1 ∧ strOkM made' = true := by
  obtain ⟨w, p0, e0, h1, _, _⟩ := draw (n := n) (m := 6) hp (by omega) (by decide) (by decide)
  by_cases hw : w = 0
  · obtain ⟨v, p1, e, h1, h2, h3⟩ := draw (n := n) (m := (made.length : Int) + 1) h1 (by omega) (by omega) (log_small (by omega) (by omega))
    obtain ⟨u, p2, e2, h4, h5, h6⟩ := draw (n := n) (m := 3) h1 (by omega) (by decide) (by decide)
    obtain ⟨d, hc, c, rfl, hc1, hc2⟩ := ix_all mem_ends h5 h6
    have l1 := len_cut made none (some v)
    have l2 := len_cut made (some v) none
    have k2 : (L2.cutS made none (some v)).length + c.length ≤ 16777216 := by omega
    have k3 : (L2.cutS made none (some v) ++ c).length + (L2.cutS made (some v) none).length ≤ 16777216 := by rw [len_app]; omega
    refine ⟨p2, L2.cutS made none (some v) ++ c ++ L2.cutS made (some v) none, .val (.int v), ?_, h4.mono (by omega), ?_, ?_⟩
    · simp [bndD_ok, bndD_exc, bndD_bad, stD_ok, stD_exc, stD_bad, sqD_nx, sqD_brk, sqD_cnt, sqD_ret, sqD_exc, sqD_bad, runF, env0, slotsOf, evS_seqD, evS_ifsD, evS_skip, evS_setD, evS_subD, evS_retD, evS_dropD, evS_parD, evT_k, evT_v, evT_cmp, evT_call, evT_isi, evT_chain, evT_andD, evT_orD, evT_notD, bT_defD, evO_k, evO_v, evO_op, evO_neg, evO_no, bO_defD, evE_k, evE_v, evE_g, evE_opD, evE_negD, evE_cmpD, evE_chainD, evE_andD, evE_orD, evE_notD, evE_ifeD, evE_tupD, evE_lstD, evE_ixD, evE_slD, evE_biD, evE_meD, evE_callD, evE_callkD, evE_isiD, evE_mk, evA_consD, evA_nil, Env.at, Env.cur, Env.curs, Env.see, Env.store, Env.setS, Env.tak, Env.taks, Env.put, Env.hand, Env.back, Env.holds, Env.setWs, Env.setW, sameKey, Env.okey, Env.fz, fzb, oi_0, oi_1, oi_2, oi_3, oi_4, L2.ixN, truth, biOp, ob_add, ob_sub, ob_cat, oc_lt, oc_le, oc_gt, oc_ge, oc_eq, oc_ne, oc_in, oc_nin, oc_is, oc_isn, eq_int, eq_bl, eq_nil, isNonD, f9, St.tl, St.hd, e0, hw, e, e2, hc, ob_cat, opSl, k2, k3, lim]
    · rw [len_app, len_app]; omega
    · exact strOkM_app (strOkM_app (strOkM_cut _ _ hm) hc2) (strOkM_cut _ _ hm)
  · exact ⟨p0, made, s5, by simp [bndD_ok, bndD_exc, bndD_bad, stD_ok, stD_exc, stD_bad, sqD_nx, sqD_brk, sqD_cnt, sqD_ret, sqD_exc, sqD_bad, runF, env0, slotsOf, evS_seqD, evS_ifsD, evS_skip, evS_setD, evS_subD, evS_retD, evS_dropD, evS_parD, evT_k, evT_v, evT_cmp, evT_call, evT_isi, evT_chain, evT_andD, evT_orD, evT_notD, bT_defD, evO_k, evO_v, evO_op, evO_neg, evO_no, bO_defD, evE_k, evE_v, evE_g, evE_opD, evE_negD, evE_cmpD, evE_chainD, evE_andD, evE_orD, evE_notD, evE_ifeD, evE_tupD, evE_lstD, evE_ixD, evE_slD, evE_biD, evE_meD, evE_callD, evE_callkD, evE_isiD, evE_mk, evA_consD, evA_nil, Env.at, Env.cur, Env.curs, Env.see, Env.store, Env.setS, Env.tak, Env.taks, Env.put, Env.hand, Env.back, Env.holds, Env.setWs, Env.setW, sameKey, Env.okey, Env.fz, fzb, oi_0, oi_1, oi_2, oi_3, oi_4, L2.ixN, truth, biOp, ob_add, ob_sub, ob_cat, oc_lt, oc_le, oc_gt, oc_ge, oc_eq, oc_ne, oc_in, oc_nin, oc_is, oc_isn, eq_int, eq_bl, eq_nil, isNonD, f9, St.tl, St.hd, e0, hw], h1.mono (by omega), by omega, hm⟩
theorem text {n : Nat} {b : Int} {p : D} (hp : PenOk b p) (hb : b < 700000) : ∃ s p', callN T (n + 2) 9 [(p, true)] = .ok (.str s) false [(p', true)] ∧ PenOk (b + 22) p' ∧ s.length ≤ 60 ∧ strOkM s = true := by
  obtain ⟨k, p1, e1, h1, h2, h3⟩ := text_start (n := n) hp (by omega)
  have start : callN T (n + 2) 9 [(p, true)] = (match (evS (callN T (n + 1)) f9.body.hd ⟨[.lent 0, .no, .no, .no, .no, .no], [(p, true)]⟩).sq (evS (callN T (n + 1)) f9.body.tl) with
    | .nx e => CR.ok .non false e.le
    | .ret d o e => .ok d o e.le
    | .exc x e => .exc x e.le
    | _ => .bad) := rfl
  rw [start, e1]
  by_cases hk : k = 0
  · obtain ⟨v, p2, e2, h4, h5, h6⟩ := draw (n := n) (m := 8) h1 (by omega) (by omega) (by decide)
    obtain ⟨d, hc, s, rfl, hs1, hs2⟩ := ix_all mem_words h5 h6
    refine ⟨s, p2, ?_, h4.mono (by omega), by omega, hs2⟩
    simp [bndD_ok, bndD_exc, bndD_bad, stD_ok, stD_exc, stD_bad, sqD_nx, sqD_brk, sqD_cnt, sqD_ret, sqD_exc, sqD_bad, runF, env0, slotsOf, evS_seqD, evS_ifsD, evS_skip, evS_setD, evS_subD, evS_retD, evS_dropD, evS_parD, evT_k, evT_v, evT_cmp, evT_call, evT_isi, evT_chain, evT_andD, evT_orD, evT_notD, bT_defD, evO_k, evO_v, evO_op, evO_neg, evO_no, bO_defD, evE_k, evE_v, evE_g, evE_opD, evE_negD, evE_cmpD, evE_chainD, evE_andD, evE_orD, evE_notD, evE_ifeD, evE_tupD, evE_lstD, evE_ixD, evE_slD, evE_biD, evE_meD, evE_callD, evE_callkD, evE_isiD, evE_mk, evA_consD, evA_nil, Env.at, Env.cur, Env.curs, Env.see, Env.store, Env.setS, Env.tak, Env.taks, Env.put, Env.hand, Env.back, Env.holds, Env.setWs, Env.setW, sameKey, Env.okey, Env.fz, fzb, oi_0, oi_1, oi_2, oi_3, oi_4, L2.ixN, truth, biOp, ob_add, ob_sub, ob_cat, oc_lt, oc_le, oc_gt, oc_ge, oc_eq, oc_ne, oc_in, oc_nin, oc_is, oc_isn, eq_int, eq_bl, eq_nil, isNonD, f9, St.tl, hk, e2, hc, lim]
  · have step : ∀ e, evS (callN T (n + 1)) f9.body.tl e = (evS (callN T (n + 1)) f9.body.tl.hd e).sq fun e => (evS (callN T (n + 1)) f9.body.tl.tl.hd e).sq fun e => (evS (callN T (n + 1)) f9.body.tl.tl.tl.hd e).sq fun e => (evS (callN T (n + 1)) f9.body.tl.tl.tl.tl.hd e).sq fun e => (evS (callN T (n + 1)) f9.body.tl.tl.tl.tl.tl.hd e).sq fun e => evS (callN T (n + 1)) f9.body.tl.tl.tl.tl.tl.tl e := fun e => rfl
    have a1 : evS (callN T (n + 1)) f9.body.tl.hd ⟨[.lent 0, .val (.str SG), .val (.str SM), .val (.int k), .no, .no], [(p1, true)]⟩ = .nx ⟨[.lent 0, .val (.str SG), .val (.str SM), .val (.int k), .no, .no], [(p1, true)]⟩ := by simp [bndD_ok, bndD_exc, bndD_bad, stD_ok, stD_exc, stD_bad, sqD_nx, sqD_brk, sqD_cnt, sqD_ret, sqD_exc, sqD_bad, runF, env0, slotsOf, evS_seqD, evS_ifsD, evS_skip, evS_setD, evS_subD, evS_retD, evS_dropD, evS_parD, evT_k, evT_v, evT_cmp, evT_call, evT_isi, evT_chain, evT_andD, evT_orD, evT_notD, bT_defD, evO_k, evO_v, evO_op, evO_neg, evO_no, bO_defD, evE_k, evE_v, evE_g, evE_opD, evE_negD, evE_cmpD, evE_chainD, evE_andD, evE_orD, evE_notD, evE_ifeD, evE_tupD, evE_lstD, evE_ixD, evE_slD, evE_biD, evE_meD, evE_callD, evE_callkD, evE_isiD, evE_mk, evA_consD, evA_nil, Env.at, Env.cur, Env.curs, Env.see, Env.store, Env.setS, Env.tak, Env.taks, Env.put, Env.hand, Env.back, Env.holds, Env.setWs, Env.setW, sameKey, Env.okey, Env.fz, fzb, oi_0, oi_1, oi_2, oi_3, oi_4, L2.ixN, truth, biOp, ob_add, ob_sub, ob_cat, oc_lt, oc_le, oc_gt, oc_ge, oc_eq, oc_ne, oc_in, oc_nin, oc_is, oc_isn, eq_int, eq_bl, eq_nil, isNonD, f9, St.tl, St.hd, hk]
    have a2 : evS (callN T (n + 1)) f9.body.tl.tl.hd ⟨[.lent 0, .val (.str SG), .val (.str SM), .val (.int k), .no, .no], [(p1, true)]⟩ = .nx (E9 p1 k "" .no) := by simp [bndD_ok, bndD_exc, bndD_bad, stD_ok, stD_exc, stD_bad, sqD_nx, sqD_brk, sqD_cnt, sqD_ret, sqD_exc, sqD_bad, runF, env0, slotsOf, evS_seqD, evS_ifsD, evS_skip, evS_setD, evS_subD, evS_retD, evS_dropD, evS_parD, evT_k, evT_v, evT_cmp, evT_call, evT_isi, evT_chain, evT_andD, evT_orD, evT_notD, bT_defD, evO_k, evO_v, evO_op, evO_neg, evO_no, bO_defD, evE_k, evE_v, evE_g, evE_opD, evE_negD, evE_cmpD, evE_chainD, evE_andD, evE_orD, evE_notD, evE_ifeD, evE_tupD, evE_lstD, evE_ixD, evE_slD, evE_biD, evE_meD, evE_callD, evE_callkD, evE_isiD, evE_mk, evA_consD, evA_nil, Env.at, Env.cur, Env.curs, Env.see, Env.store, Env.setS, Env.tak, Env.taks, Env.put, Env.hand, Env.back, Env.holds, Env.setWs, Env.setW, sameKey, Env.okey, Env.fz, fzb, oi_0, oi_1, oi_2, oi_3, oi_4, L2.ixN, truth, biOp, ob_add, ob_sub, ob_cat, oc_lt, oc_le, oc_gt, oc_ge, oc_eq, oc_ne, oc_in, oc_nin, oc_is, oc_isn, eq_int, eq_bl, eq_nil, isNonD, f9, St.tl, St.hd]
    obtain ⟨p2, m2, s2, e2, g1, g2, g3⟩ := text_loop (n := n) (k := k) h1 (by omega)
    obtain ⟨p3, m3, s3, e3, g4, g5, g6⟩ := text_e (n := n) (k := k) (s5 := s2) g1 (by omega) g3 (by omega)
    obtain ⟨p4, m4, s4, e4, g7, g8, g9⟩ := text_f (n := n) (k := k) (s5 := s3) g4 (by omega) g6 (by omega)
    refine ⟨m4, p4, ?_, g7.mono (by omega), by omega, g9⟩
    simp only [SR.sq_nx, step, a1, a2, e2, e3, e4]
    simp [bndD_ok, bndD_exc, bndD_bad, stD_ok, stD_exc, stD_bad, sqD_nx, sqD_brk, sqD_cnt, sqD_ret, sqD_exc, sqD_bad, runF, env0, slotsOf, evS_seqD, evS_ifsD, evS_skip, evS_setD, evS_subD, evS_retD, evS_dropD, evS_parD, evT_k, evT_v, evT_cmp, evT_call, evT_isi, evT_chain, evT_andD, evT_orD, evT_notD, bT_defD, evO_k, evO_v, evO_op, evO_neg, evO_no, bO_defD, evE_k, evE_v, evE_g, evE_opD, evE_negD, evE_cmpD, evE_chainD, evE_andD, evE_orD, evE_notD, evE_ifeD, evE_tupD, evE_lstD, evE_ixD, evE_slD, evE_biD, evE_meD, evE_callD, evE_callkD, evE_isiD, evE_mk, evA_consD, evA_nil, Env.at, Env.cur, Env.curs, Env.see, Env.store, Env.setS, Env.tak, Env.taks, Env.put, Env.hand, Env.back, Env.holds, Env.setWs, Env.setW, sameKey, Env.okey, Env.fz, fzb, oi_0, oi_1, oi_2, oi_3, oi_4, L2.ixN, truth, biOp, ob_add, ob_sub, ob_cat, oc_lt, oc_le, oc_gt, oc_ge, oc_eq, oc_ne, oc_in, oc_nin, oc_is, oc_isn, eq_int, eq_bl, eq_nil, isNonD, f9, St.tl]

theorem number {n : Nat} {b : Int} {p : D} (hp : PenOk b p) (hb : b < 700000) : ∃ i p', callN T (n + 2) 10 [(p, true)] = .ok (.int i) false [(p', true)] ∧ PenOk (b + 2) p' := by
  obtain ⟨v, p1, e1, h1, h2, h3⟩ := draw (n := n) (m := 3) hp (by omega) (by omega) (by decide)
  by_cases hv : v = 0
  · obtain ⟨u, p2, e2, h4, h5, h6⟩ := draw (n := n) (m := 10000000000000000000000000000000000000000) h1 (by omega) (by omega) (by decide +kernel)
    refine ⟨u - 1000000000000000000000000000000000000000, p2, ?_, h4.mono (by omega)⟩
    show runF (callN T (n + 1)) f10 [(p, true)] = _
    simp [bndD_ok, bndD_exc, bndD_bad, stD_ok, stD_exc, stD_bad, sqD_nx, sqD_brk, sqD_cnt, sqD_ret, sqD_exc, sqD_bad, runF, env0, slotsOf, evS_seqD, evS_ifsD, evS_skip, evS_setD, evS_subD, evS_retD, evS_dropD, evS_parD, evT_k, evT_v, evT_cmp, evT_call, evT_isi, evT_chain, evT_andD, evT_orD, evT_notD, bT_defD, evO_k, evO_v, evO_op, evO_neg, evO_no, bO_defD, evE_k, evE_v, evE_g, evE_opD, evE_negD, evE_cmpD, evE_chainD, evE_andD, evE_orD, evE_notD, evE_ifeD, evE_tupD, evE_lstD, evE_ixD, evE_slD, evE_biD, evE_meD, evE_callD, evE_callkD, evE_isiD, evE_mk, evA_consD, evA_nil, Env.at, Env.cur, Env.curs, Env.see, Env.store, Env.setS, Env.tak, Env.taks, Env.put, Env.hand, Env.back, Env.holds, Env.setWs, Env.setW, sameKey, Env.okey, Env.fz, fzb, oi_0, oi_1, oi_2, oi_3, oi_4, L2.ixN, truth, biOp, ob_add, ob_sub, ob_cat, oc_lt, oc_le, oc_gt, oc_ge, oc_eq, oc_ne, oc_in, oc_nin, oc_is, oc_isn, eq_int, eq_bl, eq_nil, isNonD, f10, e1, hv, e2, ob_pow]
  · obtain ⟨u, p2, e2, h4, h5, h6⟩ := draw (n := n) (m := 60) h1 (by omega) (by omega) (by decide)
    refine ⟨u - 20, p2, ?_, h4.mono (by omega)⟩
    show runF (callN T (n + 1)) f10 [(p, true)] = _
    simp [bndD_ok, bndD_exc, bndD_bad, stD_ok, stD_exc, stD_bad, sqD_nx, sqD_brk, sqD_cnt, sqD_ret, sqD_exc, sqD_bad, runF, env0, slotsOf, evS_seqD, evS_ifsD, evS_skip, evS_setD, evS_subD, evS_retD, evS_dropD, evS_parD, evT_k, evT_v, evT_cmp, evT_call, evT_isi, evT_chain, evT_andD, evT_orD, evT_notD, bT_defD, evO_k, evO_v, evO_op, evO_neg, evO_no, bO_defD, evE_k, evE_v, evE_g, evE_opD, evE_negD, evE_cmpD, evE_chainD, evE_andD, evE_orD, evE_notD, evE_ifeD, evE_tupD, evE_lstD, evE_ixD, evE_slD, evE_biD, evE_meD, evE_callD, evE_callkD, evE_isiD, evE_mk, evA_consD, evA_nil, Env.at, Env.cur, Env.curs, Env.see, Env.store, Env.setS, Env.tak, Env.taks, Env.put, Env.hand, Env.back, Env.holds, Env.setWs, Env.setW, sameKey, Env.okey, Env.fz, fzb, oi_0, oi_1, oi_2, oi_3, oi_4, L2.ixN, truth, biOp, ob_add, ob_sub, ob_cat, oc_lt, oc_le, oc_gt, oc_ge, oc_eq, oc_ne, oc_in, oc_nin, oc_is, oc_isn, eq_int, eq_bl, eq_nil, isNonD, f10, e1, hv, e2]
/-- what a simple value is -/
inductive Sim : D → Prop where
  | int (i : Int) : Sim (.int i)
  | str (s : Str) : s.length ≤ 60 → strOkM s = true → Sim (.str s)
  | bl (b : Bool) : Sim (.bl b)
  | non : Sim .non
  | exn : Sim (.exn "Nothing" [] [])
theorem simple {n : Nat} {b : Int} {p : D} (hp : PenOk b p) (hb : b < 600000) : ∃ d p', callN T (n + 3) 11 [(p, true)] = .ok d false [(p', true)] ∧ PenOk (b + 23) p' ∧ Sim d := by
  obtain ⟨v, p1, e1, h1, h2, h3⟩ := draw (n := n + 1) (m := 7) hp (by omega) (by omega) (by decide)
  by_cases h3 : v < 3
  · obtain ⟨i, p2, e2, h4⟩ := number (n := n) h1 (by omega)
    refine ⟨.int i, p2, ?_, h4.mono (by omega), .int i⟩
    show runF (callN T (n + 2)) f11 [(p, true)] = _
    simp [bndD_ok, bndD_exc, bndD_bad, stD_ok, stD_exc, stD_bad, sqD_nx, sqD_brk, sqD_cnt, sqD_ret, sqD_exc, sqD_bad, runF, env0, slotsOf, evS_seqD, evS_ifsD, evS_skip, evS_setD, evS_subD, evS_retD, evS_dropD, evS_parD, evT_k, evT_v, evT_cmp, evT_call, evT_isi, evT_chain, evT_andD, evT_orD, evT_notD, bT_defD, evO_k, evO_v, evO_op, evO_neg, evO_no, bO_defD, evE_k, evE_v, evE_g, evE_opD, evE_negD, evE_cmpD, evE_chainD, evE_andD, evE_orD, evE_notD, evE_ifeD, evE_tupD, evE_lstD, evE_ixD, evE_slD, evE_biD, evE_meD, evE_callD, evE_callkD, evE_isiD, evE_mk, evA_consD, evA_nil, Env.at, Env.cur, Env.curs, Env.see, Env.store, Env.setS, Env.tak, Env.taks, Env.put, Env.hand, Env.back, Env.holds, Env.setWs, Env.setW, sameKey, Env.okey, Env.fz, fzb, oi_0, oi_1, oi_2, oi_3, oi_4, L2.ixN, truth, biOp, ob_add, ob_sub, ob_cat, oc_lt, oc_le, oc_gt, oc_ge, oc_eq, oc_ne, oc_in, oc_nin, oc_is, oc_isn, eq_int, eq_bl, eq_nil, isNonD, f11, e1, h3, e2]
  · by_cases h5 : v < 5
    · obtain ⟨s, p2, e2, h4, h6, h7⟩ := text (n := n) h1 (by omega)
      refine ⟨.str s, p2, ?_, h4.mono (by omega), .str s h6 h7⟩
      show runF (callN T (n + 2)) f11 [(p, true)] = _
      simp [bndD_ok, bndD_exc, bndD_bad, stD_ok, stD_exc, stD_bad, sqD_nx, sqD_brk, sqD_cnt, sqD_ret, sqD_exc, sqD_bad, runF, env0, slotsOf, evS_seqD, evS_ifsD, evS_skip, evS_setD, evS_subD, evS_retD, evS_dropD, evS_parD, evT_k, evT_v, evT_cmp, evT_call, evT_isi, evT_chain, evT_andD, evT_orD, evT_notD, bT_defD, evO_k, evO_v, evO_op, evO_neg, evO_no, bO_defD, evE_k, evE_v, evE_g, evE_opD, evE_negD, evE_cmpD, evE_chainD, evE_andD, evE_orD, evE_notD, evE_ifeD, evE_tupD, evE_lstD, evE_ixD, evE_slD, evE_biD, evE_meD, evE_callD, evE_callkD, evE_isiD, evE_mk, evA_consD, evA_nil, Env.at, Env.cur, Env.curs, Env.see, Env.store, Env.setS, Env.tak, Env.taks, Env.put, Env.hand, Env.back, Env.holds, Env.setWs, Env.setW, sameKey, Env.okey, Env.fz, fzb, oi_0, oi_1, oi_2, oi_3, oi_4, L2.ixN, truth, biOp, ob_add, ob_sub, ob_cat, oc_lt, oc_le, oc_gt, oc_ge, oc_eq, oc_ne, oc_in, oc_nin, oc_is, oc_isn, eq_int, eq_bl, eq_nil, isNonD, f11, e1, h3, h5, e2]
    · by_cases h6 : v = 5
      · obtain ⟨u, p2, e2, h7, h8, h9⟩ := draw (n := n + 1) (m := 3) h1 (by omega) (by omega) (by decide)
        obtain ⟨d, hc, hd⟩ := ix_all (xs := [.bl true, .bl false, .non]) (P := Sim) (fun d hd => by
          simp only [List.mem_cons, List.not_mem_nil, or_false] at hd
          rcases hd with rfl | rfl | rfl
          · exact .bl true
          · exact .bl false
          · exact .non) h8 h9
        refine ⟨d, p2, ?_, h7.mono (by omega), hd⟩
        show runF (callN T (n + 2)) f11 [(p, true)] = _
        simp [bndD_ok, bndD_exc, bndD_bad, stD_ok, stD_exc, stD_bad, sqD_nx, sqD_brk, sqD_cnt, sqD_ret, sqD_exc, sqD_bad, runF, env0, slotsOf, evS_seqD, evS_ifsD, evS_skip, evS_setD, evS_subD, evS_retD, evS_dropD, evS_parD, evT_k, evT_v, evT_cmp, evT_call, evT_isi, evT_chain, evT_andD, evT_orD, evT_notD, bT_defD, evO_k, evO_v, evO_op, evO_neg, evO_no, bO_defD, evE_k, evE_v, evE_g, evE_opD, evE_negD, evE_cmpD, evE_chainD, evE_andD, evE_orD, evE_notD, evE_ifeD, evE_tupD, evE_lstD, evE_ixD, evE_slD, evE_biD, evE_meD, evE_callD, evE_callkD, evE_isiD, evE_mk, evA_consD, evA_nil, Env.at, Env.cur, Env.curs, Env.see, Env.store, Env.setS, Env.tak, Env.taks, Env.put, Env.hand, Env.back, Env.holds, Env.setWs, Env.setW, sameKey, Env.okey, Env.fz, fzb, oi_0, oi_1, oi_2, oi_3, oi_4, L2.ixN, truth, biOp, ob_add, ob_sub, ob_cat, oc_lt, oc_le, oc_gt, oc_ge, oc_eq, oc_ne, oc_in, oc_nin, oc_is, oc_isn, eq_int, eq_bl, eq_nil, isNonD, f11, e1, h3, h5, h6, e2, hc, lim]
      · refine ⟨.exn "Nothing" [] [], p1, ?_, h1.mono (by omega), .exn⟩
        show runF (callN T (n + 2)) f11 [(p, true)] = _
        simp [bndD_ok, bndD_exc, bndD_bad, stD_ok, stD_exc, stD_bad, sqD_nx, sqD_brk, sqD_cnt, sqD_ret, sqD_exc, sqD_bad, runF, env0, slotsOf, evS_seqD, evS_ifsD, evS_skip, evS_setD, evS_subD, evS_retD, evS_dropD, evS_parD, evT_k, evT_v, evT_cmp, evT_call, evT_isi, evT_chain, evT_andD, evT_orD, evT_notD, bT_defD, evO_k, evO_v, evO_op, evO_neg, evO_no, bO_defD, evE_k, evE_v, evE_g, evE_opD, evE_negD, evE_cmpD, evE_chainD, evE_andD, evE_orD, evE_notD, evE_ifeD, evE_tupD, evE_lstD, evE_ixD, evE_slD, evE_biD, evE_meD, evE_callD, evE_callkD, evE_isiD, evE_mk, evA_consD, evA_nil, Env.at, Env.cur, Env.curs, Env.see, Env.store, Env.setS, Env.tak, Env.taks, Env.put, Env.hand, Env.back, Env.holds, Env.setWs, Env.setW, sameKey, Env.okey, Env.fz, fzb, oi_0, oi_1, oi_2, oi_3, oi_4, L2.ixN, truth, biOp, ob_add, ob_sub, ob_cat, oc_lt, oc_le, oc_gt, oc_ge, oc_eq, oc_ne, oc_in, oc_nin, oc_is, oc_isn, eq_int, eq_bl, eq_nil, isNonD, f11, e1, h3, h5, h6]
end K01

set_option Elab.async false
set_option linter.all false
set_option maxRecDepth 100000
set_option maxHeartbeats 0
namespace K01
open PySem L2 Mi
theorem lc_run {cal : Cal} {tg : Tg} {el it c : Ex} {e e1 e2 : Mi.Env} {xs ys : List D} {ss : List Mi.Slot} (h1 : evI cal it e = .ok xs e1) (h2 : e1.parked tg.ids = some ss) (h3 : lcL (fun d e => match e.bindT tg d with
        | some e' => evT cal c e'
        | none => .bad) (fun e => evE cal el e) xs [] (e1.wipeS tg.ids) = .ok ys e2) : evE cal (.lc tg el it c) e = .ok (.o (.lst ys)) (e2.backS tg.ids ss) := by
  rw [evE_lc, h1]
  show (match e1.parked tg.ids with
    | some ss => (match lcL (fun d e => match e.bindT tg d with
        | some e' => evT cal c e'
        | none => .bad) (fun e => evE cal el e) xs [] (e1.wipeS tg.ids) with
      | .ok ys e2 => R.ok (W.o (.lst ys)) (e2.backS tg.ids ss)
      | _ => R.bad)
    | none => R.bad) = _
  rw [h2]
  dsimp only
  rw [h3]
theorem row_lc {n : Nat} {b : Int} {p : D} (hp : PenOk b p) (hb : b < 500000) : ∃ xs p', evE (callN T (n + 3)) (.lc (.one 2) (.call 10 (.cons (.v 0) .nil)) (.rng1 (.call 7 (.cons (.v 0) (.cons (.k (.int 9)) .nil)))) (.k (.bl true))) ⟨[.lent 0, .no, .no], [(p, true)]⟩ = .ok (.o (.lst xs)) ⟨[.lent 0, .no, .no], [(p', true)]⟩ ∧ PenOk (b + 20) p' ∧ xs.length ≤ 9 ∧ ∀ d ∈ xs, Sim d := by
  obtain ⟨v, p1, e, h1, h2, h3⟩ := draw (n := n + 2) (m := 9) hp (by omega) (by omega) (by decide)
  have ei : evI (callN T (n + 3)) (.rng1 (.call 7 (.cons (.v 0) (.cons (.k (.int 9)) .nil)))) ⟨[.lent 0, .no, .no], [(p, true)]⟩ = .ok (rngD 0 v) ⟨[.lent 0, .no, .no], [(p1, true)]⟩ := evI_rng (by simp [bndD_ok, bndD_exc, bndD_bad, stD_ok, stD_exc, stD_bad, sqD_nx, sqD_brk, sqD_cnt, sqD_ret, sqD_exc, sqD_bad, runF, env0, slotsOf, evS_seqD, evS_ifsD, evS_skip, evS_setD, evS_subD, evS_retD, evS_dropD, evS_parD, evT_k, evT_v, evT_cmp, evT_call, evT_isi, evT_chain, evT_andD, evT_orD, evT_notD, bT_defD, evO_k, evO_v, evO_op, evO_neg, evO_no, bO_defD, evE_k, evE_v, evE_g, evE_opD, evE_negD, evE_cmpD, evE_chainD, evE_andD, evE_orD, evE_notD, evE_ifeD, evE_tupD, evE_lstD, evE_ixD, evE_slD, evE_biD, evE_meD, evE_callD, evE_callkD, evE_isiD, evE_mk, evA_consD, evA_nil, Env.at, Env.cur, Env.curs, Env.see, Env.store, Env.setS, Env.tak, Env.taks, Env.put, Env.hand, Env.back, Env.holds, Env.setWs, Env.setW, sameKey, Env.okey, Env.fz, fzb, oi_0, oi_1, oi_2, oi_3, oi_4, L2.ixN, truth, biOp, ob_add, ob_sub, ob_cat, oc_lt, oc_le, oc_gt, oc_ge, oc_eq, oc_ne, oc_in, oc_nin, oc_is, oc_isn, eq_int, eq_bl, eq_nil, isNonD, e]) (by omega)
  have hl := rng_len v
  obtain ⟨ys, e', h4, h5, h6, h7⟩ := lcL_inv (P := fun j e => ∃ q s, e = ⟨[.lent 0, .no, s], [(q, true)]⟩ ∧ PenOk (b + 1 + 2 * (j : Int)) q) (Q := Sim) (c := fun d e => match e.bindT (.one 2) d with
        | some e' => evT (callN T (n + 3)) (.k (.bl true)) e'
        | none => .bad) (f := fun e => evE (callN T (n + 3)) (.call 10 (.cons (.v 0) .nil)) e) (xs := rngD 0 v) (acc := []) (k := 0) (e := ⟨[.lent 0, .no, .no], [(p1, true)]⟩) ⟨p1, .no, rfl, by simpa using h1⟩ (by simp [lim]; omega) (by simp) (fun d _ j e hj hP => by
      obtain ⟨q, s, rfl, g1⟩ := hP
      obtain ⟨i, q', g2, g3⟩ := number (n := n + 1) g1 (by omega)
      refine ⟨.int i, ⟨[.lent 0, .no, .val d], [(q', true)]⟩, ?_, .int i, q', _, rfl, g3.mono (by omega)⟩
      simp [bndD_ok, bndD_exc, bndD_bad, stD_ok, stD_exc, stD_bad, sqD_nx, sqD_brk, sqD_cnt, sqD_ret, sqD_exc, sqD_bad, runF, env0, slotsOf, evS_seqD, evS_ifsD, evS_skip, evS_setD, evS_subD, evS_retD, evS_dropD, evS_parD, evT_k, evT_v, evT_cmp, evT_call, evT_isi, evT_chain, evT_andD, evT_orD, evT_notD, bT_defD, evO_k, evO_v, evO_op, evO_neg, evO_no, bO_defD, evE_k, evE_v, evE_g, evE_opD, evE_negD, evE_cmpD, evE_chainD, evE_andD, evE_orD, evE_notD, evE_ifeD, evE_tupD, evE_lstD, evE_ixD, evE_slD, evE_biD, evE_meD, evE_callD, evE_callkD, evE_isiD, evE_mk, evA_consD, evA_nil, Env.at, Env.cur, Env.curs, Env.see, Env.store, Env.setS, Env.tak, Env.taks, Env.put, Env.hand, Env.back, Env.holds, Env.setWs, Env.setW, sameKey, Env.okey, Env.fz, fzb, oi_0, oi_1, oi_2, oi_3, oi_4, L2.ixN, truth, biOp, ob_add, ob_sub, ob_cat, oc_lt, oc_le, oc_gt, oc_ge, oc_eq, oc_ne, oc_in, oc_nin, oc_is, oc_isn, eq_int, eq_bl, eq_nil, isNonD, Env.bindT, g2])
  obtain ⟨q, s, rfl, g1⟩ := h7
  refine ⟨ys, q, ?_, g1.mono (by omega), by simp at h6; omega, h5⟩
  rw [lc_run (ss := [.no]) ei rfl h4] <;> rfl
theorem row {n : Nat} {b : Int} {p : D} (hp : PenOk b p) (hb : b < 400000) : ∃ xs p', callN T (n + 4) 12 [(p, true)] = .ok (.lst xs) true [(p', true)] ∧ PenOk (b + 50) p' ∧ xs.length ≤ 9 ∧ ∀ d ∈ xs, Sim d := by
  obtain ⟨xs, p1, e1, h1, h2, h3⟩ := row_lc (n := n) hp (by omega)
  obtain ⟨v, p2, e2, h4, _, _⟩ := draw (n := n + 2) (m := 2) h1 (by omega) (by omega) (by decide)
  by_cases hv : v = 1
  · by_cases hx : xs.isEmpty = true
    · refine ⟨xs, p2, ?_, h4.mono (by omega), h2, h3⟩
      show runF (callN T (n + 3)) f12 [(p, true)] = _
      simp [bndD_ok, bndD_exc, bndD_bad, stD_ok, stD_exc, stD_bad, sqD_nx, sqD_brk, sqD_cnt, sqD_ret, sqD_exc, sqD_bad, runF, env0, slotsOf, evS_seqD, evS_ifsD, evS_skip, evS_setD, evS_subD, evS_retD, evS_dropD, evS_parD, evT_k, evT_v, evT_cmp, evT_call, evT_isi, evT_chain, evT_andD, evT_orD, evT_notD, bT_defD, evO_k, evO_v, evO_op, evO_neg, evO_no, bO_defD, evE_k, evE_v, evE_g, evE_opD, evE_negD, evE_cmpD, evE_chainD, evE_andD, evE_orD, evE_notD, evE_ifeD, evE_tupD, evE_lstD, evE_ixD, evE_slD, evE_biD, evE_meD, evE_callD, evE_callkD, evE_isiD, evE_mk, evA_consD, evA_nil, Env.at, Env.cur, Env.curs, Env.see, Env.store, Env.setS, Env.tak, Env.taks, Env.put, Env.hand, Env.back, Env.holds, Env.setWs, Env.setW, sameKey, Env.okey, Env.fz, fzb, oi_0, oi_1, oi_2, oi_3, oi_4, L2.ixN, truth, biOp, ob_add, ob_sub, ob_cat, oc_lt, oc_le, oc_gt, oc_ge, oc_eq, oc_ne, oc_in, oc_nin, oc_is, oc_isn, eq_int, eq_bl, eq_nil, isNonD, f12, e1, e2, hv, hx, lim]
    · obtain ⟨d, p3, e3, h5, h6⟩ := simple (n := n) h4 (by omega)
      have hl : 0 < xs.length := by
        cases xs with
        | nil => exact absurd rfl hx
        | cons => simp
      obtain ⟨w, p4, e4, h7, h8, h9⟩ := draw (n := n + 2) (m := (xs.length : Int)) h5 (by omega) (by omega) (log_small (by omega) (by omega))
      refine ⟨xs.set w.toNat d, p4, ?_, h7.mono (by omega), by simpa using h2, fun y hy => ?_⟩
      · show runF (callN T (n + 3)) f12 [(p, true)] = _
        simp [bndD_ok, bndD_exc, bndD_bad, stD_ok, stD_exc, stD_bad, sqD_nx, sqD_brk, sqD_cnt, sqD_ret, sqD_exc, sqD_bad, runF, env0, slotsOf, evS_seqD, evS_ifsD, evS_skip, evS_setD, evS_subD, evS_retD, evS_dropD, evS_parD, evT_k, evT_v, evT_cmp, evT_call, evT_isi, evT_chain, evT_andD, evT_orD, evT_notD, bT_defD, evO_k, evO_v, evO_op, evO_neg, evO_no, bO_defD, evE_k, evE_v, evE_g, evE_opD, evE_negD, evE_cmpD, evE_chainD, evE_andD, evE_orD, evE_notD, evE_ifeD, evE_tupD, evE_lstD, evE_ixD, evE_slD, evE_biD, evE_meD, evE_callD, evE_callkD, evE_isiD, evE_mk, evA_consD, evA_nil, Env.at, Env.cur, Env.curs, Env.see, Env.store, Env.setS, Env.tak, Env.taks, Env.put, Env.hand, Env.back, Env.holds, Env.setWs, Env.setW, sameKey, Env.okey, Env.fz, fzb, oi_0, oi_1, oi_2, oi_3, oi_4, L2.ixN, truth, biOp, ob_add, ob_sub, ob_cat, oc_lt, oc_le, oc_gt, oc_ge, oc_eq, oc_ne, oc_in, oc_nin, oc_is, oc_isn, eq_int, eq_bl, eq_nil, isNonD, f12, e1, e2, hv, hx, lim, e3, e4, h8, h9]
      · rcases List.mem_or_eq_of_mem_set hy with h | rfl
        · exact h3 y h
        · exact h6
  · refine ⟨xs, p2, ?_, h4.mono (by omega), h2, h3⟩
    show runF (callN T (n + 3)) f12 [(p, true)] = _
    simp [bndD_ok, bndD_exc, bndD_bad, stD_ok, stD_exc, stD_bad, sqD_nx, sqD_brk, sqD_cnt, sqD_ret, sqD_exc, sqD_bad, runF, env0, slotsOf, evS_seqD, evS_ifsD, evS_skip, evS_setD, evS_subD, evS_retD, evS_dropD, evS_parD, evT_k, evT_v, evT_cmp, evT_call, evT_isi, evT_chain, evT_andD, evT_orD, evT_notD, bT_defD, evO_k, evO_v, evO_op, evO_neg, evO_no, bO_defD, evE_k, evE_v, evE_g, evE_opD, evE_negD, evE_cmpD, evE_chainD, evE_andD, evE_orD, evE_notD, evE_ifeD, evE_tupD, evE_lstD, evE_ixD, evE_slD, evE_biD, evE_meD, evE_callD, evE_callkD, evE_isiD, evE_mk, evA_consD, evA_nil, Env.at, Env.cur, Env.curs, Env.see, Env.store, Env.setS, Env.tak, Env.taks, Env.put, Env.hand, Env.back, Env.holds, Env.setWs, Env.setW, sameKey, Env.okey, Env.fz, fzb, oi_0, oi_1, oi_2, oi_3, oi_4, L2.ixN, truth, biOp, ob_add, ob_sub, ob_cat, oc_lt, oc_le, oc_gt, oc_ge, oc_eq, oc_ne, oc_in, oc_nin, oc_is, oc_isn, eq_int, eq_bl, eq_nil, isNonD, f12, e1, e2, hv]
end K01

set_option Elab.async false
set_option linter.all false
set_option maxRecDepth 100000
set_option maxHeartbeats 0
namespace Mi
open PySem
/-- a loop that goes on while g holds, and returns r at the first that has it not -/
theorem forL_find {P Q : Env → Prop} {f : D → Env → SR} {g : D → Bool} {r : D} {o : Bool} : ∀ {xs : List D} {e : Env}, P e →
    (∀ d ∈ xs, ∀ e, P e → (g d = true ∧ ∃ e', f d e = .nx e' ∧ P e') ∨ (g d = false ∧ ∃ e', f d e = .ret r o e' ∧ Q e')) →
    (xs.all g = true ∧ ∃ e', forL f xs e = .nx e' ∧ P e') ∨ (xs.all g = false ∧ ∃ e', forL f xs e = .ret r o e' ∧ Q e')
  | [], e, h, _ => .inl ⟨rfl, e, rfl, h⟩
  | d :: ds, e, h, H => by
    have u : forL f (d :: ds) e = (match f d e with
      | .nx e1 => forL f ds e1
      | .cnt e1 => forL f ds e1
      | .brk e1 => .nx e1
      | r => r) := rfl
    rcases H d List.mem_cons_self e h with ⟨h1, e1, h2, h3⟩ | ⟨h1, e1, h2, h3⟩
    · rw [u, h2, List.all_cons, h1, Bool.true_and]
      exact forL_find h3 fun d hd => H d (List.mem_cons_of_mem _ hd)
    · rw [u, h2, List.all_cons, h1]
      exact .inr ⟨rfl, e1, rfl, h3⟩
/-- a comprehension that keeps what g holds of -/
theorem lcL_filter {P : Env → Prop} {c : D → Env → R Bool} {f : Env → R W} {g : D → Bool} : ∀ {xs acc : List D} {e : Env}, P e → acc.length + xs.length ≤ lim →
    (∀ d ∈ xs, ∀ e, P e → ∃ e1, c d e = .ok (g d) e1 ∧ P e1 ∧ ∃ w e2 e3, f e1 = .ok w e2 ∧ e2.tak w = some (d, e3) ∧ P e3) → ∃ e', lcL c f xs acc e = .ok (acc ++ xs.filter g) e' ∧ P e'
  | [], acc, e, h, _, _ => ⟨e, by rw [List.filter_nil, List.append_nil] <;> rfl, h⟩
  | d :: ds, acc, e, h, hl, H => by
    have u : lcL c f (d :: ds) acc e = (c d e).bnd (fun t e1 => if t then (f e1).bnd fun w e2 => (match e2.tak w with
        | some (y, e3) => if acc.length < lim then lcL c f ds (acc ++ [y]) e3 else .bad
        | none => .bad) else lcL c f ds acc e1) := rfl
    obtain ⟨e1, h1, h2, w, e2, e3, h3, h4, h5⟩ := H d List.mem_cons_self e h
    have hl1 : acc.length + (ds.length + 1) ≤ lim := by simpa using hl
    rw [u, h1]
    cases hg : g d with
    | false =>
      obtain ⟨e', h6, h7⟩ := lcL_filter (acc := acc) (c := c) (f := f) h2 (by omega) fun d hd => H d (List.mem_cons_of_mem _ hd)
      refine ⟨e', ?_, h7⟩
      rw [List.filter_cons, hg]
      exact h6
    | true =>
      obtain ⟨e', h6, h7⟩ := lcL_filter (acc := acc ++ [d]) (c := c) (f := f) h5 (by simp; omega) fun d hd => H d (List.mem_cons_of_mem _ hd)
      refine ⟨e', ?_, h7⟩
      rw [List.filter_cons, hg]
      simp only [R.bnd_ok, if_true, h3, h4]
      rw [if_pos (by omega), h6]
      simp
end Mi
namespace K01
open PySem L2 Mi
/-- what isinstance answers of -/
def Kn (d : D) : Prop := (tyName d).isSome = true ∨ ∃ c ns xs, d = .exn c ns xs
theorem Kn.all {P : D → Prop} (h0 : P .non) (h1 : ∀ b, P (.bl b)) (h2 : ∀ i, P (.int i)) (h3 : ∀ s, P (.str s)) (h4 : ∀ xs, P (.lst xs)) (h5 : ∀ xs, P (.tup xs)) (h6 : ∀ c ns xs, P (.exn c ns xs)) {d : D} (h : Kn d) : P d := by
  cases d with
  | non => exact h0
  | bl b => exact h1 b
  | int i => exact h2 i
  | str s => exact h3 s
  | lst xs => exact h4 xs
  | tup xs => exact h5 xs
  | exn c ns xs => exact h6 c ns xs
  | _ => rcases h with h | ⟨_, _, _, h⟩ <;> cases h
def isInt : D → Bool
  | .int _ => true
  | _ => false
def isStr : D → Bool
  | .str _ => true
  | _ => false
def isBl : D → Bool
  | .bl _ => true
  | _ => false
def isSeq : D → Bool
  | .lst _ => true
  | .tup _ => true
  | _ => false
theorem isi_int {d : D} (h : Kn d) : isiD ["int"] d = some (isInt d || isBl d) := h.all (P := fun d => isiD ["int"] d = some (isInt d || isBl d)) rfl (fun _ => rfl) (fun _ => rfl) (fun _ => rfl) (fun _ => rfl) (fun _ => rfl) (fun _ _ _ => rfl)
theorem isi_bool {d : D} (h : Kn d) : isiD ["bool"] d = some (isBl d) := h.all (P := fun d => isiD ["bool"] d = some (isBl d)) rfl (fun _ => rfl) (fun _ => rfl) (fun _ => rfl) (fun _ => rfl) (fun _ => rfl) (fun _ _ _ => rfl)
theorem isi_str {d : D} (h : Kn d) : isiD ["str"] d = some (isStr d) := h.all (P := fun d => isiD ["str"] d = some (isStr d)) rfl (fun _ => rfl) (fun _ => rfl) (fun _ => rfl) (fun _ => rfl) (fun _ => rfl) (fun _ _ _ => rfl)
theorem isi_seq {d : D} (h : Kn d) : isiD ["list", "tuple"] d = some (isSeq d) := h.all (P := fun d => isiD ["list", "tuple"] d = some (isSeq d)) rfl (fun _ => rfl) (fun _ => rfl) (fun _ => rfl) (fun _ => rfl) (fun _ => rfl) (fun _ _ _ => rfl)
theorem is_integer {n : Nat} {d : D} (h : Kn d) : callN T (n + 1) 0 [(d, false)] = .ok (.bl (isInt d)) false [(d, false)] := by
  show runF (callN T n) f0 [(d, false)] = _
  revert h
  cases d <;> intro h <;> simp [bndD_ok, bndD_exc, bndD_bad, stD_ok, stD_exc, stD_bad, sqD_nx, sqD_brk, sqD_cnt, sqD_ret, sqD_exc, sqD_bad, runF, env0, slotsOf, evS_seqD, evS_ifsD, evS_skip, evS_setD, evS_subD, evS_retD, evS_dropD, evS_parD, evT_k, evT_v, evT_cmp, evT_call, evT_isi, evT_chain, evT_andD, evT_orD, evT_notD, bT_defD, evO_k, evO_v, evO_op, evO_neg, evO_no, bO_defD, evE_k, evE_v, evE_g, evE_opD, evE_negD, evE_cmpD, evE_chainD, evE_andD, evE_orD, evE_notD, evE_ifeD, evE_tupD, evE_lstD, evE_ixD, evE_slD, evE_biD, evE_meD, evE_callD, evE_callkD, evE_isiD, evE_mk, evA_consD, evA_nil, Env.at, Env.cur, Env.curs, Env.see, Env.store, Env.setS, Env.tak, Env.taks, Env.put, Env.hand, Env.back, Env.holds, Env.setWs, Env.setW, sameKey, Env.okey, Env.fz, fzb, oi_0, oi_1, oi_2, oi_3, oi_4, L2.ixN, truth, biOp, ob_add, ob_sub, ob_cat, oc_lt, oc_le, oc_gt, oc_ge, oc_eq, oc_ne, oc_in, oc_nin, oc_is, oc_isn, eq_int, eq_bl, eq_nil, isNonD, f0, isi_int h, isi_bool h, isInt, isBl]
theorem plain {n : Nat} {d : D} (h : Kn d) : callN T (n + 1) 13 [(d, false)] = .ok (.bl (isInt d)) false [(d, false)] := @is_integer n d h
def leO : D → D → Bool
  | .int i, .int j => decide (i ≤ j)
  | _, _ => true
def wB (v lo hi : D) : Bool := isInt v && (leO lo v && leO v hi)
def Bd (d : D) : Prop := d = .non ∨ ∃ i, d = .int i
theorem is_within {n : Nat} {d lo hi : D} (h : Kn d) (hl : Bd lo) (hh : Bd hi) : callN T (n + 2) 1 [(d, false), (lo, false), (hi, false)] = .ok (.bl (wB d lo hi)) false [(d, false), (lo, false), (hi, false)] := by
  show runF (callN T (n + 1)) f1 [(d, false), (lo, false), (hi, false)] = _
  have e := is_integer (n := n) h
  cases hd : isInt d with
  | false => simp [bndD_ok, bndD_exc, bndD_bad, stD_ok, stD_exc, stD_bad, sqD_nx, sqD_brk, sqD_cnt, sqD_ret, sqD_exc, sqD_bad, runF, env0, slotsOf, evS_seqD, evS_ifsD, evS_skip, evS_setD, evS_subD, evS_retD, evS_dropD, evS_parD, evT_k, evT_v, evT_cmp, evT_call, evT_isi, evT_chain, evT_andD, evT_orD, evT_notD, bT_defD, evO_k, evO_v, evO_op, evO_neg, evO_no, bO_defD, evE_k, evE_v, evE_g, evE_opD, evE_negD, evE_cmpD, evE_chainD, evE_andD, evE_orD, evE_notD, evE_ifeD, evE_tupD, evE_lstD, evE_ixD, evE_slD, evE_biD, evE_meD, evE_callD, evE_callkD, evE_isiD, evE_mk, evA_consD, evA_nil, Env.at, Env.cur, Env.curs, Env.see, Env.store, Env.setS, Env.tak, Env.taks, Env.put, Env.hand, Env.back, Env.holds, Env.setWs, Env.setW, sameKey, Env.okey, Env.fz, fzb, oi_0, oi_1, oi_2, oi_3, oi_4, L2.ixN, truth, biOp, ob_add, ob_sub, ob_cat, oc_lt, oc_le, oc_gt, oc_ge, oc_eq, oc_ne, oc_in, oc_nin, oc_is, oc_isn, eq_int, eq_bl, eq_nil, isNonD, f1, e, hd, wB]
  | true =>
    cases d with
    | int i =>
      rcases hl with rfl | ⟨j, rfl⟩
      · rcases hh with rfl | ⟨k, rfl⟩
        · simp [bndD_ok, bndD_exc, bndD_bad, stD_ok, stD_exc, stD_bad, sqD_nx, sqD_brk, sqD_cnt, sqD_ret, sqD_exc, sqD_bad, runF, env0, slotsOf, evS_seqD, evS_ifsD, evS_skip, evS_setD, evS_subD, evS_retD, evS_dropD, evS_parD, evT_k, evT_v, evT_cmp, evT_call, evT_isi, evT_chain, evT_andD, evT_orD, evT_notD, bT_defD, evO_k, evO_v, evO_op, evO_neg, evO_no, bO_defD, evE_k, evE_v, evE_g, evE_opD, evE_negD, evE_cmpD, evE_chainD, evE_andD, evE_orD, evE_notD, evE_ifeD, evE_tupD, evE_lstD, evE_ixD, evE_slD, evE_biD, evE_meD, evE_callD, evE_callkD, evE_isiD, evE_mk, evA_consD, evA_nil, Env.at, Env.cur, Env.curs, Env.see, Env.store, Env.setS, Env.tak, Env.taks, Env.put, Env.hand, Env.back, Env.holds, Env.setWs, Env.setW, sameKey, Env.okey, Env.fz, fzb, oi_0, oi_1, oi_2, oi_3, oi_4, L2.ixN, truth, biOp, ob_add, ob_sub, ob_cat, oc_lt, oc_le, oc_gt, oc_ge, oc_eq, oc_ne, oc_in, oc_nin, oc_is, oc_isn, eq_int, eq_bl, eq_nil, isNonD, f1, e, hd, wB, leO]
        · simp [bndD_ok, bndD_exc, bndD_bad, stD_ok, stD_exc, stD_bad, sqD_nx, sqD_brk, sqD_cnt, sqD_ret, sqD_exc, sqD_bad, runF, env0, slotsOf, evS_seqD, evS_ifsD, evS_skip, evS_setD, evS_subD, evS_retD, evS_dropD, evS_parD, evT_k, evT_v, evT_cmp, evT_call, evT_isi, evT_chain, evT_andD, evT_orD, evT_notD, bT_defD, evO_k, evO_v, evO_op, evO_neg, evO_no, bO_defD, evE_k, evE_v, evE_g, evE_opD, evE_negD, evE_cmpD, evE_chainD, evE_andD, evE_orD, evE_notD, evE_ifeD, evE_tupD, evE_lstD, evE_ixD, evE_slD, evE_biD, evE_meD, evE_callD, evE_callkD, evE_isiD, evE_mk, evA_consD, evA_nil, Env.at, Env.cur, Env.curs, Env.see, Env.store, Env.setS, Env.tak, Env.taks, Env.put, Env.hand, Env.back, Env.holds, Env.setWs, Env.setW, sameKey, Env.okey, Env.fz, fzb, oi_0, oi_1, oi_2, oi_3, oi_4, L2.ixN, truth, biOp, ob_add, ob_sub, ob_cat, oc_lt, oc_le, oc_gt, oc_ge, oc_eq, oc_ne, oc_in, oc_nin, oc_is, oc_isn, eq_int, eq_bl, eq_nil, isNonD, f1, e, hd, wB, leO]
      · by_cases hj : i < j
        · have : ¬ j ≤ i := by omega
          rcases hh with rfl | ⟨k, rfl⟩
          · simp [bndD_ok, bndD_exc, bndD_bad, stD_ok, stD_exc, stD_bad, sqD_nx, sqD_brk, sqD_cnt, sqD_ret, sqD_exc, sqD_bad, runF, env0, slotsOf, evS_seqD, evS_ifsD, evS_skip, evS_setD, evS_subD, evS_retD, evS_dropD, evS_parD, evT_k, evT_v, evT_cmp, evT_call, evT_isi, evT_chain, evT_andD, evT_orD, evT_notD, bT_defD, evO_k, evO_v, evO_op, evO_neg, evO_no, bO_defD, evE_k, evE_v, evE_g, evE_opD, evE_negD, evE_cmpD, evE_chainD, evE_andD, evE_orD, evE_notD, evE_ifeD, evE_tupD, evE_lstD, evE_ixD, evE_slD, evE_biD, evE_meD, evE_callD, evE_callkD, evE_isiD, evE_mk, evA_consD, evA_nil, Env.at, Env.cur, Env.curs, Env.see, Env.store, Env.setS, Env.tak, Env.taks, Env.put, Env.hand, Env.back, Env.holds, Env.setWs, Env.setW, sameKey, Env.okey, Env.fz, fzb, oi_0, oi_1, oi_2, oi_3, oi_4, L2.ixN, truth, biOp, ob_add, ob_sub, ob_cat, oc_lt, oc_le, oc_gt, oc_ge, oc_eq, oc_ne, oc_in, oc_nin, oc_is, oc_isn, eq_int, eq_bl, eq_nil, isNonD, f1, e, hd, wB, leO, hj, this]
          · simp [bndD_ok, bndD_exc, bndD_bad, stD_ok, stD_exc, stD_bad, sqD_nx, sqD_brk, sqD_cnt, sqD_ret, sqD_exc, sqD_bad, runF, env0, slotsOf, evS_seqD, evS_ifsD, evS_skip, evS_setD, evS_subD, evS_retD, evS_dropD, evS_parD, evT_k, evT_v, evT_cmp, evT_call, evT_isi, evT_chain, evT_andD, evT_orD, evT_notD, bT_defD, evO_k, evO_v, evO_op, evO_neg, evO_no, bO_defD, evE_k, evE_v, evE_g, evE_opD, evE_negD, evE_cmpD, evE_chainD, evE_andD, evE_orD, evE_notD, evE_ifeD, evE_tupD, evE_lstD, evE_ixD, evE_slD, evE_biD, evE_meD, evE_callD, evE_callkD, evE_isiD, evE_mk, evA_consD, evA_nil, Env.at, Env.cur, Env.curs, Env.see, Env.store, Env.setS, Env.tak, Env.taks, Env.put, Env.hand, Env.back, Env.holds, Env.setWs, Env.setW, sameKey, Env.okey, Env.fz, fzb, oi_0, oi_1, oi_2, oi_3, oi_4, L2.ixN, truth, biOp, ob_add, ob_sub, ob_cat, oc_lt, oc_le, oc_gt, oc_ge, oc_eq, oc_ne, oc_in, oc_nin, oc_is, oc_isn, eq_int, eq_bl, eq_nil, isNonD, f1, e, hd, wB, leO, hj, this]
        · have : j ≤ i := by omega
          rcases hh with rfl | ⟨k, rfl⟩
          · simp [bndD_ok, bndD_exc, bndD_bad, stD_ok, stD_exc, stD_bad, sqD_nx, sqD_brk, sqD_cnt, sqD_ret, sqD_exc, sqD_bad, runF, env0, slotsOf, evS_seqD, evS_ifsD, evS_skip, evS_setD, evS_subD, evS_retD, evS_dropD, evS_parD, evT_k, evT_v, evT_cmp, evT_call, evT_isi, evT_chain, evT_andD, evT_orD, evT_notD, bT_defD, evO_k, evO_v, evO_op, evO_neg, evO_no, bO_defD, evE_k, evE_v, evE_g, evE_opD, evE_negD, evE_cmpD, evE_chainD, evE_andD, evE_orD, evE_notD, evE_ifeD, evE_tupD, evE_lstD, evE_ixD, evE_slD, evE_biD, evE_meD, evE_callD, evE_callkD, evE_isiD, evE_mk, evA_consD, evA_nil, Env.at, Env.cur, Env.curs, Env.see, Env.store, Env.setS, Env.tak, Env.taks, Env.put, Env.hand, Env.back, Env.holds, Env.setWs, Env.setW, sameKey, Env.okey, Env.fz, fzb, oi_0, oi_1, oi_2, oi_3, oi_4, L2.ixN, truth, biOp, ob_add, ob_sub, ob_cat, oc_lt, oc_le, oc_gt, oc_ge, oc_eq, oc_ne, oc_in, oc_nin, oc_is, oc_isn, eq_int, eq_bl, eq_nil, isNonD, f1, e, hd, wB, leO, hj, this]
          · simp [bndD_ok, bndD_exc, bndD_bad, stD_ok, stD_exc, stD_bad, sqD_nx, sqD_brk, sqD_cnt, sqD_ret, sqD_exc, sqD_bad, runF, env0, slotsOf, evS_seqD, evS_ifsD, evS_skip, evS_setD, evS_subD, evS_retD, evS_dropD, evS_parD, evT_k, evT_v, evT_cmp, evT_call, evT_isi, evT_chain, evT_andD, evT_orD, evT_notD, bT_defD, evO_k, evO_v, evO_op, evO_neg, evO_no, bO_defD, evE_k, evE_v, evE_g, evE_opD, evE_negD, evE_cmpD, evE_chainD, evE_andD, evE_orD, evE_notD, evE_ifeD, evE_tupD, evE_lstD, evE_ixD, evE_slD, evE_biD, evE_meD, evE_callD, evE_callkD, evE_isiD, evE_mk, evA_consD, evA_nil, Env.at, Env.cur, Env.curs, Env.see, Env.store, Env.setS, Env.tak, Env.taks, Env.put, Env.hand, Env.back, Env.holds, Env.setWs, Env.setW, sameKey, Env.okey, Env.fz, fzb, oi_0, oi_1, oi_2, oi_3, oi_4, L2.ixN, truth, biOp, ob_add, ob_sub, ob_cat, oc_lt, oc_le, oc_gt, oc_ge, oc_eq, oc_ne, oc_in, oc_nin, oc_is, oc_isn, eq_int, eq_bl, eq_nil, isNonD, f1, e, hd, wB, leO, hj, this]
    | _ => cases hd
end K01

set_option Elab.async false
set_option linter.all false
set_option maxRecDepth 100000
set_option maxHeartbeats 0
namespace K01
open PySem L2 Mi
def kB : D → Bool
  | .str s => inF (.str s) [.str "square", .str "triangle"]
  | _ => false
theorem in_kinds (s : Str) : opIn (.str s) (.tup [.str "square", .str "triangle"]) = some (kB (.str s)) := rfl
theorem is_kind {n : Nat} {d : D} (h : Kn d) : callN T (n + 1) 2 [(d, false)] = .ok (.bl (kB d)) false [(d, false)] := by
  show runF (callN T n) f2 [(d, false)] = _
  revert h
  cases d <;> intro h <;> simp [bndD_ok, bndD_exc, bndD_bad, stD_ok, stD_exc, stD_bad, sqD_nx, sqD_brk, sqD_cnt, sqD_ret, sqD_exc, sqD_bad, runF, env0, slotsOf, evS_seqD, evS_ifsD, evS_skip, evS_setD, evS_subD, evS_retD, evS_dropD, evS_parD, evT_k, evT_v, evT_cmp, evT_call, evT_isi, evT_chain, evT_andD, evT_orD, evT_notD, bT_defD, evO_k, evO_v, evO_op, evO_neg, evO_no, bO_defD, evE_k, evE_v, evE_g, evE_opD, evE_negD, evE_cmpD, evE_chainD, evE_andD, evE_orD, evE_notD, evE_ifeD, evE_tupD, evE_lstD, evE_ixD, evE_slD, evE_biD, evE_meD, evE_callD, evE_callkD, evE_isiD, evE_mk, evA_consD, evA_nil, Env.at, Env.cur, Env.curs, Env.see, Env.store, Env.setS, Env.tak, Env.taks, Env.put, Env.hand, Env.back, Env.holds, Env.setWs, Env.setW, sameKey, Env.okey, Env.fz, fzb, oi_0, oi_1, oi_2, oi_3, oi_4, L2.ixN, truth, biOp, ob_add, ob_sub, ob_cat, oc_lt, oc_le, oc_gt, oc_ge, oc_eq, oc_ne, oc_in, oc_nin, oc_is, oc_isn, eq_int, eq_bl, eq_nil, isNonD, f2, isi_str h, isStr, in_kinds, kB]
abbrev LT : Str := "abcdefghijklmnopqrstuvwxyz"
abbrev DG : Str := "0123456789"
abbrev LD : Str := "0123456789abcdefghijklmnopqrstuvwxyz"
def ltr (c : Nat) : Bool := decide (c ∈ LT.cps.toList)
def dig (c : Nat) : Bool := decide (c ∈ DG.cps.toList)
theorem in_LT (c : Nat) : opIn (.str ⟨#[c]⟩) (.str LT) = some (ltr c) := rfl
theorem in_DG (c : Nat) : opIn (.str ⟨#[c]⟩) (.str DG) = some (dig c) := rfl
theorem ld_eq : LD.cps.toList = DG.cps.toList ++ LT.cps.toList := by decide +kernel
theorem in_LD (c : Nat) : opIn (.str ⟨#[c]⟩) (.str LD) = some (ltr c || dig c) := by
  show some (decide (c ∈ LD.cps.toList)) = some (decide (c ∈ LT.cps.toList) || decide (c ∈ DG.cps.toList))
  rw [ld_eq]
  by_cases h1 : c ∈ LT.cps.toList <;> by_cases h2 : c ∈ DG.cps.toList <;> simp [h1, h2]
def chD (c : Nat) : D := .str ⟨#[c]⟩
def nB : D → Bool
  | .str s => (match s.cps.toList with
    | [] => false
    | c :: cs => decide ((c :: cs).length ≤ 12) && (ltr c && (c :: cs).all fun c => ltr c || dig c))
  | _ => false
theorem map_all {cs : List Nat} {g : Nat → Bool} {h : D → Bool} (e : ∀ c, h (chD c) = g c) : (cs.map chD).all h = cs.all g := by
  rw [List.all_map]
  congr 1
  funext c
  exact e c
def gN : D → Bool
  | .str s => (match s.cps.toList with
    | [c] => ltr c || dig c
    | _ => false)
  | _ => false
theorem gN_ch (c : Nat) : gN (chD c) = (ltr c || dig c) := rfl
theorem is_name {n : Nat} {d : D} (h : Kn d) : callN T (n + 1) 3 [(d, false)] = .ok (.bl (nB d)) false [(d, false)] := by
  show runF (callN T n) f3 [(d, false)] = _
  cases hs : isStr d with
  | false =>
    revert h
    cases d <;> intro h <;> first | (simp [isStr] at hs; done) | simp [bndD_ok, bndD_exc, bndD_bad, stD_ok, stD_exc, stD_bad, sqD_nx, sqD_brk, sqD_cnt, sqD_ret, sqD_exc, sqD_bad, runF, env0, slotsOf, evS_seqD, evS_ifsD, evS_skip, evS_setD, evS_subD, evS_retD, evS_dropD, evS_parD, evT_k, evT_v, evT_cmp, evT_call, evT_isi, evT_chain, evT_andD, evT_orD, evT_notD, bT_defD, evO_k, evO_v, evO_op, evO_neg, evO_no, bO_defD, evE_k, evE_v, evE_g, evE_opD, evE_negD, evE_cmpD, evE_chainD, evE_andD, evE_orD, evE_notD, evE_ifeD, evE_tupD, evE_lstD, evE_ixD, evE_slD, evE_biD, evE_meD, evE_callD, evE_callkD, evE_isiD, evE_mk, evA_consD, evA_nil, Env.at, Env.cur, Env.curs, Env.see, Env.store, Env.setS, Env.tak, Env.taks, Env.put, Env.hand, Env.back, Env.holds, Env.setWs, Env.setW, sameKey, Env.okey, Env.fz, fzb, oi_0, oi_1, oi_2, oi_3, oi_4, L2.ixN, truth, biOp, ob_add, ob_sub, ob_cat, oc_lt, oc_le, oc_gt, oc_ge, oc_eq, oc_ne, oc_in, oc_nin, oc_is, oc_isn, eq_int, eq_bl, eq_nil, isNonD, f3, isi_str h, isStr, nB]
  | true =>
    cases d with
    | str s =>
      have hk := isi_str h
      cases hc : s.cps.toList with
      | nil =>
        have hl : s.length = 0 := by rw [len_list, hc]; rfl
        simp [bndD_ok, bndD_exc, bndD_bad, stD_ok, stD_exc, stD_bad, sqD_nx, sqD_brk, sqD_cnt, sqD_ret, sqD_exc, sqD_bad, runF, env0, slotsOf, evS_seqD, evS_ifsD, evS_skip, evS_setD, evS_subD, evS_retD, evS_dropD, evS_parD, evT_k, evT_v, evT_cmp, evT_call, evT_isi, evT_chain, evT_andD, evT_orD, evT_notD, bT_defD, evO_k, evO_v, evO_op, evO_neg, evO_no, bO_defD, evE_k, evE_v, evE_g, evE_opD, evE_negD, evE_cmpD, evE_chainD, evE_andD, evE_orD, evE_notD, evE_ifeD, evE_tupD, evE_lstD, evE_ixD, evE_slD, evE_biD, evE_meD, evE_callD, evE_callkD, evE_isiD, evE_mk, evA_consD, evA_nil, Env.at, Env.cur, Env.curs, Env.see, Env.store, Env.setS, Env.tak, Env.taks, Env.put, Env.hand, Env.back, Env.holds, Env.setWs, Env.setW, sameKey, Env.okey, Env.fz, fzb, oi_0, oi_1, oi_2, oi_3, oi_4, L2.ixN, truth, biOp, ob_add, ob_sub, ob_cat, oc_lt, oc_le, oc_gt, oc_ge, oc_eq, oc_ne, oc_in, oc_nin, oc_is, oc_isn, eq_int, eq_bl, eq_nil, isNonD, f3, hk, isStr, nB, hl, hc]
      | cons c cs =>
        have hl : s.length = cs.length + 1 := by rw [len_list, hc]; rfl
        by_cases h12 : cs.length + 1 ≤ 12
        · have hx : opIx (.str s) (.int 0) = some (.str ⟨#[c]⟩) := by
            show (L2.atI s.cps.toList 0).map (fun c => D.str ⟨#[c]⟩) = _
            rw [hc]
            simp [L2.atI, L2.ixN]
          have h12' : (cs.length : Int) + 1 ≤ 12 := by omega
          have h1 : (1 : Int) ≤ cs.length + 1 := by omega
          cases hr : ltr c with
          | false => simp [bndD_ok, bndD_exc, bndD_bad, stD_ok, stD_exc, stD_bad, sqD_nx, sqD_brk, sqD_cnt, sqD_ret, sqD_exc, sqD_bad, runF, env0, slotsOf, evS_seqD, evS_ifsD, evS_skip, evS_setD, evS_subD, evS_retD, evS_dropD, evS_parD, evT_k, evT_v, evT_cmp, evT_call, evT_isi, evT_chain, evT_andD, evT_orD, evT_notD, bT_defD, evO_k, evO_v, evO_op, evO_neg, evO_no, bO_defD, evE_k, evE_v, evE_g, evE_opD, evE_negD, evE_cmpD, evE_chainD, evE_andD, evE_orD, evE_notD, evE_ifeD, evE_tupD, evE_lstD, evE_ixD, evE_slD, evE_biD, evE_meD, evE_callD, evE_callkD, evE_isiD, evE_mk, evA_consD, evA_nil, Env.at, Env.cur, Env.curs, Env.see, Env.store, Env.setS, Env.tak, Env.taks, Env.put, Env.hand, Env.back, Env.holds, Env.setWs, Env.setW, sameKey, Env.okey, Env.fz, fzb, oi_0, oi_1, oi_2, oi_3, oi_4, L2.ixN, truth, biOp, ob_add, ob_sub, ob_cat, oc_lt, oc_le, oc_gt, oc_ge, oc_eq, oc_ne, oc_in, oc_nin, oc_is, oc_isn, eq_int, eq_bl, eq_nil, isNonD, f3, hk, isStr, nB, hl, hc, hx, in_LT, hr, h12', h1, h12]
          | true =>
            have L := forL_find (P := fun e => ∃ s5, e = (⟨[.val (.str s), s5], [(.str s, false)]⟩ : Mi.Env)) (Q := fun e => e.le = [(.str s, false)]) (r := .bl false) (o := false) (g := gN)
              (f := fun d e => match e.bindT (.one 1) d with
                | some e' => evS (callN T n) (.ifs (.and (.cmp .NotIn (.v 1) (.g "LETTERS" (.str "abcdefghijklmnopqrstuvwxyz"))) (.cmp .NotIn (.v 1) (.g "DIGITS" (.str "0123456789")))) (.ret (.k (.bl false))) .skip) e'
                | none => .bad) (xs := (c :: cs).map chD) (e := ⟨[.val (.str s), .no], [(.str s, false)]⟩) ⟨_, rfl⟩ (fun d hd e he => by
                obtain ⟨s5, rfl⟩ := he
                obtain ⟨c, _, rfl⟩ := List.mem_map.mp hd
                rw [gN_ch]
                cases h1 : ltr c with
                | true => exact .inl ⟨rfl, ⟨[.val (.str s), .val (chD c)], _⟩, by simp [bndD_ok, bndD_exc, bndD_bad, stD_ok, stD_exc, stD_bad, sqD_nx, sqD_brk, sqD_cnt, sqD_ret, sqD_exc, sqD_bad, runF, env0, slotsOf, evS_seqD, evS_ifsD, evS_skip, evS_setD, evS_subD, evS_retD, evS_dropD, evS_parD, evT_k, evT_v, evT_cmp, evT_call, evT_isi, evT_chain, evT_andD, evT_orD, evT_notD, bT_defD, evO_k, evO_v, evO_op, evO_neg, evO_no, bO_defD, evE_k, evE_v, evE_g, evE_opD, evE_negD, evE_cmpD, evE_chainD, evE_andD, evE_orD, evE_notD, evE_ifeD, evE_tupD, evE_lstD, evE_ixD, evE_slD, evE_biD, evE_meD, evE_callD, evE_callkD, evE_isiD, evE_mk, evA_consD, evA_nil, Env.at, Env.cur, Env.curs, Env.see, Env.store, Env.setS, Env.tak, Env.taks, Env.put, Env.hand, Env.back, Env.holds, Env.setWs, Env.setW, sameKey, Env.okey, Env.fz, fzb, oi_0, oi_1, oi_2, oi_3, oi_4, L2.ixN, truth, biOp, ob_add, ob_sub, ob_cat, oc_lt, oc_le, oc_gt, oc_ge, oc_eq, oc_ne, oc_in, oc_nin, oc_is, oc_isn, eq_int, eq_bl, eq_nil, isNonD, Env.bindT, chD, in_LT, h1], _, rfl⟩
                | false =>
                  cases h2 : dig c with
                  | true => exact .inl ⟨rfl, ⟨[.val (.str s), .val (chD c)], _⟩, by simp [bndD_ok, bndD_exc, bndD_bad, stD_ok, stD_exc, stD_bad, sqD_nx, sqD_brk, sqD_cnt, sqD_ret, sqD_exc, sqD_bad, runF, env0, slotsOf, evS_seqD, evS_ifsD, evS_skip, evS_setD, evS_subD, evS_retD, evS_dropD, evS_parD, evT_k, evT_v, evT_cmp, evT_call, evT_isi, evT_chain, evT_andD, evT_orD, evT_notD, bT_defD, evO_k, evO_v, evO_op, evO_neg, evO_no, bO_defD, evE_k, evE_v, evE_g, evE_opD, evE_negD, evE_cmpD, evE_chainD, evE_andD, evE_orD, evE_notD, evE_ifeD, evE_tupD, evE_lstD, evE_ixD, evE_slD, evE_biD, evE_meD, evE_callD, evE_callkD, evE_isiD, evE_mk, evA_consD, evA_nil, Env.at, Env.cur, Env.curs, Env.see, Env.store, Env.setS, Env.tak, Env.taks, Env.put, Env.hand, Env.back, Env.holds, Env.setWs, Env.setW, sameKey, Env.okey, Env.fz, fzb, oi_0, oi_1, oi_2, oi_3, oi_4, L2.ixN, truth, biOp, ob_add, ob_sub, ob_cat, oc_lt, oc_le, oc_gt, oc_ge, oc_eq, oc_ne, oc_in, oc_nin, oc_is, oc_isn, eq_int, eq_bl, eq_nil, isNonD, Env.bindT, chD, in_LT, in_DG, h1, h2], _, rfl⟩
                  | false => exact .inr ⟨rfl, ⟨[.val (.str s), .val (chD c)], _⟩, by simp [bndD_ok, bndD_exc, bndD_bad, stD_ok, stD_exc, stD_bad, sqD_nx, sqD_brk, sqD_cnt, sqD_ret, sqD_exc, sqD_bad, runF, env0, slotsOf, evS_seqD, evS_ifsD, evS_skip, evS_setD, evS_subD, evS_retD, evS_dropD, evS_parD, evT_k, evT_v, evT_cmp, evT_call, evT_isi, evT_chain, evT_andD, evT_orD, evT_notD, bT_defD, evO_k, evO_v, evO_op, evO_neg, evO_no, bO_defD, evE_k, evE_v, evE_g, evE_opD, evE_negD, evE_cmpD, evE_chainD, evE_andD, evE_orD, evE_notD, evE_ifeD, evE_tupD, evE_lstD, evE_ixD, evE_slD, evE_biD, evE_meD, evE_callD, evE_callkD, evE_isiD, evE_mk, evA_consD, evA_nil, Env.at, Env.cur, Env.curs, Env.see, Env.store, Env.setS, Env.tak, Env.taks, Env.put, Env.hand, Env.back, Env.holds, Env.setWs, Env.setW, sameKey, Env.okey, Env.fz, fzb, oi_0, oi_1, oi_2, oi_3, oi_4, L2.ixN, truth, biOp, ob_add, ob_sub, ob_cat, oc_lt, oc_le, oc_gt, oc_ge, oc_eq, oc_ne, oc_in, oc_nin, oc_is, oc_isn, eq_int, eq_bl, eq_nil, isNonD, Env.bindT, chD, in_LT, in_DG, h1, h2], rfl⟩)
            have body : evS (callN T n) (.fors (.one 1) (.v 0) (.ifs (.and (.cmp .NotIn (.v 1) (.g "LETTERS" (.str "abcdefghijklmnopqrstuvwxyz"))) (.cmp .NotIn (.v 1) (.g "DIGITS" (.str "0123456789")))) (.ret (.k (.bl false))) .skip)) ⟨[.val (.str s), .no], [(.str s, false)]⟩ = forL (fun d e => match e.bindT (.one 1) d with
                | some e' => evS (callN T n) (.ifs (.and (.cmp .NotIn (.v 1) (.g "LETTERS" (.str "abcdefghijklmnopqrstuvwxyz"))) (.cmp .NotIn (.v 1) (.g "DIGITS" (.str "0123456789")))) (.ret (.k (.bl false))) .skip) e'
                | none => .bad) ((c :: cs).map chD) ⟨[.val (.str s), .no], [(.str s, false)]⟩ := by
              rw [← hc]
              rfl
            rw [map_all gN_ch] at L
            rcases L with ⟨h4, e', h5, s5, rfl⟩ | ⟨h4, e', h5, h6⟩
            · have hn : nB (.str s) = true := by
                show (match s.cps.toList with
                  | [] => false
                  | c :: cs => decide ((c :: cs).length ≤ 12) && (ltr c && (c :: cs).all fun c => ltr c || dig c)) = true
                rw [hc]
                dsimp only
                rw [h4, hr, decide_eq_true (by simpa using h12)] <;> rfl
              simp [bndD_ok, bndD_exc, bndD_bad, stD_ok, stD_exc, stD_bad, sqD_nx, sqD_brk, sqD_cnt, sqD_ret, sqD_exc, sqD_bad, runF, env0, slotsOf, evS_seqD, evS_ifsD, evS_skip, evS_setD, evS_subD, evS_retD, evS_dropD, evS_parD, evT_k, evT_v, evT_cmp, evT_call, evT_isi, evT_chain, evT_andD, evT_orD, evT_notD, bT_defD, evO_k, evO_v, evO_op, evO_neg, evO_no, bO_defD, evE_k, evE_v, evE_g, evE_opD, evE_negD, evE_cmpD, evE_chainD, evE_andD, evE_orD, evE_notD, evE_ifeD, evE_tupD, evE_lstD, evE_ixD, evE_slD, evE_biD, evE_meD, evE_callD, evE_callkD, evE_isiD, evE_mk, evA_consD, evA_nil, Env.at, Env.cur, Env.curs, Env.see, Env.store, Env.setS, Env.tak, Env.taks, Env.put, Env.hand, Env.back, Env.holds, Env.setWs, Env.setW, sameKey, Env.okey, Env.fz, fzb, oi_0, oi_1, oi_2, oi_3, oi_4, L2.ixN, truth, biOp, ob_add, ob_sub, ob_cat, oc_lt, oc_le, oc_gt, oc_ge, oc_eq, oc_ne, oc_in, oc_nin, oc_is, oc_isn, eq_int, eq_bl, eq_nil, isNonD, f3, hk, isStr, hn, hl, hx, in_LT, hr, h12', h1, body.trans h5]
            · have hn : nB (.str s) = false := by
                show (match s.cps.toList with
                  | [] => false
                  | c :: cs => decide ((c :: cs).length ≤ 12) && (ltr c && (c :: cs).all fun c => ltr c || dig c)) = false
                rw [hc]
                dsimp only
                rw [h4, hr, decide_eq_true (by simpa using h12)] <;> rfl
              simp [bndD_ok, bndD_exc, bndD_bad, stD_ok, stD_exc, stD_bad, sqD_nx, sqD_brk, sqD_cnt, sqD_ret, sqD_exc, sqD_bad, runF, env0, slotsOf, evS_seqD, evS_ifsD, evS_skip, evS_setD, evS_subD, evS_retD, evS_dropD, evS_parD, evT_k, evT_v, evT_cmp, evT_call, evT_isi, evT_chain, evT_andD, evT_orD, evT_notD, bT_defD, evO_k, evO_v, evO_op, evO_neg, evO_no, bO_defD, evE_k, evE_v, evE_g, evE_opD, evE_negD, evE_cmpD, evE_chainD, evE_andD, evE_orD, evE_notD, evE_ifeD, evE_tupD, evE_lstD, evE_ixD, evE_slD, evE_biD, evE_meD, evE_callD, evE_callkD, evE_isiD, evE_mk, evA_consD, evA_nil, Env.at, Env.cur, Env.curs, Env.see, Env.store, Env.setS, Env.tak, Env.taks, Env.put, Env.hand, Env.back, Env.holds, Env.setWs, Env.setW, sameKey, Env.okey, Env.fz, fzb, oi_0, oi_1, oi_2, oi_3, oi_4, L2.ixN, truth, biOp, ob_add, ob_sub, ob_cat, oc_lt, oc_le, oc_gt, oc_ge, oc_eq, oc_ne, oc_in, oc_nin, oc_is, oc_isn, eq_int, eq_bl, eq_nil, isNonD, f3, hk, isStr, hn, hl, hx, in_LT, hr, h12', h1, body.trans h5, h6]
        · have h12' : ¬ (cs.length : Int) + 1 ≤ 12 := by omega
          have h1 : (1 : Int) ≤ cs.length + 1 := by omega
          simp [bndD_ok, bndD_exc, bndD_bad, stD_ok, stD_exc, stD_bad, sqD_nx, sqD_brk, sqD_cnt, sqD_ret, sqD_exc, sqD_bad, runF, env0, slotsOf, evS_seqD, evS_ifsD, evS_skip, evS_setD, evS_subD, evS_retD, evS_dropD, evS_parD, evT_k, evT_v, evT_cmp, evT_call, evT_isi, evT_chain, evT_andD, evT_orD, evT_notD, bT_defD, evO_k, evO_v, evO_op, evO_neg, evO_no, bO_defD, evE_k, evE_v, evE_g, evE_opD, evE_negD, evE_cmpD, evE_chainD, evE_andD, evE_orD, evE_notD, evE_ifeD, evE_tupD, evE_lstD, evE_ixD, evE_slD, evE_biD, evE_meD, evE_callD, evE_callkD, evE_isiD, evE_mk, evA_consD, evA_nil, Env.at, Env.cur, Env.curs, Env.see, Env.store, Env.setS, Env.tak, Env.taks, Env.put, Env.hand, Env.back, Env.holds, Env.setWs, Env.setW, sameKey, Env.okey, Env.fz, fzb, oi_0, oi_1, oi_2, oi_3, oi_4, L2.ixN, truth, biOp, ob_add, ob_sub, ob_cat, oc_lt, oc_le, oc_gt, oc_ge, oc_eq, oc_ne, oc_in, oc_nin, oc_is, oc_isn, eq_int, eq_bl, eq_nil, isNonD, f3, hk, isStr, nB, hl, hc, h12, h12', h1]
    | _ => cases hs
def rB : D → Bool
  | .lst xs => xs.all isInt
  | .tup xs => xs.all isInt
  | _ => false
theorem row_loop {n : Nat} {d : D} {xs : List D} (h : ∀ x ∈ xs, Kn x) : (xs.all isInt = true ∧ ∃ s5, forL (fun d e => match e.bindT (.one 1) d with
    | some e' => evS (callN T (n + 1)) (.ifs (.not (.call 0 (.cons (.v 1) .nil))) (.ret (.k (.bl false))) .skip) e'
    | none => .bad) xs ⟨[.val d, .no], [(d, false)]⟩ = .nx ⟨[.val d, s5], [(d, false)]⟩) ∨ (xs.all isInt = false ∧ ∃ e', forL (fun d e => match e.bindT (.one 1) d with
    | some e' => evS (callN T (n + 1)) (.ifs (.not (.call 0 (.cons (.v 1) .nil))) (.ret (.k (.bl false))) .skip) e'
    | none => .bad) xs ⟨[.val d, .no], [(d, false)]⟩ = .ret (.bl false) false e' ∧ e'.le = [(d, false)]) := by
  rcases forL_find (P := fun e => ∃ s5, e = (⟨[.val d, s5], [(d, false)]⟩ : Mi.Env)) (Q := fun e => e.le = [(d, false)]) (r := .bl false) (o := false) (g := isInt) (f := fun d e => match e.bindT (.one 1) d with
    | some e' => evS (callN T (n + 1)) (.ifs (.not (.call 0 (.cons (.v 1) .nil))) (.ret (.k (.bl false))) .skip) e'
    | none => .bad) (xs := xs) (e := ⟨[.val d, .no], [(d, false)]⟩) ⟨_, rfl⟩ (fun x hx e he => by
      obtain ⟨s5, rfl⟩ := he
      have k := is_integer (n := n) (h x hx)
      cases hi : isInt x with
      | true => exact .inl ⟨rfl, ⟨[.val d, .val x], _⟩, by simp [bndD_ok, bndD_exc, bndD_bad, stD_ok, stD_exc, stD_bad, sqD_nx, sqD_brk, sqD_cnt, sqD_ret, sqD_exc, sqD_bad, runF, env0, slotsOf, evS_seqD, evS_ifsD, evS_skip, evS_setD, evS_subD, evS_retD, evS_dropD, evS_parD, evT_k, evT_v, evT_cmp, evT_call, evT_isi, evT_chain, evT_andD, evT_orD, evT_notD, bT_defD, evO_k, evO_v, evO_op, evO_neg, evO_no, bO_defD, evE_k, evE_v, evE_g, evE_opD, evE_negD, evE_cmpD, evE_chainD, evE_andD, evE_orD, evE_notD, evE_ifeD, evE_tupD, evE_lstD, evE_ixD, evE_slD, evE_biD, evE_meD, evE_callD, evE_callkD, evE_isiD, evE_mk, evA_consD, evA_nil, Env.at, Env.cur, Env.curs, Env.see, Env.store, Env.setS, Env.tak, Env.taks, Env.put, Env.hand, Env.back, Env.holds, Env.setWs, Env.setW, sameKey, Env.okey, Env.fz, fzb, oi_0, oi_1, oi_2, oi_3, oi_4, L2.ixN, truth, biOp, ob_add, ob_sub, ob_cat, oc_lt, oc_le, oc_gt, oc_ge, oc_eq, oc_ne, oc_in, oc_nin, oc_is, oc_isn, eq_int, eq_bl, eq_nil, isNonD, Env.bindT, k, hi], _, rfl⟩
      | false => exact .inr ⟨rfl, ⟨[.val d, .val x], _⟩, by simp [bndD_ok, bndD_exc, bndD_bad, stD_ok, stD_exc, stD_bad, sqD_nx, sqD_brk, sqD_cnt, sqD_ret, sqD_exc, sqD_bad, runF, env0, slotsOf, evS_seqD, evS_ifsD, evS_skip, evS_setD, evS_subD, evS_retD, evS_dropD, evS_parD, evT_k, evT_v, evT_cmp, evT_call, evT_isi, evT_chain, evT_andD, evT_orD, evT_notD, bT_defD, evO_k, evO_v, evO_op, evO_neg, evO_no, bO_defD, evE_k, evE_v, evE_g, evE_opD, evE_negD, evE_cmpD, evE_chainD, evE_andD, evE_orD, evE_notD, evE_ifeD, evE_tupD, evE_lstD, evE_ixD, evE_slD, evE_biD, evE_meD, evE_callD, evE_callkD, evE_isiD, evE_mk, evA_consD, evA_nil, Env.at, Env.cur, Env.curs, Env.see, Env.store, Env.setS, Env.tak, Env.taks, Env.put, Env.hand, Env.back, Env.holds, Env.setWs, Env.setW, sameKey, Env.okey, Env.fz, fzb, oi_0, oi_1, oi_2, oi_3, oi_4, L2.ixN, truth, biOp, ob_add, ob_sub, ob_cat, oc_lt, oc_le, oc_gt, oc_ge, oc_eq, oc_ne, oc_in, oc_nin, oc_is, oc_isn, eq_int, eq_bl, eq_nil, isNonD, Env.bindT, k, hi], rfl⟩) with ⟨h1, e', h2, s5, rfl⟩ | ⟨h1, e', h2, h3⟩
  · exact .inl ⟨h1, s5, h2⟩
  · exact .inr ⟨h1, e', h2, h3⟩
theorem is_row {n : Nat} {d : D} (h : Kn d) (hx : ∀ xs, d = .lst xs ∨ d = .tup xs → ∀ x ∈ xs, Kn x) : callN T (n + 2) 4 [(d, false)] = .ok (.bl (rB d)) false [(d, false)] := by
  show runF (callN T (n + 1)) f4 [(d, false)] = _
  have main : ∀ (d : D) (xs : List D), isiD ["list", "tuple"] d = some true → bI (evE (callN T (n + 1)) (.v 0)) ⟨[.val d, .no], [(d, false)]⟩ = .ok xs ⟨[.val d, .no], [(d, false)]⟩ → (∀ x ∈ xs, Kn x) → runF (callN T (n + 1)) f4 [(d, false)] = .ok (.bl (xs.all isInt)) false [(d, false)] := by
    intro d xs h1 h2 h3
    have ei : evS (callN T (n + 1)) (.fors (.one 1) (.v 0) (.ifs (.not (.call 0 (.cons (.v 1) .nil))) (.ret (.k (.bl false))) .skip)) ⟨[.val d, .no], [(d, false)]⟩ = forL (fun d e => match e.bindT (.one 1) d with
      | some e' => evS (callN T (n + 1)) (.ifs (.not (.call 0 (.cons (.v 1) .nil))) (.ret (.k (.bl false))) .skip) e'
      | none => .bad) xs ⟨[.val d, .no], [(d, false)]⟩ := by
      rw [evS_fors, evI_v, h2]
      rfl
    rcases row_loop (n := n) (d := d) h3 with ⟨h4, s5, h5⟩ | ⟨h4, e', h5, h6⟩
    · simp [bndD_ok, bndD_exc, bndD_bad, stD_ok, stD_exc, stD_bad, sqD_nx, sqD_brk, sqD_cnt, sqD_ret, sqD_exc, sqD_bad, runF, env0, slotsOf, evS_seqD, evS_ifsD, evS_skip, evS_setD, evS_subD, evS_retD, evS_dropD, evS_parD, evT_k, evT_v, evT_cmp, evT_call, evT_isi, evT_chain, evT_andD, evT_orD, evT_notD, bT_defD, evO_k, evO_v, evO_op, evO_neg, evO_no, bO_defD, evE_k, evE_v, evE_g, evE_opD, evE_negD, evE_cmpD, evE_chainD, evE_andD, evE_orD, evE_notD, evE_ifeD, evE_tupD, evE_lstD, evE_ixD, evE_slD, evE_biD, evE_meD, evE_callD, evE_callkD, evE_isiD, evE_mk, evA_consD, evA_nil, Env.at, Env.cur, Env.curs, Env.see, Env.store, Env.setS, Env.tak, Env.taks, Env.put, Env.hand, Env.back, Env.holds, Env.setWs, Env.setW, sameKey, Env.okey, Env.fz, fzb, oi_0, oi_1, oi_2, oi_3, oi_4, L2.ixN, truth, biOp, ob_add, ob_sub, ob_cat, oc_lt, oc_le, oc_gt, oc_ge, oc_eq, oc_ne, oc_in, oc_nin, oc_is, oc_isn, eq_int, eq_bl, eq_nil, isNonD, f4, h1, ei.trans h5, h4]
    · simp [bndD_ok, bndD_exc, bndD_bad, stD_ok, stD_exc, stD_bad, sqD_nx, sqD_brk, sqD_cnt, sqD_ret, sqD_exc, sqD_bad, runF, env0, slotsOf, evS_seqD, evS_ifsD, evS_skip, evS_setD, evS_subD, evS_retD, evS_dropD, evS_parD, evT_k, evT_v, evT_cmp, evT_call, evT_isi, evT_chain, evT_andD, evT_orD, evT_notD, bT_defD, evO_k, evO_v, evO_op, evO_neg, evO_no, bO_defD, evE_k, evE_v, evE_g, evE_opD, evE_negD, evE_cmpD, evE_chainD, evE_andD, evE_orD, evE_notD, evE_ifeD, evE_tupD, evE_lstD, evE_ixD, evE_slD, evE_biD, evE_meD, evE_callD, evE_callkD, evE_isiD, evE_mk, evA_consD, evA_nil, Env.at, Env.cur, Env.curs, Env.see, Env.store, Env.setS, Env.tak, Env.taks, Env.put, Env.hand, Env.back, Env.holds, Env.setWs, Env.setW, sameKey, Env.okey, Env.fz, fzb, oi_0, oi_1, oi_2, oi_3, oi_4, L2.ixN, truth, biOp, ob_add, ob_sub, ob_cat, oc_lt, oc_le, oc_gt, oc_ge, oc_eq, oc_ne, oc_in, oc_nin, oc_is, oc_isn, eq_int, eq_bl, eq_nil, isNonD, f4, h1, ei.trans h5, h4, h6]
  cases hs : isSeq d with
  | false =>
    revert h
    cases d <;> intro h <;> first | (simp [isSeq] at hs; done) | simp [bndD_ok, bndD_exc, bndD_bad, stD_ok, stD_exc, stD_bad, sqD_nx, sqD_brk, sqD_cnt, sqD_ret, sqD_exc, sqD_bad, runF, env0, slotsOf, evS_seqD, evS_ifsD, evS_skip, evS_setD, evS_subD, evS_retD, evS_dropD, evS_parD, evT_k, evT_v, evT_cmp, evT_call, evT_isi, evT_chain, evT_andD, evT_orD, evT_notD, bT_defD, evO_k, evO_v, evO_op, evO_neg, evO_no, bO_defD, evE_k, evE_v, evE_g, evE_opD, evE_negD, evE_cmpD, evE_chainD, evE_andD, evE_orD, evE_notD, evE_ifeD, evE_tupD, evE_lstD, evE_ixD, evE_slD, evE_biD, evE_meD, evE_callD, evE_callkD, evE_isiD, evE_mk, evA_consD, evA_nil, Env.at, Env.cur, Env.curs, Env.see, Env.store, Env.setS, Env.tak, Env.taks, Env.put, Env.hand, Env.back, Env.holds, Env.setWs, Env.setW, sameKey, Env.okey, Env.fz, fzb, oi_0, oi_1, oi_2, oi_3, oi_4, L2.ixN, truth, biOp, ob_add, ob_sub, ob_cat, oc_lt, oc_le, oc_gt, oc_ge, oc_eq, oc_ne, oc_in, oc_nin, oc_is, oc_isn, eq_int, eq_bl, eq_nil, isNonD, f4, isi_seq h, isSeq, rB]
  | true =>
    have k := isi_seq h
    rw [hs] at k
    cases d with
    | lst xs => exact main _ xs k rfl (hx xs (.inl rfl))
    | tup xs => exact main _ xs k rfl (hx xs (.inr rfl))
    | _ => cases hs
theorem filter_all {α : Type} {g : α → Bool} : ∀ {xs : List α}, (xs.filter fun d => !g d).isEmpty = xs.all g
  | [] => rfl
  | x :: xs => by
    rw [List.filter_cons, List.all_cons]
    cases h : g x with
    | true => simpa using filter_all (xs := xs)
    | false => rfl
theorem names {n : Nat} {d : D} (h : Kn d) (hl : ∀ s, d = .str s → s.length ≤ 1000) : callN T (n + 1) 14 [(d, false)] = .ok (.bl (nB d)) false [(d, false)] := by
  show runF (callN T n) f14 [(d, false)] = _
  cases hs : isStr d with
  | false =>
    revert h
    cases d <;> intro h <;> first | (simp [isStr] at hs; done) | simp [bndD_ok, bndD_exc, bndD_bad, stD_ok, stD_exc, stD_bad, sqD_nx, sqD_brk, sqD_cnt, sqD_ret, sqD_exc, sqD_bad, runF, env0, slotsOf, evS_seqD, evS_ifsD, evS_skip, evS_setD, evS_subD, evS_retD, evS_dropD, evS_parD, evT_k, evT_v, evT_cmp, evT_call, evT_isi, evT_chain, evT_andD, evT_orD, evT_notD, bT_defD, evO_k, evO_v, evO_op, evO_neg, evO_no, bO_defD, evE_k, evE_v, evE_g, evE_opD, evE_negD, evE_cmpD, evE_chainD, evE_andD, evE_orD, evE_notD, evE_ifeD, evE_tupD, evE_lstD, evE_ixD, evE_slD, evE_biD, evE_meD, evE_callD, evE_callkD, evE_isiD, evE_mk, evA_consD, evA_nil, Env.at, Env.cur, Env.curs, Env.see, Env.store, Env.setS, Env.tak, Env.taks, Env.put, Env.hand, Env.back, Env.holds, Env.setWs, Env.setW, sameKey, Env.okey, Env.fz, fzb, oi_0, oi_1, oi_2, oi_3, oi_4, L2.ixN, truth, biOp, ob_add, ob_sub, ob_cat, oc_lt, oc_le, oc_gt, oc_ge, oc_eq, oc_ne, oc_in, oc_nin, oc_is, oc_isn, eq_int, eq_bl, eq_nil, isNonD, f14, isi_str h, isStr, nB]
  | true =>
    cases d with
    | str s =>
      have hk := isi_str h
      have hl := hl s rfl
      cases hc : s.cps.toList with
      | nil =>
        have hl : s.length = 0 := by rw [len_list, hc]; rfl
        simp [bndD_ok, bndD_exc, bndD_bad, stD_ok, stD_exc, stD_bad, sqD_nx, sqD_brk, sqD_cnt, sqD_ret, sqD_exc, sqD_bad, runF, env0, slotsOf, evS_seqD, evS_ifsD, evS_skip, evS_setD, evS_subD, evS_retD, evS_dropD, evS_parD, evT_k, evT_v, evT_cmp, evT_call, evT_isi, evT_chain, evT_andD, evT_orD, evT_notD, bT_defD, evO_k, evO_v, evO_op, evO_neg, evO_no, bO_defD, evE_k, evE_v, evE_g, evE_opD, evE_negD, evE_cmpD, evE_chainD, evE_andD, evE_orD, evE_notD, evE_ifeD, evE_tupD, evE_lstD, evE_ixD, evE_slD, evE_biD, evE_meD, evE_callD, evE_callkD, evE_isiD, evE_mk, evA_consD, evA_nil, Env.at, Env.cur, Env.curs, Env.see, Env.store, Env.setS, Env.tak, Env.taks, Env.put, Env.hand, Env.back, Env.holds, Env.setWs, Env.setW, sameKey, Env.okey, Env.fz, fzb, oi_0, oi_1, oi_2, oi_3, oi_4, L2.ixN, truth, biOp, ob_add, ob_sub, ob_cat, oc_lt, oc_le, oc_gt, oc_ge, oc_eq, oc_ne, oc_in, oc_nin, oc_is, oc_isn, eq_int, eq_bl, eq_nil, isNonD, f14, hk, isStr, nB, hl, hc]
      | cons c cs =>
        have hl : s.length = cs.length + 1 := by rw [len_list, hc]; rfl
        have h1 : ¬ (cs.length : Int) + 1 < 1 := by omega
        by_cases h12 : cs.length + 1 ≤ 12
        · have hx : opIx (.str s) (.int 0) = some (.str ⟨#[c]⟩) := by
            show (L2.atI s.cps.toList 0).map (fun c => D.str ⟨#[c]⟩) = _
            rw [hc]
            simp [L2.atI, L2.ixN]
          have h12' : ¬ (12 : Int) < (cs.length : Int) + 1 := by omega
          cases hr : ltr c with
          | false => simp [bndD_ok, bndD_exc, bndD_bad, stD_ok, stD_exc, stD_bad, sqD_nx, sqD_brk, sqD_cnt, sqD_ret, sqD_exc, sqD_bad, runF, env0, slotsOf, evS_seqD, evS_ifsD, evS_skip, evS_setD, evS_subD, evS_retD, evS_dropD, evS_parD, evT_k, evT_v, evT_cmp, evT_call, evT_isi, evT_chain, evT_andD, evT_orD, evT_notD, bT_defD, evO_k, evO_v, evO_op, evO_neg, evO_no, bO_defD, evE_k, evE_v, evE_g, evE_opD, evE_negD, evE_cmpD, evE_chainD, evE_andD, evE_orD, evE_notD, evE_ifeD, evE_tupD, evE_lstD, evE_ixD, evE_slD, evE_biD, evE_meD, evE_callD, evE_callkD, evE_isiD, evE_mk, evA_consD, evA_nil, Env.at, Env.cur, Env.curs, Env.see, Env.store, Env.setS, Env.tak, Env.taks, Env.put, Env.hand, Env.back, Env.holds, Env.setWs, Env.setW, sameKey, Env.okey, Env.fz, fzb, oi_0, oi_1, oi_2, oi_3, oi_4, L2.ixN, truth, biOp, ob_add, ob_sub, ob_cat, oc_lt, oc_le, oc_gt, oc_ge, oc_eq, oc_ne, oc_in, oc_nin, oc_is, oc_isn, eq_int, eq_bl, eq_nil, isNonD, f14, hk, isStr, nB, hl, hc, hx, in_LT, hr, h12', h1, h12]
          | true =>
            obtain ⟨e', h4, s5, rfl⟩ := lcL_filter (P := fun e => ∃ s5, e = (⟨[.val (.str s), s5], [(.str s, false)]⟩ : Mi.Env)) (c := fun d e => match e.bindT (.one 1) d with
                | some e' => evT (callN T n) (.cmp .NotIn (.v 1) (.k (.str "0123456789abcdefghijklmnopqrstuvwxyz"))) e'
                | none => .bad) (f := fun e => evE (callN T n) (.v 1) e) (g := fun d => !gN d) (xs := (c :: cs).map chD) (acc := []) (e := ⟨[.val (.str s), .no], [(.str s, false)]⟩) ⟨_, rfl⟩ (by simp [lim]; omega) (fun d hd e he => by
                obtain ⟨s5, rfl⟩ := he
                obtain ⟨c, _, rfl⟩ := List.mem_map.mp hd
                exact ⟨⟨[.val (.str s), .val (chD c)], [(.str s, false)]⟩, by simp [bndD_ok, bndD_exc, bndD_bad, stD_ok, stD_exc, stD_bad, sqD_nx, sqD_brk, sqD_cnt, sqD_ret, sqD_exc, sqD_bad, runF, env0, slotsOf, evS_seqD, evS_ifsD, evS_skip, evS_setD, evS_subD, evS_retD, evS_dropD, evS_parD, evT_k, evT_v, evT_cmp, evT_call, evT_isi, evT_chain, evT_andD, evT_orD, evT_notD, bT_defD, evO_k, evO_v, evO_op, evO_neg, evO_no, bO_defD, evE_k, evE_v, evE_g, evE_opD, evE_negD, evE_cmpD, evE_chainD, evE_andD, evE_orD, evE_notD, evE_ifeD, evE_tupD, evE_lstD, evE_ixD, evE_slD, evE_biD, evE_meD, evE_callD, evE_callkD, evE_isiD, evE_mk, evA_consD, evA_nil, Env.at, Env.cur, Env.curs, Env.see, Env.store, Env.setS, Env.tak, Env.taks, Env.put, Env.hand, Env.back, Env.holds, Env.setWs, Env.setW, sameKey, Env.okey, Env.fz, fzb, oi_0, oi_1, oi_2, oi_3, oi_4, L2.ixN, truth, biOp, ob_add, ob_sub, ob_cat, oc_lt, oc_le, oc_gt, oc_ge, oc_eq, oc_ne, oc_in, oc_nin, oc_is, oc_isn, eq_int, eq_bl, eq_nil, isNonD, Env.bindT, chD, in_LD, gN], ⟨_, rfl⟩, .s 1, _, _, rfl, rfl, ⟨_, rfl⟩⟩)
            have ev : evE (callN T n) (.lc (.one 1) (.v 1) (.v 0) (.cmp .NotIn (.v 1) (.k (.str "0123456789abcdefghijklmnopqrstuvwxyz")))) ⟨[.val (.str s), .no], [(.str s, false)]⟩ = .ok (.o (.lst (((c :: cs).map chD).filter fun d => !gN d))) ⟨[.val (.str s), .no], [(.str s, false)]⟩ := by
              rw [lc_run (ss := [.no]) (xs := (c :: cs).map chD) (e1 := ⟨[.val (.str s), .no], [(.str s, false)]⟩) (by rw [← hc]; rfl) rfl h4] <;> rfl
            have hn : nB (.str s) = (((c :: cs).map chD).filter fun d => !gN d).isEmpty := by
              show (match s.cps.toList with
                | [] => false
                | c :: cs => decide ((c :: cs).length ≤ 12) && (ltr c && (c :: cs).all fun c => ltr c || dig c)) = _
              rw [hc]
              dsimp only
              rw [hr, decide_eq_true (by simpa using h12), filter_all, map_all gN_ch] <;> rfl
            revert ev hn
            generalize ((c :: cs).map chD).filter (fun d => !gN d) = ys
            intro ev hn
            simp [bndD_ok, bndD_exc, bndD_bad, stD_ok, stD_exc, stD_bad, sqD_nx, sqD_brk, sqD_cnt, sqD_ret, sqD_exc, sqD_bad, runF, env0, slotsOf, evS_seqD, evS_ifsD, evS_skip, evS_setD, evS_subD, evS_retD, evS_dropD, evS_parD, evT_k, evT_v, evT_cmp, evT_call, evT_isi, evT_chain, evT_andD, evT_orD, evT_notD, bT_defD, evO_k, evO_v, evO_op, evO_neg, evO_no, bO_defD, evE_k, evE_v, evE_g, evE_opD, evE_negD, evE_cmpD, evE_chainD, evE_andD, evE_orD, evE_notD, evE_ifeD, evE_tupD, evE_lstD, evE_ixD, evE_slD, evE_biD, evE_meD, evE_callD, evE_callkD, evE_isiD, evE_mk, evA_consD, evA_nil, Env.at, Env.cur, Env.curs, Env.see, Env.store, Env.setS, Env.tak, Env.taks, Env.put, Env.hand, Env.back, Env.holds, Env.setWs, Env.setW, sameKey, Env.okey, Env.fz, fzb, oi_0, oi_1, oi_2, oi_3, oi_4, L2.ixN, truth, biOp, ob_add, ob_sub, ob_cat, oc_lt, oc_le, oc_gt, oc_ge, oc_eq, oc_ne, oc_in, oc_nin, oc_is, oc_isn, eq_int, eq_bl, eq_nil, isNonD, f14, hk, isStr, hl, hx, in_LT, hr, h12', h1, ev, hn]
        · have h12' : (12 : Int) < (cs.length : Int) + 1 := by omega
          simp [bndD_ok, bndD_exc, bndD_bad, stD_ok, stD_exc, stD_bad, sqD_nx, sqD_brk, sqD_cnt, sqD_ret, sqD_exc, sqD_bad, runF, env0, slotsOf, evS_seqD, evS_ifsD, evS_skip, evS_setD, evS_subD, evS_retD, evS_dropD, evS_parD, evT_k, evT_v, evT_cmp, evT_call, evT_isi, evT_chain, evT_andD, evT_orD, evT_notD, bT_defD, evO_k, evO_v, evO_op, evO_neg, evO_no, bO_defD, evE_k, evE_v, evE_g, evE_opD, evE_negD, evE_cmpD, evE_chainD, evE_andD, evE_orD, evE_notD, evE_ifeD, evE_tupD, evE_lstD, evE_ixD, evE_slD, evE_biD, evE_meD, evE_callD, evE_callkD, evE_isiD, evE_mk, evA_consD, evA_nil, Env.at, Env.cur, Env.curs, Env.see, Env.store, Env.setS, Env.tak, Env.taks, Env.put, Env.hand, Env.back, Env.holds, Env.setWs, Env.setW, sameKey, Env.okey, Env.fz, fzb, oi_0, oi_1, oi_2, oi_3, oi_4, L2.ixN, truth, biOp, ob_add, ob_sub, ob_cat, oc_lt, oc_le, oc_gt, oc_ge, oc_eq, oc_ne, oc_in, oc_nin, oc_is, oc_isn, eq_int, eq_bl, eq_nil, isNonD, f14, hk, isStr, nB, hl, hc, h12, h12', h1]
    | _ => cases hs
end K01

set_option Elab.async false
set_option linter.all false
set_option maxRecDepth 100000
set_option maxHeartbeats 0
namespace K01
open PySem L2 Mi
/-- values that the law asks about -/
structure Ak (d : D) : Prop where
  kn : Kn d
  el : ∀ xs, d = .lst xs ∨ d = .tup xs → xs.length ≤ 100 ∧ ∀ x ∈ xs, Kn x
  st : ∀ s, d = .str s → s.length ≤ 1000
abbrev E15 (d : D) (s1 s3 s4 s5 s6 : Mi.Slot) : Mi.Env := ⟨[.val d, s1, .no, s3, s4, s5, s6], [(d, false)]⟩
theorem one_rows {n : Nat} {d : D} (h : Ak d) : evS (callN T (n + 1)) f15.body.tl.hd (E15 d (.val (.bl (isSeq d))) .no .no .no .no) = .nx (E15 d (.val (.bl (rB d))) .no .no .no .no) := by
  cases hs : isSeq d with
  | false =>
    have : rB d = false := by cases d <;> first | rfl | cases hs
    simp [bndD_ok, bndD_exc, bndD_bad, stD_ok, stD_exc, stD_bad, sqD_nx, sqD_brk, sqD_cnt, sqD_ret, sqD_exc, sqD_bad, runF, env0, slotsOf, evS_seqD, evS_ifsD, evS_skip, evS_setD, evS_subD, evS_retD, evS_dropD, evS_parD, evT_k, evT_v, evT_cmp, evT_call, evT_isi, evT_chain, evT_andD, evT_orD, evT_notD, bT_defD, evO_k, evO_v, evO_op, evO_neg, evO_no, bO_defD, evE_k, evE_v, evE_g, evE_opD, evE_negD, evE_cmpD, evE_chainD, evE_andD, evE_orD, evE_notD, evE_ifeD, evE_tupD, evE_lstD, evE_ixD, evE_slD, evE_biD, evE_meD, evE_callD, evE_callkD, evE_isiD, evE_mk, evA_consD, evA_nil, Env.at, Env.cur, Env.curs, Env.see, Env.store, Env.setS, Env.tak, Env.taks, Env.put, Env.hand, Env.back, Env.holds, Env.setWs, Env.setW, sameKey, Env.okey, Env.fz, fzb, oi_0, oi_1, oi_2, oi_3, oi_4, L2.ixN, truth, biOp, ob_add, ob_sub, ob_cat, oc_lt, oc_le, oc_gt, oc_ge, oc_eq, oc_ne, oc_in, oc_nin, oc_is, oc_isn, eq_int, eq_bl, eq_nil, isNonD, f15, St.hd, St.tl, this]
  | true =>
    have main : ∀ xs : List D, bI (evE (callN T (n + 1)) (.v 0)) (E15 d (.val (.bl true)) .no .no .no .no) = .ok xs (E15 d (.val (.bl true)) .no .no .no .no) → rB d = xs.all isInt → xs.length ≤ 100 → (∀ x ∈ xs, Kn x) → evS (callN T (n + 1)) f15.body.tl.hd (E15 d (.val (.bl true)) .no .no .no .no) = .nx (E15 d (.val (.bl (rB d))) .no .no .no .no) := by
      intro xs h1 h2 h3 h4
      obtain ⟨e', h5, s5, rfl⟩ := lcL_filter (P := fun e => ∃ s5, e = (⟨[.val d, .val (.bl true), s5, .no, .no, .no, .no], [(d, false)]⟩ : Mi.Env)) (c := fun d e => match e.bindT (.one 2) d with
                | some e' => evT (callN T (n + 1)) (.not (.call 13 (.cons (.v 2) .nil))) e'
                | none => .bad) (f := fun e => evE (callN T (n + 1)) (.v 2) e) (g := fun d => !isInt d) (xs := xs) (acc := []) (e := E15 d (.val (.bl true)) .no .no .no .no) ⟨_, rfl⟩ (by simp [lim]; omega) (fun x hx e he => by
                obtain ⟨s5, rfl⟩ := he
                have k := plain (n := n) (h4 x hx)
                exact ⟨⟨[.val d, .val (.bl true), .val x, .no, .no, .no, .no], [(d, false)]⟩, by simp [bndD_ok, bndD_exc, bndD_bad, stD_ok, stD_exc, stD_bad, sqD_nx, sqD_brk, sqD_cnt, sqD_ret, sqD_exc, sqD_bad, runF, env0, slotsOf, evS_seqD, evS_ifsD, evS_skip, evS_setD, evS_subD, evS_retD, evS_dropD, evS_parD, evT_k, evT_v, evT_cmp, evT_call, evT_isi, evT_chain, evT_andD, evT_orD, evT_notD, bT_defD, evO_k, evO_v, evO_op, evO_neg, evO_no, bO_defD, evE_k, evE_v, evE_g, evE_opD, evE_negD, evE_cmpD, evE_chainD, evE_andD, evE_orD, evE_notD, evE_ifeD, evE_tupD, evE_lstD, evE_ixD, evE_slD, evE_biD, evE_meD, evE_callD, evE_callkD, evE_isiD, evE_mk, evA_consD, evA_nil, Env.at, Env.cur, Env.curs, Env.see, Env.store, Env.setS, Env.tak, Env.taks, Env.put, Env.hand, Env.back, Env.holds, Env.setWs, Env.setW, sameKey, Env.okey, Env.fz, fzb, oi_0, oi_1, oi_2, oi_3, oi_4, L2.ixN, truth, biOp, ob_add, ob_sub, ob_cat, oc_lt, oc_le, oc_gt, oc_ge, oc_eq, oc_ne, oc_in, oc_nin, oc_is, oc_isn, eq_int, eq_bl, eq_nil, isNonD, Env.bindT, k], ⟨_, rfl⟩, .s 2, _, _, rfl, rfl, ⟨_, rfl⟩⟩)
      have ev : evE (callN T (n + 1)) (.lc (.one 2) (.v 2) (.v 0) (.not (.call 13 (.cons (.v 2) .nil)))) (E15 d (.val (.bl true)) .no .no .no .no) = .ok (.o (.lst (xs.filter fun d => !isInt d))) (E15 d (.val (.bl true)) .no .no .no .no) := by
        rw [lc_run (ss := [.no]) (xs := xs) (e1 := E15 d (.val (.bl true)) .no .no .no .no) ((evI_v (callN T (n + 1)) (i := 0) (E15 d (.val (.bl true)) .no .no .no .no)).trans h1) rfl h5] <;> rfl
      have hn : rB d = (xs.filter fun d => !isInt d).isEmpty := by rw [h2, filter_all]
      revert ev hn
      generalize xs.filter (fun d => !isInt d) = ys
      intro ev hn
      simp [bndD_ok, bndD_exc, bndD_bad, stD_ok, stD_exc, stD_bad, sqD_nx, sqD_brk, sqD_cnt, sqD_ret, sqD_exc, sqD_bad, runF, env0, slotsOf, evS_seqD, evS_ifsD, evS_skip, evS_setD, evS_subD, evS_retD, evS_dropD, evS_parD, evT_k, evT_v, evT_cmp, evT_call, evT_isi, evT_chain, evT_andD, evT_orD, evT_notD, bT_defD, evO_k, evO_v, evO_op, evO_neg, evO_no, bO_defD, evE_k, evE_v, evE_g, evE_opD, evE_negD, evE_cmpD, evE_chainD, evE_andD, evE_orD, evE_notD, evE_ifeD, evE_tupD, evE_lstD, evE_ixD, evE_slD, evE_biD, evE_meD, evE_callD, evE_callkD, evE_isiD, evE_mk, evA_consD, evA_nil, Env.at, Env.cur, Env.curs, Env.see, Env.store, Env.setS, Env.tak, Env.taks, Env.put, Env.hand, Env.back, Env.holds, Env.setWs, Env.setW, sameKey, Env.okey, Env.fz, fzb, oi_0, oi_1, oi_2, oi_3, oi_4, L2.ixN, truth, biOp, ob_add, ob_sub, ob_cat, oc_lt, oc_le, oc_gt, oc_ge, oc_eq, oc_ne, oc_in, oc_nin, oc_is, oc_isn, eq_int, eq_bl, eq_nil, isNonD, f15, St.hd, St.tl, ev, hn]
    cases d with
    | lst xs =>
      obtain ⟨h1, h2⟩ := h.el xs (.inl rfl)
      exact main xs rfl rfl h1 h2
    | tup xs =>
      obtain ⟨h1, h2⟩ := h.el xs (.inr rfl)
      exact main xs rfl rfl h1 h2
    | _ => cases hs
theorem one_start {n : Nat} {d : D} (h : Ak d) : evS (callN T (n + 1)) f15.body.hd (E15 d .no .no .no .no .no) = .nx (E15 d (.val (.bl (isSeq d))) .no .no .no .no) := by
  simp [bndD_ok, bndD_exc, bndD_bad, stD_ok, stD_exc, stD_bad, sqD_nx, sqD_brk, sqD_cnt, sqD_ret, sqD_exc, sqD_bad, runF, env0, slotsOf, evS_seqD, evS_ifsD, evS_skip, evS_setD, evS_subD, evS_retD, evS_dropD, evS_parD, evT_k, evT_v, evT_cmp, evT_call, evT_isi, evT_chain, evT_andD, evT_orD, evT_notD, bT_defD, evO_k, evO_v, evO_op, evO_neg, evO_no, bO_defD, evE_k, evE_v, evE_g, evE_opD, evE_negD, evE_cmpD, evE_chainD, evE_andD, evE_orD, evE_notD, evE_ifeD, evE_tupD, evE_lstD, evE_ixD, evE_slD, evE_biD, evE_meD, evE_callD, evE_callkD, evE_isiD, evE_mk, evA_consD, evA_nil, Env.at, Env.cur, Env.curs, Env.see, Env.store, Env.setS, Env.tak, Env.taks, Env.put, Env.hand, Env.back, Env.holds, Env.setWs, Env.setW, sameKey, Env.okey, Env.fz, fzb, oi_0, oi_1, oi_2, oi_3, oi_4, L2.ixN, truth, biOp, ob_add, ob_sub, ob_cat, oc_lt, oc_le, oc_gt, oc_ge, oc_eq, oc_ne, oc_in, oc_nin, oc_is, oc_isn, eq_int, eq_bl, eq_nil, isNonD, f15, St.hd, isi_seq h.kn]
theorem one_kinds {n : Nat} {d : D} {b : Bool} (h : Ak d) : evS (callN T (n + 1)) f15.body.tl.tl.hd (E15 d (.val (.bl b)) .no .no .no .no) = .nx (E15 d (.val (.bl b)) (.val (.bl (kB d))) .no .no .no) := by
  have h := h.kn
  revert h
  cases d <;> intro h <;> simp [bndD_ok, bndD_exc, bndD_bad, stD_ok, stD_exc, stD_bad, sqD_nx, sqD_brk, sqD_cnt, sqD_ret, sqD_exc, sqD_bad, runF, env0, slotsOf, evS_seqD, evS_ifsD, evS_skip, evS_setD, evS_subD, evS_retD, evS_dropD, evS_parD, evT_k, evT_v, evT_cmp, evT_call, evT_isi, evT_chain, evT_andD, evT_orD, evT_notD, bT_defD, evO_k, evO_v, evO_op, evO_neg, evO_no, bO_defD, evE_k, evE_v, evE_g, evE_opD, evE_negD, evE_cmpD, evE_chainD, evE_andD, evE_orD, evE_notD, evE_ifeD, evE_tupD, evE_lstD, evE_ixD, evE_slD, evE_biD, evE_meD, evE_callD, evE_callkD, evE_isiD, evE_mk, evA_consD, evA_nil, Env.at, Env.cur, Env.curs, Env.see, Env.store, Env.setS, Env.tak, Env.taks, Env.put, Env.hand, Env.back, Env.holds, Env.setWs, Env.setW, sameKey, Env.okey, Env.fz, fzb, oi_0, oi_1, oi_2, oi_3, oi_4, L2.ixN, truth, biOp, ob_add, ob_sub, ob_cat, oc_lt, oc_le, oc_gt, oc_ge, oc_eq, oc_ne, oc_in, oc_nin, oc_is, oc_isn, eq_int, eq_bl, eq_nil, isNonD, f15, St.hd, St.tl, isi_str h, isStr, in_kinds, kB, lim]
abbrev toldL (d : D) : List D := [.bl (isInt d), .bl (nB d), .bl (rB d), .bl (kB d), .bl (isInt d)]
theorem wB_non (d : D) : wB d .non .non = isInt d := by cases d <;> rfl
theorem one_told {n : Nat} {d : D} (h : Ak d) {b : Bool} : evS (callN T (n + 2)) f15.body.tl.tl.tl.hd (E15 d (.val (.bl b)) (.val (.bl (kB d))) .no .no .no) = .nx (E15 d (.val (.bl b)) (.val (.bl (kB d))) (.own (.lst (toldL d))) .no .no) := by
  have c0 := is_integer (n := n + 1) h.kn
  have c3 := is_name (n := n + 1) h.kn
  have c4 := is_row (n := n) h.kn fun xs hx => (h.el xs hx).2
  have c2 := is_kind (n := n + 1) h.kn
  have c1 := is_within (n := n) h.kn (.inl rfl) (.inl rfl)
  rw [wB_non] at c1
  simp [bndD_ok, bndD_exc, bndD_bad, stD_ok, stD_exc, stD_bad, sqD_nx, sqD_brk, sqD_cnt, sqD_ret, sqD_exc, sqD_bad, runF, env0, slotsOf, evS_seqD, evS_ifsD, evS_skip, evS_setD, evS_subD, evS_retD, evS_dropD, evS_parD, evT_k, evT_v, evT_cmp, evT_call, evT_isi, evT_chain, evT_andD, evT_orD, evT_notD, bT_defD, evO_k, evO_v, evO_op, evO_neg, evO_no, bO_defD, evE_k, evE_v, evE_g, evE_opD, evE_negD, evE_cmpD, evE_chainD, evE_andD, evE_orD, evE_notD, evE_ifeD, evE_tupD, evE_lstD, evE_ixD, evE_slD, evE_biD, evE_meD, evE_callD, evE_callkD, evE_isiD, evE_mk, evA_consD, evA_nil, Env.at, Env.cur, Env.curs, Env.see, Env.store, Env.setS, Env.tak, Env.taks, Env.put, Env.hand, Env.back, Env.holds, Env.setWs, Env.setW, sameKey, Env.okey, Env.fz, fzb, oi_0, oi_1, oi_2, oi_3, oi_4, L2.ixN, truth, biOp, ob_add, ob_sub, ob_cat, oc_lt, oc_le, oc_gt, oc_ge, oc_eq, oc_ne, oc_in, oc_nin, oc_is, oc_isn, eq_int, eq_bl, eq_nil, isNonD, f15, St.hd, St.tl, c0, c1, c2, c3, c4, lim]
theorem one_loop {n : Nat} {d : D} (h : Ak d) : ∃ s5 s6, evS (callN T (n + 2)) f15.body.tl.tl.tl.tl.hd (E15 d (.val (.bl (rB d))) (.val (.bl (kB d))) (.own (.lst (toldL d))) .no .no) = .nx (E15 d (.val (.bl (rB d))) (.val (.bl (kB d))) (.val (.lst (toldL d))) s5 s6) := by
  have c13 := plain (n := n + 1) h.kn
  have c14 := names (n := n + 1) h.kn h.st
  have ei : evI (callN T (n + 2)) (.zp (.v 4) (.lst (.cons (.call 13 (.cons (.v 0) .nil)) (.cons (.call 14 (.cons (.v 0) .nil)) (.cons (.v 1) (.cons (.v 3) (.cons (.call 13 (.cons (.v 0) .nil)) .nil))))))) (E15 d (.val (.bl (rB d))) (.val (.bl (kB d))) (.own (.lst (toldL d))) .no .no) = .ok (zpD (toldL d) (toldL d)) (E15 d (.val (.bl (rB d))) (.val (.bl (kB d))) (.val (.lst (toldL d))) .no .no) := by
    rw [evI_zp]
    simp [bndD_ok, bndD_exc, bndD_bad, stD_ok, stD_exc, stD_bad, sqD_nx, sqD_brk, sqD_cnt, sqD_ret, sqD_exc, sqD_bad, runF, env0, slotsOf, evS_seqD, evS_ifsD, evS_skip, evS_setD, evS_subD, evS_retD, evS_dropD, evS_parD, evT_k, evT_v, evT_cmp, evT_call, evT_isi, evT_chain, evT_andD, evT_orD, evT_notD, bT_defD, evO_k, evO_v, evO_op, evO_neg, evO_no, bO_defD, evE_k, evE_v, evE_g, evE_opD, evE_negD, evE_cmpD, evE_chainD, evE_andD, evE_orD, evE_notD, evE_ifeD, evE_tupD, evE_lstD, evE_ixD, evE_slD, evE_biD, evE_meD, evE_callD, evE_callkD, evE_isiD, evE_mk, evA_consD, evA_nil, Env.at, Env.cur, Env.curs, Env.see, Env.store, Env.setS, Env.tak, Env.taks, Env.put, Env.hand, Env.back, Env.holds, Env.setWs, Env.setW, sameKey, Env.okey, Env.fz, fzb, oi_0, oi_1, oi_2, oi_3, oi_4, L2.ixN, truth, biOp, ob_add, ob_sub, ob_cat, oc_lt, oc_le, oc_gt, oc_ge, oc_eq, oc_ne, oc_in, oc_nin, oc_is, oc_isn, eq_int, eq_bl, eq_nil, isNonD, c13, c14, lim]
  obtain ⟨e', h4, s5, s6, rfl⟩ := forL_inv (P := fun _ e => ∃ s5 s6, e = E15 d (.val (.bl (rB d))) (.val (.bl (kB d))) (.val (.lst (toldL d))) s5 s6) (k := 0) (f := fun d e => match e.bindT (.many [5, 6]) d with
    | some e' => evS (callN T (n + 2)) (.ifs (.or (.not (.isi (.v 5) ["bool"])) (.cmp .NotEq (.v 5) (.v 6))) (.ret (.k (.bl false))) .skip) e'
    | none => .bad) (xs := zpD (toldL d) (toldL d)) (e := E15 d (.val (.bl (rB d))) (.val (.bl (kB d))) (.val (.lst (toldL d))) .no .no) ⟨_, _, rfl⟩ (fun x hx j e _ hP => by
    obtain ⟨s5, s6, rfl⟩ := hP
    have : ∃ b : Bool, x = .tup [.bl b, .bl b] := by
      simp only [toldL, zpD, List.mem_cons, List.not_mem_nil, or_false] at hx
      rcases hx with rfl | rfl | rfl | rfl | rfl <;> exact ⟨_, rfl⟩
    obtain ⟨b, rfl⟩ := this
    refine ⟨_, ?_, .val (.bl b), .val (.bl b), rfl⟩
    have : isiD ["bool"] (.bl b) = some true := rfl
    simp [bndD_ok, bndD_exc, bndD_bad, stD_ok, stD_exc, stD_bad, sqD_nx, sqD_brk, sqD_cnt, sqD_ret, sqD_exc, sqD_bad, runF, env0, slotsOf, evS_seqD, evS_ifsD, evS_skip, evS_setD, evS_subD, evS_retD, evS_dropD, evS_parD, evT_k, evT_v, evT_cmp, evT_call, evT_isi, evT_chain, evT_andD, evT_orD, evT_notD, bT_defD, evO_k, evO_v, evO_op, evO_neg, evO_no, bO_defD, evE_k, evE_v, evE_g, evE_opD, evE_negD, evE_cmpD, evE_chainD, evE_andD, evE_orD, evE_notD, evE_ifeD, evE_tupD, evE_lstD, evE_ixD, evE_slD, evE_biD, evE_meD, evE_callD, evE_callkD, evE_isiD, evE_mk, evA_consD, evA_nil, Env.at, Env.cur, Env.curs, Env.see, Env.store, Env.setS, Env.tak, Env.taks, Env.put, Env.hand, Env.back, Env.holds, Env.setWs, Env.setW, sameKey, Env.okey, Env.fz, fzb, oi_0, oi_1, oi_2, oi_3, oi_4, L2.ixN, truth, biOp, ob_add, ob_sub, ob_cat, oc_lt, oc_le, oc_gt, oc_ge, oc_eq, oc_ne, oc_in, oc_nin, oc_is, oc_isn, eq_int, eq_bl, eq_nil, isNonD, Env.bindT, Env.setSs, this])
  refine ⟨s5, s6, ?_⟩
  show evS (callN T (n + 2)) (.fors (.many [5, 6]) (.zp (.v 4) (.lst (.cons (.call 13 (.cons (.v 0) .nil)) (.cons (.call 14 (.cons (.v 0) .nil)) (.cons (.v 1) (.cons (.v 3) (.cons (.call 13 (.cons (.v 0) .nil)) .nil))))))) _) _ = _
  rw [evS_fors, ei]
  exact h4
theorem one_right {n : Nat} {d : D} (h : Ak d) : callN T (n + 3) 15 [(d, false)] = .ok (.bl true) false [(d, false)] := by
  have start : callN T (n + 3) 15 [(d, false)] = (match (evS (callN T (n + 2)) f15.body.hd (E15 d .no .no .no .no .no)).sq (evS (callN T (n + 2)) f15.body.tl) with
    | .nx e => CR.ok .non false e.le
    | .ret d o e => .ok d o e.le
    | .exc x e => .exc x e.le
    | _ => .bad) := rfl
  have step : ∀ e, evS (callN T (n + 2)) f15.body.tl e = (evS (callN T (n + 2)) f15.body.tl.hd e).sq fun e => (evS (callN T (n + 2)) f15.body.tl.tl.hd e).sq fun e => (evS (callN T (n + 2)) f15.body.tl.tl.tl.hd e).sq fun e => (evS (callN T (n + 2)) f15.body.tl.tl.tl.tl.hd e).sq fun e => evS (callN T (n + 2)) f15.body.tl.tl.tl.tl.tl e := fun e => rfl
  obtain ⟨s5, s6, e5⟩ := one_loop (n := n) h
  have c0 := is_integer (n := n + 1) h.kn
  have c3 := is_name (n := n + 1) h.kn
  have c2 := is_kind (n := n + 1) h.kn
  rw [start, one_start (n := n + 1) h]
  simp only [SR.sq_nx, step, one_rows (n := n + 1) h, one_kinds (n := n + 1) h, one_told h, e5]
  simp [bndD_ok, bndD_exc, bndD_bad, stD_ok, stD_exc, stD_bad, sqD_nx, sqD_brk, sqD_cnt, sqD_ret, sqD_exc, sqD_bad, runF, env0, slotsOf, evS_seqD, evS_ifsD, evS_skip, evS_setD, evS_subD, evS_retD, evS_dropD, evS_parD, evT_k, evT_v, evT_cmp, evT_call, evT_isi, evT_chain, evT_andD, evT_orD, evT_notD, bT_defD, evO_k, evO_v, evO_op, evO_neg, evO_no, bO_defD, evE_k, evE_v, evE_g, evE_opD, evE_negD, evE_cmpD, evE_chainD, evE_andD, evE_orD, evE_notD, evE_ifeD, evE_tupD, evE_lstD, evE_ixD, evE_slD, evE_biD, evE_meD, evE_callD, evE_callkD, evE_isiD, evE_mk, evA_consD, evA_nil, Env.at, Env.cur, Env.curs, Env.see, Env.store, Env.setS, Env.tak, Env.taks, Env.put, Env.hand, Env.back, Env.holds, Env.setWs, Env.setW, sameKey, Env.okey, Env.fz, fzb, oi_0, oi_1, oi_2, oi_3, oi_4, L2.ixN, truth, biOp, ob_add, ob_sub, ob_cat, oc_lt, oc_le, oc_gt, oc_ge, oc_eq, oc_ne, oc_in, oc_nin, oc_is, oc_isn, eq_int, eq_bl, eq_nil, isNonD, f15, St.tl, freesW, picks, c0, c2, c3]
end K01

set_option Elab.async false
set_option linter.all false
set_option maxRecDepth 100000
set_option maxHeartbeats 0
namespace K01
open PySem L2 Mi
abbrev E16 (p d : D) (m : Int) (s3 s4 s5 s6 : Mi.Slot) : Mi.Env := ⟨[.lent 0, .val d, .val (.int m), s3, s4, s5, s6], [(p, true), (d, false)]⟩
abbrev St.body : Mi.St → Mi.St
  | .fors _ _ b => b
  | s => s
theorem isi_bl (b : Bool) : isiD ["bool"] (.bl b) = some true := rfl
theorem b_body {n : Nat} {p d lo hi : D} {m : Int} {s5 s6 : Mi.Slot} (h : Kn d) (hl : Bd lo) (hh : Bd hi) :
    ∃ w, evS (callN T (n + 2)) (St.body (St.body f16.body.tl.hd)) (E16 p d m (.val lo) (.val hi) s5 s6) = .nx (E16 p d m (.val lo) (.val hi) (.val (.bl w)) (.val (.bl w))) := by
  refine ⟨wB d lo hi, ?_⟩
  have c13 := plain (n := n + 1) h
  have c1 := is_within (n := n) h hl hh
  cases hi' : isInt d with
  | false =>
    have hw : wB d lo hi = false := by unfold wB; rw [hi']; rfl
    simp [bndD_ok, bndD_exc, bndD_bad, stD_ok, stD_exc, stD_bad, sqD_nx, sqD_brk, sqD_cnt, sqD_ret, sqD_exc, sqD_bad, runF, env0, slotsOf, evS_seqD, evS_ifsD, evS_skip, evS_setD, evS_subD, evS_retD, evS_dropD, evS_parD, evT_k, evT_v, evT_cmp, evT_call, evT_isi, evT_chain, evT_andD, evT_orD, evT_notD, bT_defD, evO_k, evO_v, evO_op, evO_neg, evO_no, bO_defD, evE_k, evE_v, evE_g, evE_opD, evE_negD, evE_cmpD, evE_chainD, evE_andD, evE_orD, evE_notD, evE_ifeD, evE_tupD, evE_lstD, evE_ixD, evE_slD, evE_biD, evE_meD, evE_callD, evE_callkD, evE_isiD, evE_mk, evA_consD, evA_nil, Env.at, Env.cur, Env.curs, Env.see, Env.store, Env.setS, Env.tak, Env.taks, Env.put, Env.hand, Env.back, Env.holds, Env.setWs, Env.setW, sameKey, Env.okey, Env.fz, fzb, oi_0, oi_1, oi_2, oi_3, oi_4, L2.ixN, truth, biOp, ob_add, ob_sub, ob_cat, oc_lt, oc_le, oc_gt, oc_ge, oc_eq, oc_ne, oc_in, oc_nin, oc_is, oc_isn, eq_int, eq_bl, eq_nil, isNonD, f16, St.hd, St.tl, c13, c1, hi', hw, isi_bl, freesW, picks]
  | true =>
    cases d with
    | int i =>
      rcases hl with rfl | ⟨j, rfl⟩
      · rcases hh with rfl | ⟨k, rfl⟩
        · have hw : wB (.int i) .non .non = true := rfl
          rw [hw] at c1 ⊢
          simp [bndD_ok, bndD_exc, bndD_bad, stD_ok, stD_exc, stD_bad, sqD_nx, sqD_brk, sqD_cnt, sqD_ret, sqD_exc, sqD_bad, runF, env0, slotsOf, evS_seqD, evS_ifsD, evS_skip, evS_setD, evS_subD, evS_retD, evS_dropD, evS_parD, evT_k, evT_v, evT_cmp, evT_call, evT_isi, evT_chain, evT_andD, evT_orD, evT_notD, bT_defD, evO_k, evO_v, evO_op, evO_neg, evO_no, bO_defD, evE_k, evE_v, evE_g, evE_opD, evE_negD, evE_cmpD, evE_chainD, evE_andD, evE_orD, evE_notD, evE_ifeD, evE_tupD, evE_lstD, evE_ixD, evE_slD, evE_biD, evE_meD, evE_callD, evE_callkD, evE_isiD, evE_mk, evA_consD, evA_nil, Env.at, Env.cur, Env.curs, Env.see, Env.store, Env.setS, Env.tak, Env.taks, Env.put, Env.hand, Env.back, Env.holds, Env.setWs, Env.setW, sameKey, Env.okey, Env.fz, fzb, oi_0, oi_1, oi_2, oi_3, oi_4, L2.ixN, truth, biOp, ob_add, ob_sub, ob_cat, oc_lt, oc_le, oc_gt, oc_ge, oc_eq, oc_ne, oc_in, oc_nin, oc_is, oc_isn, eq_int, eq_bl, eq_nil, isNonD, f16, St.hd, St.tl, c13, c1, hi', isi_bl, freesW, picks]
        · have hw : wB (.int i) .non (.int k) = decide (i ≤ k) := by simp [wB, isInt, leO]
          rw [hw] at c1 ⊢
          simp [bndD_ok, bndD_exc, bndD_bad, stD_ok, stD_exc, stD_bad, sqD_nx, sqD_brk, sqD_cnt, sqD_ret, sqD_exc, sqD_bad, runF, env0, slotsOf, evS_seqD, evS_ifsD, evS_skip, evS_setD, evS_subD, evS_retD, evS_dropD, evS_parD, evT_k, evT_v, evT_cmp, evT_call, evT_isi, evT_chain, evT_andD, evT_orD, evT_notD, bT_defD, evO_k, evO_v, evO_op, evO_neg, evO_no, bO_defD, evE_k, evE_v, evE_g, evE_opD, evE_negD, evE_cmpD, evE_chainD, evE_andD, evE_orD, evE_notD, evE_ifeD, evE_tupD, evE_lstD, evE_ixD, evE_slD, evE_biD, evE_meD, evE_callD, evE_callkD, evE_isiD, evE_mk, evA_consD, evA_nil, Env.at, Env.cur, Env.curs, Env.see, Env.store, Env.setS, Env.tak, Env.taks, Env.put, Env.hand, Env.back, Env.holds, Env.setWs, Env.setW, sameKey, Env.okey, Env.fz, fzb, oi_0, oi_1, oi_2, oi_3, oi_4, L2.ixN, truth, biOp, ob_add, ob_sub, ob_cat, oc_lt, oc_le, oc_gt, oc_ge, oc_eq, oc_ne, oc_in, oc_nin, oc_is, oc_isn, eq_int, eq_bl, eq_nil, isNonD, f16, St.hd, St.tl, c13, c1, hi', isi_bl, freesW, picks]
      · by_cases hj : j ≤ i
        · rcases hh with rfl | ⟨k, rfl⟩
          · have hw : wB (.int i) (.int j) .non = true := by simp [wB, isInt, leO, hj]
            rw [hw] at c1 ⊢
            simp [bndD_ok, bndD_exc, bndD_bad, stD_ok, stD_exc, stD_bad, sqD_nx, sqD_brk, sqD_cnt, sqD_ret, sqD_exc, sqD_bad, runF, env0, slotsOf, evS_seqD, evS_ifsD, evS_skip, evS_setD, evS_subD, evS_retD, evS_dropD, evS_parD, evT_k, evT_v, evT_cmp, evT_call, evT_isi, evT_chain, evT_andD, evT_orD, evT_notD, bT_defD, evO_k, evO_v, evO_op, evO_neg, evO_no, bO_defD, evE_k, evE_v, evE_g, evE_opD, evE_negD, evE_cmpD, evE_chainD, evE_andD, evE_orD, evE_notD, evE_ifeD, evE_tupD, evE_lstD, evE_ixD, evE_slD, evE_biD, evE_meD, evE_callD, evE_callkD, evE_isiD, evE_mk, evA_consD, evA_nil, Env.at, Env.cur, Env.curs, Env.see, Env.store, Env.setS, Env.tak, Env.taks, Env.put, Env.hand, Env.back, Env.holds, Env.setWs, Env.setW, sameKey, Env.okey, Env.fz, fzb, oi_0, oi_1, oi_2, oi_3, oi_4, L2.ixN, truth, biOp, ob_add, ob_sub, ob_cat, oc_lt, oc_le, oc_gt, oc_ge, oc_eq, oc_ne, oc_in, oc_nin, oc_is, oc_isn, eq_int, eq_bl, eq_nil, isNonD, f16, St.hd, St.tl, c13, c1, hi', isi_bl, freesW, picks, hj]
          · have hw : wB (.int i) (.int j) (.int k) = decide (i ≤ k) := by simp [wB, isInt, leO, hj]
            rw [hw] at c1 ⊢
            simp [bndD_ok, bndD_exc, bndD_bad, stD_ok, stD_exc, stD_bad, sqD_nx, sqD_brk, sqD_cnt, sqD_ret, sqD_exc, sqD_bad, runF, env0, slotsOf, evS_seqD, evS_ifsD, evS_skip, evS_setD, evS_subD, evS_retD, evS_dropD, evS_parD, evT_k, evT_v, evT_cmp, evT_call, evT_isi, evT_chain, evT_andD, evT_orD, evT_notD, bT_defD, evO_k, evO_v, evO_op, evO_neg, evO_no, bO_defD, evE_k, evE_v, evE_g, evE_opD, evE_negD, evE_cmpD, evE_chainD, evE_andD, evE_orD, evE_notD, evE_ifeD, evE_tupD, evE_lstD, evE_ixD, evE_slD, evE_biD, evE_meD, evE_callD, evE_callkD, evE_isiD, evE_mk, evA_consD, evA_nil, Env.at, Env.cur, Env.curs, Env.see, Env.store, Env.setS, Env.tak, Env.taks, Env.put, Env.hand, Env.back, Env.holds, Env.setWs, Env.setW, sameKey, Env.okey, Env.fz, fzb, oi_0, oi_1, oi_2, oi_3, oi_4, L2.ixN, truth, biOp, ob_add, ob_sub, ob_cat, oc_lt, oc_le, oc_gt, oc_ge, oc_eq, oc_ne, oc_in, oc_nin, oc_is, oc_isn, eq_int, eq_bl, eq_nil, isNonD, f16, St.hd, St.tl, c13, c1, hi', isi_bl, freesW, picks, hj]
        · have hw : wB (.int i) (.int j) hi = false := by simp [wB, isInt, leO, hj]
          rw [hw] at c1 ⊢
          simp [bndD_ok, bndD_exc, bndD_bad, stD_ok, stD_exc, stD_bad, sqD_nx, sqD_brk, sqD_cnt, sqD_ret, sqD_exc, sqD_bad, runF, env0, slotsOf, evS_seqD, evS_ifsD, evS_skip, evS_setD, evS_subD, evS_retD, evS_dropD, evS_parD, evT_k, evT_v, evT_cmp, evT_call, evT_isi, evT_chain, evT_andD, evT_orD, evT_notD, bT_defD, evO_k, evO_v, evO_op, evO_neg, evO_no, bO_defD, evE_k, evE_v, evE_g, evE_opD, evE_negD, evE_cmpD, evE_chainD, evE_andD, evE_orD, evE_notD, evE_ifeD, evE_tupD, evE_lstD, evE_ixD, evE_slD, evE_biD, evE_meD, evE_callD, evE_callkD, evE_isiD, evE_mk, evA_consD, evA_nil, Env.at, Env.cur, Env.curs, Env.see, Env.store, Env.setS, Env.tak, Env.taks, Env.put, Env.hand, Env.back, Env.holds, Env.setWs, Env.setW, sameKey, Env.okey, Env.fz, fzb, oi_0, oi_1, oi_2, oi_3, oi_4, L2.ixN, truth, biOp, ob_add, ob_sub, ob_cat, oc_lt, oc_le, oc_gt, oc_ge, oc_eq, oc_ne, oc_in, oc_nin, oc_is, oc_isn, eq_int, eq_bl, eq_nil, isNonD, f16, St.hd, St.tl, c13, c1, hi', isi_bl, freesW, picks, hj]
    | _ => cases hi'
abbrev fiveE : Ex := .tup (.cons (.k .non) (.cons (.op .Sub (.v 2) (.k (.int 1))) (.cons (.v 2) (.cons (.op .Add (.v 2) (.k (.int 1))) (.cons (.call 10 (.cons (.v 0) .nil)) .nil)))))
theorem five {n : Nat} {b : Int} {p d : D} {m : Int} {s3 s4 s5 s6 : Mi.Slot} (hp : PenOk b p) (hb : b < 700000) : ∃ xs p', evI (callN T (n + 2)) fiveE (E16 p d m s3 s4 s5 s6) = .ok xs (E16 p' d m s3 s4 s5 s6) ∧ PenOk (b + 2) p' ∧ xs.length = 5 ∧ ∀ x ∈ xs, Bd x := by
  obtain ⟨i, p', e, h⟩ := number (n := n) hp hb
  refine ⟨[.non, .int (m - 1), .int m, .int (m + 1), .int i], p', ?_, h, rfl, fun x hx => ?_⟩
  · show evI (callN T (n + 2)) (.tup _) _ = _
    rw [evI_tup]
    simp [bndD_ok, bndD_exc, bndD_bad, stD_ok, stD_exc, stD_bad, sqD_nx, sqD_brk, sqD_cnt, sqD_ret, sqD_exc, sqD_bad, runF, env0, slotsOf, evS_seqD, evS_ifsD, evS_skip, evS_setD, evS_subD, evS_retD, evS_dropD, evS_parD, evT_k, evT_v, evT_cmp, evT_call, evT_isi, evT_chain, evT_andD, evT_orD, evT_notD, bT_defD, evO_k, evO_v, evO_op, evO_neg, evO_no, bO_defD, evE_k, evE_v, evE_g, evE_opD, evE_negD, evE_cmpD, evE_chainD, evE_andD, evE_orD, evE_notD, evE_ifeD, evE_tupD, evE_lstD, evE_ixD, evE_slD, evE_biD, evE_meD, evE_callD, evE_callkD, evE_isiD, evE_mk, evA_consD, evA_nil, Env.at, Env.cur, Env.curs, Env.see, Env.store, Env.setS, Env.tak, Env.taks, Env.put, Env.hand, Env.back, Env.holds, Env.setWs, Env.setW, sameKey, Env.okey, Env.fz, fzb, oi_0, oi_1, oi_2, oi_3, oi_4, L2.ixN, truth, biOp, ob_add, ob_sub, ob_cat, oc_lt, oc_le, oc_gt, oc_ge, oc_eq, oc_ne, oc_in, oc_nin, oc_is, oc_isn, eq_int, eq_bl, eq_nil, isNonD, bI_def, e, lim]
  · simp only [List.mem_cons, List.not_mem_nil, or_false] at hx
    rcases hx with rfl | rfl | rfl | rfl | rfl
    · exact .inl rfl
    all_goals exact .inr ⟨_, rfl⟩
theorem b_inner {n : Nat} {b : Int} {p d lo : D} {m : Int} {s4 s5 s6 : Mi.Slot} (h : Kn d) (hl : Bd lo) (hp : PenOk b p) (hb : b < 700000) :
    ∃ p' s4' s5' s6', evS (callN T (n + 2)) (St.body f16.body.tl.hd) (E16 p d m (.val lo) s4 s5 s6) = .nx (E16 p' d m (.val lo) s4' s5' s6') ∧ PenOk (b + 2) p' := by
  obtain ⟨xs, p', e, h1, _, h2⟩ := five (n := n) (d := d) (m := m) (s3 := .val lo) (s4 := s4) (s5 := s5) (s6 := s6) hp hb
  obtain ⟨e', h3, s4', s5', s6', rfl⟩ := forL_inv (P := fun _ e => ∃ s4 s5 s6, e = E16 p' d m (.val lo) s4 s5 s6) (k := 0) (f := fun x e => match e.bindT (.one 4) x with
    | some e' => evS (callN T (n + 2)) (St.body (St.body f16.body.tl.hd)) e'
    | none => .bad) (xs := xs) (e := E16 p' d m (.val lo) s4 s5 s6) ⟨_, _, _, rfl⟩ (fun x hx j e _ hP => by
      obtain ⟨s4, s5, s6, rfl⟩ := hP
      obtain ⟨w, hw⟩ := b_body (n := n) (p := p') (m := m) (s5 := s5) (s6 := s6) h hl (h2 x hx)
      exact ⟨_, hw, _, _, _, rfl⟩)
  refine ⟨p', s4', s5', s6', ?_, h1⟩
  show evS (callN T (n + 2)) (.fors (.one 4) fiveE _) _ = _
  rw [evS_fors, e]
  exact h3
theorem b_outer {n : Nat} {b : Int} {p d : D} {m : Int} (h : Kn d) (hp : PenOk b p) (hb : b < 600000) :
    ∃ p' s3 s4 s5 s6, evS (callN T (n + 2)) f16.body.tl.hd (E16 p d m .no .no .no .no) = .nx (E16 p' d m s3 s4 s5 s6) ∧ PenOk (b + 20) p' := by
  obtain ⟨xs, p', e, h1, h0, h2⟩ := five (n := n) (d := d) (m := m) (s3 := .no) (s4 := .no) (s5 := .no) (s6 := .no) hp (by omega)
  obtain ⟨e', h3, q, s3, s4, s5, s6, rfl, h4⟩ := forL_inv (P := fun j e => ∃ q s3 s4 s5 s6, e = E16 q d m s3 s4 s5 s6 ∧ PenOk (b + 2 + 2 * (j : Int)) q) (k := 0) (f := fun x e => match e.bindT (.one 3) x with
    | some e' => evS (callN T (n + 2)) (St.body f16.body.tl.hd) e'
    | none => .bad) (xs := xs) (e := E16 p' d m .no .no .no .no) ⟨p', _, _, _, _, rfl, by simpa using h1⟩ (fun x hx j e hj hP => by
      obtain ⟨q, s3, s4, s5, s6, rfl, g1⟩ := hP
      obtain ⟨q', s4', s5', s6', g2, g3⟩ := b_inner (n := n) (m := m) (s4 := s4) (s5 := s5) (s6 := s6) h (h2 x hx) g1 (by omega)
      exact ⟨_, g2, q', _, _, _, _, rfl, g3.mono (by omega)⟩)
  refine ⟨q, s3, s4, s5, s6, ?_, h4.mono (by omega)⟩
  show evS (callN T (n + 2)) (.fors (.one 3) fiveE _) _ = _
  rw [evS_fors, e]
  exact h3
theorem bounds_right {n : Nat} {b : Int} {p d : D} (h : Kn d) (hp : PenOk b p) (hb : b < 500000) : ∃ p', callN T (n + 3) 16 [(p, true), (d, false)] = .ok (.bl true) false [(p', true), (d, false)] ∧ PenOk (b + 22) p' := by
  have c13 := plain (n := n + 1) h
  have start : callN T (n + 3) 16 [(p, true), (d, false)] = (match (evS (callN T (n + 2)) f16.body.hd ⟨[.lent 0, .val d, .no, .no, .no, .no, .no], [(p, true), (d, false)]⟩).sq (fun e => (evS (callN T (n + 2)) f16.body.tl.hd e).sq (evS (callN T (n + 2)) f16.body.tl.tl)) with
    | .nx e => CR.ok .non false e.le
    | .ret d o e => .ok d o e.le
    | .exc x e => .exc x e.le
    | _ => .bad) := rfl
  have first : ∃ m p', evS (callN T (n + 2)) f16.body.hd ⟨[.lent 0, .val d, .no, .no, .no, .no, .no], [(p, true), (d, false)]⟩ = .nx (E16 p' d m .no .no .no .no) ∧ PenOk (b + 2) p' := by
    cases hi : isInt d with
    | true =>
      cases d with
      | int i => exact ⟨i, p, by simp [bndD_ok, bndD_exc, bndD_bad, stD_ok, stD_exc, stD_bad, sqD_nx, sqD_brk, sqD_cnt, sqD_ret, sqD_exc, sqD_bad, runF, env0, slotsOf, evS_seqD, evS_ifsD, evS_skip, evS_setD, evS_subD, evS_retD, evS_dropD, evS_parD, evT_k, evT_v, evT_cmp, evT_call, evT_isi, evT_chain, evT_andD, evT_orD, evT_notD, bT_defD, evO_k, evO_v, evO_op, evO_neg, evO_no, bO_defD, evE_k, evE_v, evE_g, evE_opD, evE_negD, evE_cmpD, evE_chainD, evE_andD, evE_orD, evE_notD, evE_ifeD, evE_tupD, evE_lstD, evE_ixD, evE_slD, evE_biD, evE_meD, evE_callD, evE_callkD, evE_isiD, evE_mk, evA_consD, evA_nil, Env.at, Env.cur, Env.curs, Env.see, Env.store, Env.setS, Env.tak, Env.taks, Env.put, Env.hand, Env.back, Env.holds, Env.setWs, Env.setW, sameKey, Env.okey, Env.fz, fzb, oi_0, oi_1, oi_2, oi_3, oi_4, L2.ixN, truth, biOp, ob_add, ob_sub, ob_cat, oc_lt, oc_le, oc_gt, oc_ge, oc_eq, oc_ne, oc_in, oc_nin, oc_is, oc_isn, eq_int, eq_bl, eq_nil, isNonD, f16, St.hd, c13, hi], hp.mono (by omega)⟩
      | _ => cases hi
    | false =>
      obtain ⟨i, p', e, h⟩ := number (n := n) hp (by omega)
      exact ⟨i, p', by simp [bndD_ok, bndD_exc, bndD_bad, stD_ok, stD_exc, stD_bad, sqD_nx, sqD_brk, sqD_cnt, sqD_ret, sqD_exc, sqD_bad, runF, env0, slotsOf, evS_seqD, evS_ifsD, evS_skip, evS_setD, evS_subD, evS_retD, evS_dropD, evS_parD, evT_k, evT_v, evT_cmp, evT_call, evT_isi, evT_chain, evT_andD, evT_orD, evT_notD, bT_defD, evO_k, evO_v, evO_op, evO_neg, evO_no, bO_defD, evE_k, evE_v, evE_g, evE_opD, evE_negD, evE_cmpD, evE_chainD, evE_andD, evE_orD, evE_notD, evE_ifeD, evE_tupD, evE_lstD, evE_ixD, evE_slD, evE_biD, evE_meD, evE_callD, evE_callkD, evE_isiD, evE_mk, evA_consD, evA_nil, Env.at, Env.cur, Env.curs, Env.see, Env.store, Env.setS, Env.tak, Env.taks, Env.put, Env.hand, Env.back, Env.holds, Env.setWs, Env.setW, sameKey, Env.okey, Env.fz, fzb, oi_0, oi_1, oi_2, oi_3, oi_4, L2.ixN, truth, biOp, ob_add, ob_sub, ob_cat, oc_lt, oc_le, oc_gt, oc_ge, oc_eq, oc_ne, oc_in, oc_nin, oc_is, oc_isn, eq_int, eq_bl, eq_nil, isNonD, f16, St.hd, c13, hi, e], h⟩
  obtain ⟨m, p1, e1, h1⟩ := first
  obtain ⟨p2, s3, s4, s5, s6, e2, h2⟩ := b_outer (n := n) (m := m) h h1 (by omega)
  refine ⟨p2, ?_, h2.mono (by omega)⟩
  rw [start, e1]
  simp only [SR.sq_nx, e2]
  simp [bndD_ok, bndD_exc, bndD_bad, stD_ok, stD_exc, stD_bad, sqD_nx, sqD_brk, sqD_cnt, sqD_ret, sqD_exc, sqD_bad, runF, env0, slotsOf, evS_seqD, evS_ifsD, evS_skip, evS_setD, evS_subD, evS_retD, evS_dropD, evS_parD, evT_k, evT_v, evT_cmp, evT_call, evT_isi, evT_chain, evT_andD, evT_orD, evT_notD, bT_defD, evO_k, evO_v, evO_op, evO_neg, evO_no, bO_defD, evE_k, evE_v, evE_g, evE_opD, evE_negD, evE_cmpD, evE_chainD, evE_andD, evE_orD, evE_notD, evE_ifeD, evE_tupD, evE_lstD, evE_ixD, evE_slD, evE_biD, evE_meD, evE_callD, evE_callkD, evE_isiD, evE_mk, evA_consD, evA_nil, Env.at, Env.cur, Env.curs, Env.see, Env.store, Env.setS, Env.tak, Env.taks, Env.put, Env.hand, Env.back, Env.holds, Env.setWs, Env.setW, sameKey, Env.okey, Env.fz, fzb, oi_0, oi_1, oi_2, oi_3, oi_4, L2.ixN, truth, biOp, ob_add, ob_sub, ob_cat, oc_lt, oc_le, oc_gt, oc_ge, oc_eq, oc_ne, oc_in, oc_nin, oc_is, oc_isn, eq_int, eq_bl, eq_nil, isNonD, f16, St.tl]
end K01

set_option Elab.async false
set_option linter.all false
set_option maxRecDepth 100000
set_option maxHeartbeats 0
namespace K01
open PySem L2 Mi
def Kd (x : D) : Prop := (∃ i, x = .int i) ∨ ∃ s, x = .str s ∧ s.length ≤ 60 ∧ strOkM s = true
def kd : D → L2.Key
  | .int i => .inl i
  | .str s => .inr s
  | _ => .inl 0
theorem Kd.key {x : D} (h : Kd x) : keyD x = some (kd x) := by rcases h with ⟨i, rfl⟩ | ⟨s, rfl, _⟩ <;> rfl
theorem Kd.flat {x : D} (h : Kd x) : flatD x = true := by rcases h with ⟨i, rfl⟩ | ⟨s, rfl, _⟩ <;> rfl
theorem Kd.nn {x : D} (h : Kd x) : x ≠ .non := by rcases h with ⟨i, rfl⟩ | ⟨s, rfl, _⟩ <;> intro h <;> cases h
theorem kd_eq {x y : D} (hx : Kd x) (hy : Kd y) : decide (kd y = kd x) = eqF y x := by
  rcases hx with ⟨i, rfl⟩ | ⟨s, rfl, _⟩ <;> rcases hy with ⟨j, rfl⟩ | ⟨t, rfl, _⟩
  · show decide ((Sum.inl j : L2.Key) = .inl i) = (j == i)
    by_cases h : j = i <;> simp [h]
  · rfl
  · rfl
  · show decide ((Sum.inr t : L2.Key) = .inr s) = (t == s)
    by_cases h : t = s <;> simp [h]
theorem key_in {x : D} (hx : Kd x) : ∀ {p : List D}, (∀ y ∈ p, Kd y) → keyIn (kd x) (p.map kd) = inF x p
  | [], _ => rfl
  | y :: p, h => by
    show (decide (kd y = kd x) || keyIn (kd x) (p.map kd)) = (eqF y x || inF x p)
    rw [kd_eq hx (h y List.mem_cons_self), key_in hx fun z hz => h z (List.mem_cons_of_mem _ hz)]
def dueF (p : List D) : List D → D
  | [] => .non
  | x :: xs => if inF x p then x else dueF (p ++ [x]) xs
theorem dueF_ok : ∀ {xs p : List D}, (∀ x ∈ xs, Kd x) → dueF p xs = .non ∨ Kd (dueF p xs)
  | [], p, _ => .inl rfl
  | x :: xs, p, h => by
    show (if inF x p then x else dueF (p ++ [x]) xs) = .non ∨ Kd (if inF x p then x else dueF (p ++ [x]) xs)
    split
    · exact .inr (h x List.mem_cons_self)
    · exact dueF_ok fun z hz => h z (List.mem_cons_of_mem _ hz)
abbrev body5 : Mi.St := .seq (.ifs (.cmp .In (.v 2) (.v 1)) (.ret (.v 2)) .skip) (.drop (.me .add (.v 1) (.cons (.v 2) .nil)))
theorem ft_loop {cal : Cal} {v : D} : ∀ {xs p : List D} {s2 : Mi.Slot}, (∀ x ∈ xs, Kd x) → (∀ y ∈ p, Kd y) → p.length + xs.length ≤ 1000 →
    (dueF p xs = .non ∧ ∃ e', forL (fun d e => match e.bindT (.one 2) d with
      | some e' => evS cal body5 e'
      | none => .bad) xs ⟨[.val v, .own (.kset (p.map kd)), s2], [(v, false)]⟩ = .nx e' ∧ e'.le = [(v, false)]) ∨
    (∃ e', forL (fun d e => match e.bindT (.one 2) d with
      | some e' => evS cal body5 e'
      | none => .bad) xs ⟨[.val v, .own (.kset (p.map kd)), s2], [(v, false)]⟩ = .ret (dueF p xs) false e' ∧ e'.le = [(v, false)])
  | [], p, s2, _, _, _ => .inl ⟨rfl, _, rfl, rfl⟩
  | x :: xs, p, s2, h, hp, hl => by
    have hx := h x List.mem_cons_self
    have hk := hx.key
    have hin := key_in hx hp
    have ei : opIn x (.kset (p.map kd)) = some (inF x p) := by
      rw [← hin]
      have : opIn x (.kset (p.map kd)) = (keyD x).map fun k => keyIn k (p.map kd) := by cases x <;> rfl
      rw [this, hk] <;> rfl
    have u : ∀ (f : D → Mi.Env → SR) (e : Mi.Env), forL f (x :: xs) e = (match f x e with
      | .nx e1 => forL f xs e1
      | .cnt e1 => forL f xs e1
      | .brk e1 => .nx e1
      | r => r) := fun f e => rfl
    simp only [u]
    have hd : dueF p (x :: xs) = if inF x p then x else dueF (p ++ [x]) xs := rfl
    rw [hd]
    cases hi : inF x p with
    | true =>
      right
      refine ⟨⟨[.val v, .own (.kset (p.map kd)), .val x], [(v, false)]⟩, ?_, rfl⟩
      rw [hi] at ei
      simp [bndD_ok, bndD_exc, bndD_bad, stD_ok, stD_exc, stD_bad, sqD_nx, sqD_brk, sqD_cnt, sqD_ret, sqD_exc, sqD_bad, runF, env0, slotsOf, evS_seqD, evS_ifsD, evS_skip, evS_setD, evS_subD, evS_retD, evS_dropD, evS_parD, evT_k, evT_v, evT_cmp, evT_call, evT_isi, evT_chain, evT_andD, evT_orD, evT_notD, bT_defD, evO_k, evO_v, evO_op, evO_neg, evO_no, bO_defD, evE_k, evE_v, evE_g, evE_opD, evE_negD, evE_cmpD, evE_chainD, evE_andD, evE_orD, evE_notD, evE_ifeD, evE_tupD, evE_lstD, evE_ixD, evE_slD, evE_biD, evE_meD, evE_callD, evE_callkD, evE_isiD, evE_mk, evA_consD, evA_nil, Env.at, Env.cur, Env.curs, Env.see, Env.store, Env.setS, Env.tak, Env.taks, Env.put, Env.hand, Env.back, Env.holds, Env.setWs, Env.setW, sameKey, Env.okey, Env.fz, fzb, oi_0, oi_1, oi_2, oi_3, oi_4, L2.ixN, truth, biOp, ob_add, ob_sub, ob_cat, oc_lt, oc_le, oc_gt, oc_ge, oc_eq, oc_ne, oc_in, oc_nin, oc_is, oc_isn, eq_int, eq_bl, eq_nil, isNonD, Env.bindT, ei]
    | false =>
      rw [hi] at ei
      rw [hi] at hin
      have hl' : (p.map kd).length + 1 < 4096 := by simp at hl ⊢; omega
      have em : meOp .add (.kset (p.map kd)) [x] = some (.kset ((p ++ [x]).map kd), .non) := by
        show (match keyD x with
          | some k => if (p.map kd).length + 1 < 4096 then some ((D.kset (if keyIn k (p.map kd) then p.map kd else p.map kd ++ [k]), D.non) : D × D) else none
          | none => none) = _
        rw [hk]
        dsimp only
        rw [if_pos hl', hin]
        simp
      have eb : evS cal body5 ⟨[.val v, .own (.kset (p.map kd)), .val x], [(v, false)]⟩ = .nx ⟨[.val v, .own (.kset ((p ++ [x]).map kd)), .val x], [(v, false)]⟩ := by
        simp [bndD_ok, bndD_exc, bndD_bad, stD_ok, stD_exc, stD_bad, sqD_nx, sqD_brk, sqD_cnt, sqD_ret, sqD_exc, sqD_bad, runF, env0, slotsOf, evS_seqD, evS_ifsD, evS_skip, evS_setD, evS_subD, evS_retD, evS_dropD, evS_parD, evT_k, evT_v, evT_cmp, evT_call, evT_isi, evT_chain, evT_andD, evT_orD, evT_notD, bT_defD, evO_k, evO_v, evO_op, evO_neg, evO_no, bO_defD, evE_k, evE_v, evE_g, evE_opD, evE_negD, evE_cmpD, evE_chainD, evE_andD, evE_orD, evE_notD, evE_ifeD, evE_tupD, evE_lstD, evE_ixD, evE_slD, evE_biD, evE_meD, evE_callD, evE_callkD, evE_isiD, evE_mk, evA_consD, evA_nil, Env.at, Env.cur, Env.curs, Env.see, Env.store, Env.setS, Env.tak, Env.taks, Env.put, Env.hand, Env.back, Env.holds, Env.setWs, Env.setW, sameKey, Env.okey, Env.fz, fzb, oi_0, oi_1, oi_2, oi_3, oi_4, L2.ixN, truth, biOp, ob_add, ob_sub, ob_cat, oc_lt, oc_le, oc_gt, oc_ge, oc_eq, oc_ne, oc_in, oc_nin, oc_is, oc_isn, eq_int, eq_bl, eq_nil, isNonD, ei, em, meTyp]
      have := ft_loop (cal := cal) (v := v) (xs := xs) (p := p ++ [x]) (s2 := .val x) (fun z hz => h z (List.mem_cons_of_mem _ hz)) (fun y hy => by
        rcases List.mem_append.mp hy with h | h
        · exact hp y h
        · rw [List.mem_singleton.mp h]; exact hx) (by simp at hl ⊢; omega)
      have eb' : (match (Env.bindT ⟨[.val v, .own (.kset (p.map kd)), s2], [(v, false)]⟩ (.one 2) x) with
        | some e' => evS cal body5 e'
        | none => .bad) = .nx ⟨[.val v, .own (.kset ((p ++ [x]).map kd)), .val x], [(v, false)]⟩ := eb
      rw [eb']
      exact this
theorem first_twice {n : Nat} {v : D} {xs : List D} (hv : v = .lst xs ∨ v = .tup xs) (h : ∀ x ∈ xs, Kd x) (hl : xs.length ≤ 1000) : callN T (n + 1) 5 [(v, false)] = .ok (dueF [] xs) false [(v, false)] := by
  have ei : evI (callN T n) (.v 0) ⟨[.val v, .own (.kset []), .no], [(v, false)]⟩ = .ok xs ⟨[.val v, .own (.kset []), .no], [(v, false)]⟩ := by
    rcases hv with rfl | rfl <;> rfl
  have start : callN T (n + 1) 5 [(v, false)] = (match (evS (callN T n) (.fors (.one 2) (.v 0) body5) ⟨[.val v, .own (.kset []), .no], [(v, false)]⟩).sq (evS (callN T n) (.ret (.k .non))) with
    | .nx e => CR.ok .non false e.le
    | .ret d o e => .ok d o e.le
    | .exc x e => .exc x e.le
    | _ => .bad) := rfl
  rw [start]
  rcases ft_loop (cal := callN T n) (v := v) (xs := xs) (p := []) (s2 := .no) h (by simp) (by simpa using hl) with ⟨h1, e', h2, h3⟩ | ⟨e', h2, h3⟩
  · have h2' : evS (callN T n) (.fors (.one 2) (.v 0) body5) ⟨[.val v, .own (.kset []), .no], [(v, false)]⟩ = .nx e' := by
      rw [evS_fors, ei]
      exact h2
    rw [h2', h1]
    show CR.ok .non false e'.le = _
    rw [h3]
  · have h2' : evS (callN T n) (.fors (.one 2) (.v 0) body5) ⟨[.val v, .own (.kset []), .no], [(v, false)]⟩ = .ret (dueF [] xs) false e' := by
      rw [evS_fors, ei]
      exact h2
    rw [h2']
    show CR.ok (dueF [] xs) false e'.le = _
    rw [h3]
end K01

set_option Elab.async false
set_option linter.all false
set_option maxRecDepth 100000
set_option maxHeartbeats 0
namespace K01
open PySem L2 Mi
/-! ### a list is equal to itself -/
theorem kd_py : ∀ {xs : List D}, (∀ x ∈ xs, Kd x) → ∃ ps, toPys xs = some ps ∧ PyData.canLayAll0 ps = true ∧ PyData.depthAll ps = 0 ∧ PyData.eqvAll ps ps = true
  | [], _ => ⟨[], by simp [toPys], by simp [PyData.canLayAll0], by simp [PyData.depthAll], by simp [PyData.eqvAll]⟩
  | x :: xs, h => by
    obtain ⟨ps, h1, h2, h3, h4⟩ := kd_py fun z hz => h z (List.mem_cons_of_mem _ hz)
    rcases h x List.mem_cons_self with ⟨i, rfl⟩ | ⟨s, rfl, _, hs⟩
    · exact ⟨.int i :: ps, by simp [toPys, toPy, h1], by simp [PyData.canLayAll0, PyData.canLay0, h2], by simp [PyData.depthAll, PyData.depth, h3], by simp [PyData.eqvAll, PyData.eqv, h4]⟩
    · exact ⟨.str s :: ps, by simp [toPys, toPy, h1], by
        have hs' : PyData.canLay0 (.str s) = true := hs
        simp only [PyData.canLayAll0, hs', h2, Bool.and_self], by simp [PyData.depthAll, PyData.depth, h3], by simp [PyData.eqvAll, PyData.eqv, h4]⟩
theorem eq_self {xs : List D} (h : ∀ x ∈ xs, Kd x) : eqD (.lst xs) (.lst xs) = some true := by
  obtain ⟨ps, h1, h2, h3, h4⟩ := kd_py h
  have e : toPy (.lst xs) = some (.list ps) := by simp [toPy, h1]
  have sh : SeqAt.shaped (.list ps) = true := by
    show (PyData.canLay0 (.list ps) && decide (PyData.depth (.list ps) ≤ 64)) = true
    simp only [PyData.canLay0, PyData.depth, h2, h3]
    decide
  unfold eqD
  rw [e]
  dsimp only
  rw [sh]
  have : PyData.eqv (.list ps) (.list ps) = true := by simp only [PyData.eqv, h4]
  rw [this] <;> rfl
theorem eq_one {x : D} (h : x = .non ∨ Kd x) : eqD x x = some true := by
  rcases h with rfl | ⟨i, rfl⟩ | ⟨s, rfl, _, hs⟩
  · rfl
  · rw [eq_int]; simp
  · rw [eq_str hs hs]; simp
/-! ### the law's own search -/
abbrev E17 (p : D) (s1 s2 s3 s4 s5 s6 s7 s8 : Mi.Slot) : Mi.Env := ⟨[.lent 0, s1, s2, s3, s4, s5, s6, s7, s8], [(p, true)]⟩
abbrev bodyD : Mi.St := .ifs (.and (.cmp .Is (.v 6) (.k .non)) (.cmp .In (.v 8) (.sl (.v 4) .no (.v 2)))) (.set 6 (.v 8)) .skip
theorem cut_pre (p r : List D) : cutD (p ++ r) none (some (p.length : Int)) = p := by
  unfold cutD
  rw [HT.sIx_none, HT.sIx_nat]
  simp
theorem in_pre {x : D} (hx : Kd x) {p : List D} (hp : ∀ y ∈ p, Kd y) : opIn x (.lst p) = some (inF x p) := by
  have : opIn x (.lst p) = if flatD x && p.all flatD then some (inF x p) else none := by cases x <;> rfl
  rw [this, hx.flat, List.all_eq_true.mpr fun y hy => (hp y hy).flat] <;> rfl
theorem due_loop {cal : Cal} {p0 : D} {s1 s3 s5 s7 : Mi.Slot} {xs : List D} (h : ∀ x ∈ xs, Kd x) {t : D} : ∀ {r p : List D} {s2 s8 : Mi.Slot} {d : D}, xs = p ++ r → ((d = .non ∧ t = dueF p r) ∨ (d = t ∧ t ≠ .non)) →
    ∃ s2' s8', forL (fun d e => match e.bindT (.many [2, 8]) d with
      | some e' => evS cal bodyD e'
      | none => .bad) (enD p.length r) (E17 p0 s1 s2 s3 (.val (.lst xs)) s5 (.val d) s7 s8) = .nx (E17 p0 s1 s2' s3 (.val (.lst xs)) s5 (.val t) s7 s8')
  | [], p, s2, s8, d, _, hd => by
    have : d = t := by
      rcases hd with ⟨h1, h2⟩ | ⟨h1, _⟩
      · rw [h1, h2]; rfl
      · exact h1
    subst this
    exact ⟨s2, s8, rfl⟩
  | x :: r, p, s2, s8, d, hx, hd => by
    have kx : Kd x := h x (by rw [hx]; simp)
    have kp : ∀ y ∈ p, Kd y := fun y hy => h y (by rw [hx]; simp [hy])
    have nn : isNonD x = false := by
      cases x <;> first | rfl | exact absurd rfl kx.nn
    have u : ∀ (f : D → Mi.Env → SR) (e : Mi.Env), forL f (enD p.length (x :: r)) e = (match f (.tup [.int (p.length : Int), x]) e with
      | .nx e1 => forL f (enD (p ++ [x]).length r) e1
      | .cnt e1 => forL f (enD (p ++ [x]).length r) e1
      | .brk e1 => .nx e1
      | r => r) := fun f e => by
        have : (p ++ [x]).length = p.length + 1 := by simp
        rw [this]
        rfl
    have cut : cutD xs none (some (p.length : Int)) = p := by rw [hx]; exact cut_pre p (x :: r)
    have ein := in_pre kx kp
    have step : ∃ d', (evS cal bodyD (E17 p0 s1 (.val (.int (p.length : Int))) s3 (.val (.lst xs)) s5 (.val d) s7 (.val x)) = .nx (E17 p0 s1 (.val (.int (p.length : Int))) s3 (.val (.lst xs)) s5 (.val d') s7 (.val x))) ∧ ((d' = .non ∧ t = dueF (p ++ [x]) r) ∨ (d' = t ∧ t ≠ .non)) := by
      rcases hd with ⟨rfl, h2⟩ | ⟨rfl, h2⟩
      · have e1 : dueF p (x :: r) = if inF x p then x else dueF (p ++ [x]) r := rfl
        rw [e1] at h2
        cases hi : inF x p with
        | true =>
          rw [hi] at h2 ein
          exact ⟨x, by simp [bndD_ok, bndD_exc, bndD_bad, stD_ok, stD_exc, stD_bad, sqD_nx, sqD_brk, sqD_cnt, sqD_ret, sqD_exc, sqD_bad, runF, env0, slotsOf, evS_seqD, evS_ifsD, evS_skip, evS_setD, evS_subD, evS_retD, evS_dropD, evS_parD, evT_k, evT_v, evT_cmp, evT_call, evT_isi, evT_chain, evT_andD, evT_orD, evT_notD, bT_defD, evO_k, evO_v, evO_op, evO_neg, evO_no, bO_defD, evE_k, evE_v, evE_g, evE_opD, evE_negD, evE_cmpD, evE_chainD, evE_andD, evE_orD, evE_notD, evE_ifeD, evE_tupD, evE_lstD, evE_ixD, evE_slD, evE_biD, evE_meD, evE_callD, evE_callkD, evE_isiD, evE_mk, evA_consD, evA_nil, Env.at, Env.cur, Env.curs, Env.see, Env.store, Env.setS, Env.tak, Env.taks, Env.put, Env.hand, Env.back, Env.holds, Env.setWs, Env.setW, sameKey, Env.okey, Env.fz, fzb, oi_0, oi_1, oi_2, oi_3, oi_4, L2.ixN, truth, biOp, ob_add, ob_sub, ob_cat, oc_lt, oc_le, oc_gt, oc_ge, oc_eq, oc_ne, oc_in, oc_nin, oc_is, oc_isn, eq_int, eq_bl, eq_nil, isNonD, opSl, cut, ein], .inr ⟨h2.symm, by rw [h2]; exact kx.nn⟩⟩
        | false =>
          rw [hi] at h2 ein
          exact ⟨.non, by simp [bndD_ok, bndD_exc, bndD_bad, stD_ok, stD_exc, stD_bad, sqD_nx, sqD_brk, sqD_cnt, sqD_ret, sqD_exc, sqD_bad, runF, env0, slotsOf, evS_seqD, evS_ifsD, evS_skip, evS_setD, evS_subD, evS_retD, evS_dropD, evS_parD, evT_k, evT_v, evT_cmp, evT_call, evT_isi, evT_chain, evT_andD, evT_orD, evT_notD, bT_defD, evO_k, evO_v, evO_op, evO_neg, evO_no, bO_defD, evE_k, evE_v, evE_g, evE_opD, evE_negD, evE_cmpD, evE_chainD, evE_andD, evE_orD, evE_notD, evE_ifeD, evE_tupD, evE_lstD, evE_ixD, evE_slD, evE_biD, evE_meD, evE_callD, evE_callkD, evE_isiD, evE_mk, evA_consD, evA_nil, Env.at, Env.cur, Env.curs, Env.see, Env.store, Env.setS, Env.tak, Env.taks, Env.put, Env.hand, Env.back, Env.holds, Env.setWs, Env.setW, sameKey, Env.okey, Env.fz, fzb, oi_0, oi_1, oi_2, oi_3, oi_4, L2.ixN, truth, biOp, ob_add, ob_sub, ob_cat, oc_lt, oc_le, oc_gt, oc_ge, oc_eq, oc_ne, oc_in, oc_nin, oc_is, oc_isn, eq_int, eq_bl, eq_nil, isNonD, opSl, cut, ein], .inl ⟨rfl, h2⟩⟩
      · have : isNonD d = false := by
          cases d <;> first | rfl | exact absurd rfl h2
        exact ⟨d, by simp only [evS_ifs, evT_and, evT_cmp, bT_def, evE_cmp, evE_v, evE_k]; simp [Env.at, Env.cur, Env.see, oc_is, this, truth, evS_skip], .inr ⟨rfl, h2⟩⟩
    obtain ⟨d', e1, h1⟩ := step
    obtain ⟨s2', s8', e2⟩ := due_loop (cal := cal) (p0 := p0) (s1 := s1) (s3 := s3) (s5 := s5) (s7 := s7) (xs := xs) h (t := t) (r := r) (p := p ++ [x]) (s2 := .val (.int (p.length : Int))) (s8 := .val x) (d := d') (by rw [hx]; simp) h1
    refine ⟨s2', s8', ?_⟩
    rw [u]
    have e1' : (match (Env.bindT (E17 p0 s1 s2 s3 (.val (.lst xs)) s5 (.val d) s7 s8) (.many [2, 8]) (.tup [.int (p.length : Int), x])) with
      | some e' => evS cal bodyD e'
      | none => .bad) = .nx (E17 p0 s1 (.val (.int (p.length : Int))) s3 (.val (.lst xs)) s5 (.val d') s7 (.val x)) := e1
    rw [e1']
    exact e2
end K01

set_option Elab.async false
set_option linter.all false
set_option maxRecDepth 100000
set_option maxHeartbeats 0
namespace K01
open PySem L2 Mi
abbrev bodyL : Mi.St := St.body f17.body.tl.tl.tl.hd
theorem t_told {n : Nat} {p : D} {s1 s2 s3 s7 s8 : Mi.Slot} {xs : List D} (h : ∀ x ∈ xs, Kd x) (hl : xs.length ≤ 1000) {s5 : Mi.Slot} : ∃ s5', evS (callN T (n + 1)) bodyL.tl.tl.hd (E17 p s1 s2 s3 (.val (.lst xs)) s5 (.val (dueF [] xs)) s7 s8) = .nx (E17 p s1 s2 s3 (.val (.lst xs)) s5' (.val (dueF [] xs)) s7 s8) := by
  have f1 := first_twice (n := n) (.inl rfl) h hl
  have f2 := first_twice (n := n) (.inr rfl) h hl
  have ei : evI (callN T (n + 1)) (.tup (.cons (.call 5 (.cons (.v 4) .nil)) (.cons (.call 5 (.cons (.bi .tuple (.cons (.v 4) .nil)) .nil)) .nil))) (E17 p s1 s2 s3 (.val (.lst xs)) s5 (.val (dueF [] xs)) s7 s8) = .ok [dueF [] xs, dueF [] xs] (E17 p s1 s2 s3 (.val (.lst xs)) s5 (.val (dueF [] xs)) s7 s8) := by
    rw [evI_tup]
    simp [bndD_ok, bndD_exc, bndD_bad, stD_ok, stD_exc, stD_bad, sqD_nx, sqD_brk, sqD_cnt, sqD_ret, sqD_exc, sqD_bad, runF, env0, slotsOf, evS_seqD, evS_ifsD, evS_skip, evS_setD, evS_subD, evS_retD, evS_dropD, evS_parD, evT_k, evT_v, evT_cmp, evT_call, evT_isi, evT_chain, evT_andD, evT_orD, evT_notD, bT_defD, evO_k, evO_v, evO_op, evO_neg, evO_no, bO_defD, evE_k, evE_v, evE_g, evE_opD, evE_negD, evE_cmpD, evE_chainD, evE_andD, evE_orD, evE_notD, evE_ifeD, evE_tupD, evE_lstD, evE_ixD, evE_slD, evE_biD, evE_meD, evE_callD, evE_callkD, evE_isiD, evE_mk, evA_consD, evA_nil, Env.at, Env.cur, Env.curs, Env.see, Env.store, Env.setS, Env.tak, Env.taks, Env.put, Env.hand, Env.back, Env.holds, Env.setWs, Env.setW, sameKey, Env.okey, Env.fz, fzb, oi_0, oi_1, oi_2, oi_3, oi_4, L2.ixN, truth, biOp, ob_add, ob_sub, ob_cat, oc_lt, oc_le, oc_gt, oc_ge, oc_eq, oc_ne, oc_in, oc_nin, oc_is, oc_isn, eq_int, eq_bl, eq_nil, isNonD, bI_def, f1, f2, lim]
  obtain ⟨e', h4, s5', rfl⟩ := forL_inv (P := fun _ e => ∃ s5, e = E17 p s1 s2 s3 (.val (.lst xs)) s5 (.val (dueF [] xs)) s7 s8) (k := 0) (f := fun d e => match e.bindT (.one 5) d with
    | some e' => evS (callN T (n + 1)) (St.body bodyL.tl.tl.hd) e'
    | none => .bad) (xs := [dueF [] xs, dueF [] xs]) (e := E17 p s1 s2 s3 (.val (.lst xs)) s5 (.val (dueF [] xs)) s7 s8) ⟨_, rfl⟩ (fun x hx j e _ hP => by
    obtain ⟨s5, rfl⟩ := hP
    have : x = dueF [] xs := by simpa using hx
    subst this
    have eq := eq_one (dueF_ok (p := []) h)
    refine ⟨_, ?_, .val (dueF [] xs), rfl⟩
    simp [bndD_ok, bndD_exc, bndD_bad, stD_ok, stD_exc, stD_bad, sqD_nx, sqD_brk, sqD_cnt, sqD_ret, sqD_exc, sqD_bad, runF, env0, slotsOf, evS_seqD, evS_ifsD, evS_skip, evS_setD, evS_subD, evS_retD, evS_dropD, evS_parD, evT_k, evT_v, evT_cmp, evT_call, evT_isi, evT_chain, evT_andD, evT_orD, evT_notD, bT_defD, evO_k, evO_v, evO_op, evO_neg, evO_no, bO_defD, evE_k, evE_v, evE_g, evE_opD, evE_negD, evE_cmpD, evE_chainD, evE_andD, evE_orD, evE_notD, evE_ifeD, evE_tupD, evE_lstD, evE_ixD, evE_slD, evE_biD, evE_meD, evE_callD, evE_callkD, evE_isiD, evE_mk, evA_consD, evA_nil, Env.at, Env.cur, Env.curs, Env.see, Env.store, Env.setS, Env.tak, Env.taks, Env.put, Env.hand, Env.back, Env.holds, Env.setWs, Env.setW, sameKey, Env.okey, Env.fz, fzb, oi_0, oi_1, oi_2, oi_3, oi_4, L2.ixN, truth, biOp, ob_add, ob_sub, ob_cat, oc_lt, oc_le, oc_gt, oc_ge, oc_eq, oc_ne, oc_in, oc_nin, oc_is, oc_isn, eq_int, eq_bl, eq_nil, isNonD, Env.bindT, bodyL, f17, St.hd, St.tl, eq])
  refine ⟨s5', ?_⟩
  show evS (callN T (n + 1)) (.fors (.one 5) (.tup (.cons (.call 5 (.cons (.v 4) .nil)) (.cons (.call 5 (.cons (.bi .tuple (.cons (.v 4) .nil)) .nil)) .nil))) _) _ = _
  rw [evS_fors, ei]
  exact h4
theorem t_body {n : Nat} {p : D} {s1 s2 s3 s5 s6 s7 s8 : Mi.Slot} {xs : List D} (h : ∀ x ∈ xs, Kd x) (hl : xs.length ≤ 1000) : ∃ s2' s5' s6' s7' s8', evS (callN T (n + 1)) bodyL (E17 p s1 s2 s3 (.val (.lst xs)) s5 s6 s7 s8) = .nx (E17 p s1 s2' s3 (.val (.lst xs)) s5' s6' s7' s8') := by
  have a1 : evS (callN T (n + 1)) bodyL.hd (E17 p s1 s2 s3 (.val (.lst xs)) s5 s6 s7 s8) = .nx (E17 p s1 s2 s3 (.val (.lst xs)) s5 (.val .non) (.own (.lst xs)) s8) := by
    simp [bndD_ok, bndD_exc, bndD_bad, stD_ok, stD_exc, stD_bad, sqD_nx, sqD_brk, sqD_cnt, sqD_ret, sqD_exc, sqD_bad, runF, env0, slotsOf, evS_seqD, evS_ifsD, evS_skip, evS_setD, evS_subD, evS_retD, evS_dropD, evS_parD, evT_k, evT_v, evT_cmp, evT_call, evT_isi, evT_chain, evT_andD, evT_orD, evT_notD, bT_defD, evO_k, evO_v, evO_op, evO_neg, evO_no, bO_defD, evE_k, evE_v, evE_g, evE_opD, evE_negD, evE_cmpD, evE_chainD, evE_andD, evE_orD, evE_notD, evE_ifeD, evE_tupD, evE_lstD, evE_ixD, evE_slD, evE_biD, evE_meD, evE_callD, evE_callkD, evE_isiD, evE_mk, evA_consD, evA_nil, Env.at, Env.cur, Env.curs, Env.see, Env.store, Env.setS, Env.tak, Env.taks, Env.put, Env.hand, Env.back, Env.holds, Env.setWs, Env.setW, sameKey, Env.okey, Env.fz, fzb, oi_0, oi_1, oi_2, oi_3, oi_4, L2.ixN, truth, biOp, ob_add, ob_sub, ob_cat, oc_lt, oc_le, oc_gt, oc_ge, oc_eq, oc_ne, oc_in, oc_nin, oc_is, oc_isn, eq_int, eq_bl, eq_nil, isNonD, bodyL, f17, St.hd, St.tl]
  obtain ⟨s2', s8', a2⟩ := due_loop (cal := callN T (n + 1)) (p0 := p) (s1 := s1) (s3 := s3) (s5 := s5) (s7 := .own (.lst xs)) (xs := xs) h (t := dueF [] xs) (r := xs) (p := []) (s2 := s2) (s8 := s8) (d := .non) rfl (.inl ⟨rfl, rfl⟩)
  have a2' : evS (callN T (n + 1)) bodyL.tl.hd (E17 p s1 s2 s3 (.val (.lst xs)) s5 (.val .non) (.own (.lst xs)) s8) = .nx (E17 p s1 s2' s3 (.val (.lst xs)) s5 (.val (dueF [] xs)) (.own (.lst xs)) s8') := by
    have ei : evI (callN T (n + 1)) (.en (.v 4)) (E17 p s1 s2 s3 (.val (.lst xs)) s5 (.val .non) (.own (.lst xs)) s8) = .ok (enD 0 xs) (E17 p s1 s2 s3 (.val (.lst xs)) s5 (.val .non) (.own (.lst xs)) s8) := rfl
    show evS (callN T (n + 1)) (.fors (.many [2, 8]) (.en (.v 4)) bodyD) _ = _
    rw [evS_fors, ei]
    exact a2
  obtain ⟨s5', a3⟩ := t_told (n := n) (p := p) (s1 := s1) (s2 := s2') (s3 := s3) (s7 := .own (.lst xs)) (s8 := s8') h hl (s5 := s5)
  have a4 : evS (callN T (n + 1)) bodyL.tl.tl.tl (E17 p s1 s2' s3 (.val (.lst xs)) s5' (.val (dueF [] xs)) (.own (.lst xs)) s8') = .nx (E17 p s1 s2' s3 (.val (.lst xs)) s5' (.val (dueF [] xs)) (.own (.lst xs)) s8') := by
    simp [bndD_ok, bndD_exc, bndD_bad, stD_ok, stD_exc, stD_bad, sqD_nx, sqD_brk, sqD_cnt, sqD_ret, sqD_exc, sqD_bad, runF, env0, slotsOf, evS_seqD, evS_ifsD, evS_skip, evS_setD, evS_subD, evS_retD, evS_dropD, evS_parD, evT_k, evT_v, evT_cmp, evT_call, evT_isi, evT_chain, evT_andD, evT_orD, evT_notD, bT_defD, evO_k, evO_v, evO_op, evO_neg, evO_no, bO_defD, evE_k, evE_v, evE_g, evE_opD, evE_negD, evE_cmpD, evE_chainD, evE_andD, evE_orD, evE_notD, evE_ifeD, evE_tupD, evE_lstD, evE_ixD, evE_slD, evE_biD, evE_meD, evE_callD, evE_callkD, evE_isiD, evE_mk, evA_consD, evA_nil, Env.at, Env.cur, Env.curs, Env.see, Env.store, Env.setS, Env.tak, Env.taks, Env.put, Env.hand, Env.back, Env.holds, Env.setWs, Env.setW, sameKey, Env.okey, Env.fz, fzb, oi_0, oi_1, oi_2, oi_3, oi_4, L2.ixN, truth, biOp, ob_add, ob_sub, ob_cat, oc_lt, oc_le, oc_gt, oc_ge, oc_eq, oc_ne, oc_in, oc_nin, oc_is, oc_isn, eq_int, eq_bl, eq_nil, isNonD, bodyL, f17, St.hd, St.tl, eq_self h]
  have step : ∀ e, evS (callN T (n + 1)) bodyL e = (evS (callN T (n + 1)) bodyL.hd e).sq fun e => (evS (callN T (n + 1)) bodyL.tl.hd e).sq fun e => (evS (callN T (n + 1)) bodyL.tl.tl.hd e).sq fun e => evS (callN T (n + 1)) bodyL.tl.tl.tl e := fun e => rfl
  refine ⟨s2', s5', .val (dueF [] xs), .own (.lst xs), s8', ?_⟩

  refine (step _).trans ?_
  simp only [SR.sq_nx, a1, a2', a3, a4]
/-! ### the lists -/
theorem nums {n : Nat} {b : Int} {p : D} (hp : PenOk b p) (hb : b < 700000) : ∃ xs p', evS (callN T (n + 2)) f17.body.hd (E17 p .no .no .no .no .no .no .no .no) = .nx (E17 p' (.own (.lst xs)) .no .no .no .no .no .no .no) ∧ PenOk (b + 18) p' ∧ xs.length ≤ 16 ∧ ∀ d ∈ xs, Kd d := by
  obtain ⟨v, p1, e, h1, h2, h3⟩ := draw (n := n + 1) (m := 17) hp (by omega) (by omega) (by decide)
  have ei : evI (callN T (n + 2)) (.rng1 (.call 7 (.cons (.v 0) (.cons (.k (.int 17)) .nil)))) (E17 p .no .no .no .no .no .no .no .no) = .ok (rngD 0 v) (E17 p1 .no .no .no .no .no .no .no .no) := evI_rng (by simp [bndD_ok, bndD_exc, bndD_bad, stD_ok, stD_exc, stD_bad, sqD_nx, sqD_brk, sqD_cnt, sqD_ret, sqD_exc, sqD_bad, runF, env0, slotsOf, evS_seqD, evS_ifsD, evS_skip, evS_setD, evS_subD, evS_retD, evS_dropD, evS_parD, evT_k, evT_v, evT_cmp, evT_call, evT_isi, evT_chain, evT_andD, evT_orD, evT_notD, bT_defD, evO_k, evO_v, evO_op, evO_neg, evO_no, bO_defD, evE_k, evE_v, evE_g, evE_opD, evE_negD, evE_cmpD, evE_chainD, evE_andD, evE_orD, evE_notD, evE_ifeD, evE_tupD, evE_lstD, evE_ixD, evE_slD, evE_biD, evE_meD, evE_callD, evE_callkD, evE_isiD, evE_mk, evA_consD, evA_nil, Env.at, Env.cur, Env.curs, Env.see, Env.store, Env.setS, Env.tak, Env.taks, Env.put, Env.hand, Env.back, Env.holds, Env.setWs, Env.setW, sameKey, Env.okey, Env.fz, fzb, oi_0, oi_1, oi_2, oi_3, oi_4, L2.ixN, truth, biOp, ob_add, ob_sub, ob_cat, oc_lt, oc_le, oc_gt, oc_ge, oc_eq, oc_ne, oc_in, oc_nin, oc_is, oc_isn, eq_int, eq_bl, eq_nil, isNonD, e]) (by omega)
  have hl := rng_len v
  obtain ⟨ys, e', h4, h5, h6, h7⟩ := lcL_inv (P := fun j e => ∃ q s, e = E17 q .no s .no .no .no .no .no .no ∧ PenOk (b + 1 + (j : Int)) q) (Q := Kd) (c := fun d e => match e.bindT (.one 2) d with
        | some e' => evT (callN T (n + 2)) (.k (.bl true)) e'
        | none => .bad) (f := fun e => evE (callN T (n + 2)) (.op .Sub (.call 7 (.cons (.v 0) (.cons (.k (.int 20)) .nil))) (.k (.int 6))) e) (xs := rngD 0 v) (acc := []) (k := 0) (e := E17 p1 .no .no .no .no .no .no .no .no) ⟨p1, .no, rfl, by simpa using h1⟩ (by simp [lim]; omega) (by simp) (fun d _ j e hj hP => by
      obtain ⟨q, s, rfl, g1⟩ := hP
      obtain ⟨i, q', g2, g3, _, _⟩ := draw (n := n + 1) (m := 20) g1 (by omega) (by omega) (by decide)
      refine ⟨.int (i - 6), E17 q' .no (.val d) .no .no .no .no .no .no, ?_, .inl ⟨_, rfl⟩, q', _, rfl, g3.mono (by omega)⟩
      simp [bndD_ok, bndD_exc, bndD_bad, stD_ok, stD_exc, stD_bad, sqD_nx, sqD_brk, sqD_cnt, sqD_ret, sqD_exc, sqD_bad, runF, env0, slotsOf, evS_seqD, evS_ifsD, evS_skip, evS_setD, evS_subD, evS_retD, evS_dropD, evS_parD, evT_k, evT_v, evT_cmp, evT_call, evT_isi, evT_chain, evT_andD, evT_orD, evT_notD, bT_defD, evO_k, evO_v, evO_op, evO_neg, evO_no, bO_defD, evE_k, evE_v, evE_g, evE_opD, evE_negD, evE_cmpD, evE_chainD, evE_andD, evE_orD, evE_notD, evE_ifeD, evE_tupD, evE_lstD, evE_ixD, evE_slD, evE_biD, evE_meD, evE_callD, evE_callkD, evE_isiD, evE_mk, evA_consD, evA_nil, Env.at, Env.cur, Env.curs, Env.see, Env.store, Env.setS, Env.tak, Env.taks, Env.put, Env.hand, Env.back, Env.holds, Env.setWs, Env.setW, sameKey, Env.okey, Env.fz, fzb, oi_0, oi_1, oi_2, oi_3, oi_4, L2.ixN, truth, biOp, ob_add, ob_sub, ob_cat, oc_lt, oc_le, oc_gt, oc_ge, oc_eq, oc_ne, oc_in, oc_nin, oc_is, oc_isn, eq_int, eq_bl, eq_nil, isNonD, Env.bindT, g2])
  obtain ⟨q, s, rfl, g1⟩ := h7
  have el := lc_run (cal := callN T (n + 2)) (tg := .one 2) (el := .op .Sub (.call 7 (.cons (.v 0) (.cons (.k (.int 20)) .nil))) (.k (.int 6))) (c := .k (.bl true)) (ss := [.no]) ei rfl h4
  refine ⟨ys, q, ?_, g1.mono (by omega), by simp at h6; omega, h5⟩
  show evS (callN T (n + 2)) (.set 1 (.lc (.one 2) _ _ _)) _ = _
  rw [evS_set, el]
  rfl
theorem words {n : Nat} {b : Int} {p : D} {s1 : Mi.Slot} (hp : PenOk b p) (hb : b < 600000) : ∃ xs p', evS (callN T (n + 3)) f17.body.tl.hd (E17 p s1 .no .no .no .no .no .no .no) = .nx (E17 p' s1 .no (.own (.lst xs)) .no .no .no .no .no) ∧ PenOk (b + 160) p' ∧ xs.length ≤ 6 ∧ ∀ d ∈ xs, Kd d := by
  obtain ⟨v, p1, e, h1, h2, h3⟩ := draw (n := n + 2) (m := 7) hp (by omega) (by omega) (by decide)
  have ei : evI (callN T (n + 3)) (.rng1 (.call 7 (.cons (.v 0) (.cons (.k (.int 7)) .nil)))) (E17 p s1 .no .no .no .no .no .no .no) = .ok (rngD 0 v) (E17 p1 s1 .no .no .no .no .no .no .no) := evI_rng (by simp [bndD_ok, bndD_exc, bndD_bad, stD_ok, stD_exc, stD_bad, sqD_nx, sqD_brk, sqD_cnt, sqD_ret, sqD_exc, sqD_bad, runF, env0, slotsOf, evS_seqD, evS_ifsD, evS_skip, evS_setD, evS_subD, evS_retD, evS_dropD, evS_parD, evT_k, evT_v, evT_cmp, evT_call, evT_isi, evT_chain, evT_andD, evT_orD, evT_notD, bT_defD, evO_k, evO_v, evO_op, evO_neg, evO_no, bO_defD, evE_k, evE_v, evE_g, evE_opD, evE_negD, evE_cmpD, evE_chainD, evE_andD, evE_orD, evE_notD, evE_ifeD, evE_tupD, evE_lstD, evE_ixD, evE_slD, evE_biD, evE_meD, evE_callD, evE_callkD, evE_isiD, evE_mk, evA_consD, evA_nil, Env.at, Env.cur, Env.curs, Env.see, Env.store, Env.setS, Env.tak, Env.taks, Env.put, Env.hand, Env.back, Env.holds, Env.setWs, Env.setW, sameKey, Env.okey, Env.fz, fzb, oi_0, oi_1, oi_2, oi_3, oi_4, L2.ixN, truth, biOp, ob_add, ob_sub, ob_cat, oc_lt, oc_le, oc_gt, oc_ge, oc_eq, oc_ne, oc_in, oc_nin, oc_is, oc_isn, eq_int, eq_bl, eq_nil, isNonD, e]) (by omega)
  have hl := rng_len v
  obtain ⟨ys, e', h4, h5, h6, h7⟩ := lcL_inv (P := fun j e => ∃ q s, e = E17 q s1 s .no .no .no .no .no .no ∧ PenOk (b + 1 + 22 * (j : Int)) q) (Q := Kd) (c := fun d e => match e.bindT (.one 2) d with
        | some e' => evT (callN T (n + 3)) (.k (.bl true)) e'
        | none => .bad) (f := fun e => evE (callN T (n + 3)) (.call 9 (.cons (.v 0) .nil)) e) (xs := rngD 0 v) (acc := []) (k := 0) (e := E17 p1 s1 .no .no .no .no .no .no .no) ⟨p1, .no, rfl, by simpa using h1⟩ (by simp [lim]; omega) (by simp) (fun d _ j e hj hP => by
      obtain ⟨q, s, rfl, g1⟩ := hP
      obtain ⟨i, q', g2, g3, g4, g5⟩ := text (n := n + 1) g1 (by omega)
      refine ⟨.str i, E17 q' s1 (.val d) .no .no .no .no .no .no, ?_, .inr ⟨_, rfl, g4, g5⟩, q', _, rfl, g3.mono (by omega)⟩
      simp [bndD_ok, bndD_exc, bndD_bad, stD_ok, stD_exc, stD_bad, sqD_nx, sqD_brk, sqD_cnt, sqD_ret, sqD_exc, sqD_bad, runF, env0, slotsOf, evS_seqD, evS_ifsD, evS_skip, evS_setD, evS_subD, evS_retD, evS_dropD, evS_parD, evT_k, evT_v, evT_cmp, evT_call, evT_isi, evT_chain, evT_andD, evT_orD, evT_notD, bT_defD, evO_k, evO_v, evO_op, evO_neg, evO_no, bO_defD, evE_k, evE_v, evE_g, evE_opD, evE_negD, evE_cmpD, evE_chainD, evE_andD, evE_orD, evE_notD, evE_ifeD, evE_tupD, evE_lstD, evE_ixD, evE_slD, evE_biD, evE_meD, evE_callD, evE_callkD, evE_isiD, evE_mk, evA_consD, evA_nil, Env.at, Env.cur, Env.curs, Env.see, Env.store, Env.setS, Env.tak, Env.taks, Env.put, Env.hand, Env.back, Env.holds, Env.setWs, Env.setW, sameKey, Env.okey, Env.fz, fzb, oi_0, oi_1, oi_2, oi_3, oi_4, L2.ixN, truth, biOp, ob_add, ob_sub, ob_cat, oc_lt, oc_le, oc_gt, oc_ge, oc_eq, oc_ne, oc_in, oc_nin, oc_is, oc_isn, eq_int, eq_bl, eq_nil, isNonD, Env.bindT, g2])
  obtain ⟨q, s, rfl, g1⟩ := h7
  have el := lc_run (cal := callN T (n + 3)) (tg := .one 2) (el := .call 9 (.cons (.v 0) .nil)) (c := .k (.bl true)) (ss := [.no]) ei rfl h4
  refine ⟨ys, q, ?_, g1.mono (by omega), by simp at h6; omega, h5⟩
  show evS (callN T (n + 3)) (.set 3 (.lc (.one 2) _ _ _)) _ = _
  rw [evS_set, el]
  rfl
theorem words2 {n : Nat} {b : Int} {p : D} {s1 : Mi.Slot} {xs : List D} (hp : PenOk b p) (hb : b < 600000) (hx : xs.length ≤ 6) (h : ∀ d ∈ xs, Kd d) : ∃ ys p', evS (callN T (n + 3)) f17.body.tl.tl.hd (E17 p s1 .no (.own (.lst xs)) .no .no .no .no .no) = .nx (E17 p' s1 .no (.own (.lst ys)) .no .no .no .no .no) ∧ PenOk (b + 1) p' ∧ ys.length ≤ 7 ∧ ∀ d ∈ ys, Kd d := by
  by_cases he : xs.isEmpty = true
  · exact ⟨xs, p, by simp [bndD_ok, bndD_exc, bndD_bad, stD_ok, stD_exc, stD_bad, sqD_nx, sqD_brk, sqD_cnt, sqD_ret, sqD_exc, sqD_bad, runF, env0, slotsOf, evS_seqD, evS_ifsD, evS_skip, evS_setD, evS_subD, evS_retD, evS_dropD, evS_parD, evT_k, evT_v, evT_cmp, evT_call, evT_isi, evT_chain, evT_andD, evT_orD, evT_notD, bT_defD, evO_k, evO_v, evO_op, evO_neg, evO_no, bO_defD, evE_k, evE_v, evE_g, evE_opD, evE_negD, evE_cmpD, evE_chainD, evE_andD, evE_orD, evE_notD, evE_ifeD, evE_tupD, evE_lstD, evE_ixD, evE_slD, evE_biD, evE_meD, evE_callD, evE_callkD, evE_isiD, evE_mk, evA_consD, evA_nil, Env.at, Env.cur, Env.curs, Env.see, Env.store, Env.setS, Env.tak, Env.taks, Env.put, Env.hand, Env.back, Env.holds, Env.setWs, Env.setW, sameKey, Env.okey, Env.fz, fzb, oi_0, oi_1, oi_2, oi_3, oi_4, L2.ixN, truth, biOp, ob_add, ob_sub, ob_cat, oc_lt, oc_le, oc_gt, oc_ge, oc_eq, oc_ne, oc_in, oc_nin, oc_is, oc_isn, eq_int, eq_bl, eq_nil, isNonD, f17, St.hd, St.tl, he, lim], hp.mono (by omega), by omega, h⟩
  · have hl : 0 < xs.length := by
      cases xs with
      | nil => exact absurd rfl he
      | cons => simp
    obtain ⟨v, p1, e, h1, h2, h3⟩ := draw (n := n + 2) (m := (xs.length : Int)) hp (by omega) (by omega) (log_small (by omega) (by omega))
    obtain ⟨d, hd, kd⟩ := ix_all h h2 h3
    have em : meOp .append (.lst xs) [d] = some (.lst (xs ++ [d]), .non) := by
      show (if xs.length < lim then some ((D.lst (xs ++ [d]), D.non) : D × D) else none) = _
      rw [if_pos (by simp [lim]; omega)]
    refine ⟨xs ++ [d], p1, by simp [bndD_ok, bndD_exc, bndD_bad, stD_ok, stD_exc, stD_bad, sqD_nx, sqD_brk, sqD_cnt, sqD_ret, sqD_exc, sqD_bad, runF, env0, slotsOf, evS_seqD, evS_ifsD, evS_skip, evS_setD, evS_subD, evS_retD, evS_dropD, evS_parD, evT_k, evT_v, evT_cmp, evT_call, evT_isi, evT_chain, evT_andD, evT_orD, evT_notD, bT_defD, evO_k, evO_v, evO_op, evO_neg, evO_no, bO_defD, evE_k, evE_v, evE_g, evE_opD, evE_negD, evE_cmpD, evE_chainD, evE_andD, evE_orD, evE_notD, evE_ifeD, evE_tupD, evE_lstD, evE_ixD, evE_slD, evE_biD, evE_meD, evE_callD, evE_callkD, evE_isiD, evE_mk, evA_consD, evA_nil, Env.at, Env.cur, Env.curs, Env.see, Env.store, Env.setS, Env.tak, Env.taks, Env.put, Env.hand, Env.back, Env.holds, Env.setWs, Env.setW, sameKey, Env.okey, Env.fz, fzb, oi_0, oi_1, oi_2, oi_3, oi_4, L2.ixN, truth, biOp, ob_add, ob_sub, ob_cat, oc_lt, oc_le, oc_gt, oc_ge, oc_eq, oc_ne, oc_in, oc_nin, oc_is, oc_isn, eq_int, eq_bl, eq_nil, isNonD, f17, St.hd, St.tl, he, lim, e, hd, em, meTyp], h1, by simp; omega, fun y hy => ?_⟩
    rcases List.mem_append.mp hy with hy | hy
    · exact h y hy
    · rw [List.mem_singleton.mp hy]; exact kd
end K01

set_option Elab.async false
set_option linter.all false
set_option maxRecDepth 100000
set_option maxHeartbeats 0
namespace K01
open PySem L2 Mi
theorem cut_sub {xs : List D} {lo hi : Option Int} : (cutD xs lo hi).length ≤ xs.length ∧ ∀ d ∈ cutD xs lo hi, d ∈ xs := by
  unfold cutD
  constructor
  · rw [List.length_take, List.length_drop]; omega
  · intro d hd
    exact List.mem_of_mem_drop (List.mem_of_mem_take hd)
theorem em_kd : Kd (.str "") := .inr ⟨_, rfl, by decide, em_ok⟩
theorem twice_right {n : Nat} {b : Int} {p : D} (hp : PenOk b p) (hb : b < 500000) : ∃ p', callN T (n + 4) 17 [(p, true)] = .ok (.bl true) false [(p', true)] ∧ PenOk (b + 200) p' := by
  obtain ⟨xs, p1, a1, h1, l1, k1⟩ := nums (n := n + 1) hp (by omega)
  obtain ⟨ws, p2, a2, h2, l2, k2⟩ := words (n := n) (s1 := .own (.lst xs)) h1 (by omega)
  obtain ⟨vs, p3, a3, h3, l3, k3⟩ := words2 (n := n) (s1 := .own (.lst xs)) h2 (by omega) l2 k2
  have ei : evI (callN T (n + 3)) (.tup (.cons (.v 1) (.cons (.v 3) (.cons (.sl (.v 3) .no (.neg (.k (.int 1)))) (.cons (.lst .nil) (.cons (.lst (.cons (.k (.str "")) (.cons (.k (.str "")) .nil))) (.cons (.lst (.cons (.k (.str "1")) (.cons (.k (.str "2")) .nil))) (.cons (.lst (.cons (.k (.int 0)) (.cons (.neg (.k (.int 1))) (.cons (.k (.int 0)) (.cons (.neg (.k (.int 1))) .nil))))) .nil))))))))
      (E17 p3 (.own (.lst xs)) .no (.own (.lst vs)) .no .no .no .no .no) = .ok [.lst xs, .lst vs, .lst (cutD vs none (some (-1))), .lst [], .lst [.str "", .str ""], .lst [.str "1", .str "2"], .lst [.int 0, .int (-1), .int 0, .int (-1)]] (E17 p3 (.val (.lst xs)) .no (.val (.lst vs)) .no .no .no .no .no) := by
    rw [evI_tup]
    simp [bndD_ok, bndD_exc, bndD_bad, stD_ok, stD_exc, stD_bad, sqD_nx, sqD_brk, sqD_cnt, sqD_ret, sqD_exc, sqD_bad, runF, env0, slotsOf, evS_seqD, evS_ifsD, evS_skip, evS_setD, evS_subD, evS_retD, evS_dropD, evS_parD, evT_k, evT_v, evT_cmp, evT_call, evT_isi, evT_chain, evT_andD, evT_orD, evT_notD, bT_defD, evO_k, evO_v, evO_op, evO_neg, evO_no, bO_defD, evE_k, evE_v, evE_g, evE_opD, evE_negD, evE_cmpD, evE_chainD, evE_andD, evE_orD, evE_notD, evE_ifeD, evE_tupD, evE_lstD, evE_ixD, evE_slD, evE_biD, evE_meD, evE_callD, evE_callkD, evE_isiD, evE_mk, evA_consD, evA_nil, Env.at, Env.cur, Env.curs, Env.see, Env.store, Env.setS, Env.tak, Env.taks, Env.put, Env.hand, Env.back, Env.holds, Env.setWs, Env.setW, sameKey, Env.okey, Env.fz, fzb, oi_0, oi_1, oi_2, oi_3, oi_4, L2.ixN, truth, biOp, ob_add, ob_sub, ob_cat, oc_lt, oc_le, oc_gt, oc_ge, oc_eq, oc_ne, oc_in, oc_nin, oc_is, oc_isn, eq_int, eq_bl, eq_nil, isNonD, bI_def, opSl, lim]
  have ks : ∀ d ∈ [D.lst xs, .lst vs, .lst (cutD vs none (some (-1))), .lst [], .lst [.str "", .str ""], .lst [.str "1", .str "2"], .lst [.int 0, .int (-1), .int 0, .int (-1)]], ∃ ys, d = .lst ys ∧ ys.length ≤ 1000 ∧ ∀ y ∈ ys, Kd y := by
    intro d hd
    simp only [List.mem_cons, List.not_mem_nil, or_false] at hd
    rcases hd with rfl | rfl | rfl | rfl | rfl | rfl | rfl
    · exact ⟨_, rfl, by omega, k1⟩
    · exact ⟨_, rfl, by omega, k3⟩
    · obtain ⟨c1, c2⟩ := cut_sub (xs := vs) (lo := none) (hi := some (-1))
      exact ⟨_, rfl, by omega, fun y hy => k3 y (c2 y hy)⟩
    · exact ⟨_, rfl, by simp, by simp⟩
    · refine ⟨_, rfl, by simp, fun y hy => ?_⟩
      simp only [List.mem_cons, List.not_mem_nil, or_false, or_self] at hy
      rw [hy]
      exact em_kd
    · refine ⟨_, rfl, by simp, fun y hy => ?_⟩
      simp only [List.mem_cons, List.not_mem_nil, or_false] at hy
      rcases hy with rfl | rfl
      · exact .inr ⟨_, rfl, by decide, by decide +kernel⟩
      · exact .inr ⟨_, rfl, by decide, by decide +kernel⟩
    · refine ⟨_, rfl, by simp, fun y hy => ?_⟩
      simp only [List.mem_cons, List.not_mem_nil, or_false] at hy
      rcases hy with rfl | rfl | rfl | rfl <;> exact .inl ⟨_, rfl⟩
  obtain ⟨e', a4, s2, s4, s5, s6, s7, s8, rfl⟩ := forL_inv (P := fun _ e => ∃ s2 s4 s5 s6 s7 s8, e = E17 p3 (.val (.lst xs)) s2 (.val (.lst vs)) s4 s5 s6 s7 s8) (k := 0) (f := fun d e => match e.bindT (.one 4) d with
    | some e' => evS (callN T (n + 3)) bodyL e'
    | none => .bad) (xs := [D.lst xs, .lst vs, .lst (cutD vs none (some (-1))), .lst [], .lst [.str "", .str ""], .lst [.str "1", .str "2"], .lst [.int 0, .int (-1), .int 0, .int (-1)]]) (e := E17 p3 (.val (.lst xs)) .no (.val (.lst vs)) .no .no .no .no .no) ⟨_, _, _, _, _, _, rfl⟩ (fun x hx j e _ hP => by
      obtain ⟨s2, s4, s5, s6, s7, s8, rfl⟩ := hP
      obtain ⟨ys, rfl, hl, hk⟩ := ks x hx
      obtain ⟨s2', s5', s6', s7', s8', hb⟩ := t_body (n := n + 2) (p := p3) (s1 := .val (.lst xs)) (s2 := s2) (s3 := .val (.lst vs)) (s5 := s5) (s6 := s6) (s7 := s7) (s8 := s8) hk hl
      exact ⟨_, hb, _, _, _, _, _, _, rfl⟩)
  have a4' : evS (callN T (n + 3)) f17.body.tl.tl.tl.hd (E17 p3 (.own (.lst xs)) .no (.own (.lst vs)) .no .no .no .no .no) = .nx (E17 p3 (.val (.lst xs)) s2 (.val (.lst vs)) s4 s5 s6 s7 s8) := by
    show evS (callN T (n + 3)) (.fors (.one 4) (.tup _) _) _ = _
    rw [evS_fors, ei]
    exact a4
  have start : callN T (n + 4) 17 [(p, true)] = (match (evS (callN T (n + 3)) f17.body.hd (E17 p .no .no .no .no .no .no .no .no)).sq (fun e => (evS (callN T (n + 3)) f17.body.tl.hd e).sq fun e => (evS (callN T (n + 3)) f17.body.tl.tl.hd e).sq fun e => (evS (callN T (n + 3)) f17.body.tl.tl.tl.hd e).sq (evS (callN T (n + 3)) f17.body.tl.tl.tl.tl)) with
    | .nx e => CR.ok .non false e.le
    | .ret d o e => .ok d o e.le
    | .exc x e => .exc x e.le
    | _ => .bad) := rfl
  refine ⟨p3, ?_, h3.mono (by omega)⟩
  rw [start, a1]
  simp only [SR.sq_nx, a2, a3, a4']
  simp [bndD_ok, bndD_exc, bndD_bad, stD_ok, stD_exc, stD_bad, sqD_nx, sqD_brk, sqD_cnt, sqD_ret, sqD_exc, sqD_bad, runF, env0, slotsOf, evS_seqD, evS_ifsD, evS_skip, evS_setD, evS_subD, evS_retD, evS_dropD, evS_parD, evT_k, evT_v, evT_cmp, evT_call, evT_isi, evT_chain, evT_andD, evT_orD, evT_notD, bT_defD, evO_k, evO_v, evO_op, evO_neg, evO_no, bO_defD, evE_k, evE_v, evE_g, evE_opD, evE_negD, evE_cmpD, evE_chainD, evE_andD, evE_orD, evE_notD, evE_ifeD, evE_tupD, evE_lstD, evE_ixD, evE_slD, evE_biD, evE_meD, evE_callD, evE_callkD, evE_isiD, evE_mk, evA_consD, evA_nil, Env.at, Env.cur, Env.curs, Env.see, Env.store, Env.setS, Env.tak, Env.taks, Env.put, Env.hand, Env.back, Env.holds, Env.setWs, Env.setW, sameKey, Env.okey, Env.fz, fzb, oi_0, oi_1, oi_2, oi_3, oi_4, L2.ixN, truth, biOp, ob_add, ob_sub, ob_cat, oc_lt, oc_le, oc_gt, oc_ge, oc_eq, oc_ne, oc_in, oc_nin, oc_is, oc_isn, eq_int, eq_bl, eq_nil, isNonD, f17, St.tl]
theorem pen_new {n : Nat} {ns : List Int} (hl : ns.length ≤ 63) : ∃ p, callN T (n + 1) 6 [(.lst (ns.map D.int), false)] = .ok p true [(.lst (ns.map D.int), false)] ∧ PenOk 0 p := by
  obtain ⟨c1, c2⟩ := cut_sub (xs := ns.map D.int) (lo := none) (hi := some 60)
  have ei : evI (callN T n) (.sl (.v 0) .no (.k (.int 60))) ⟨[.val (.lst (ns.map D.int)), .no], [(.lst (ns.map D.int), false)]⟩ = .ok (cutD (ns.map D.int) none (some 60)) ⟨[.val (.lst (ns.map D.int)), .no], [(.lst (ns.map D.int), false)]⟩ := by
    rw [evI_sl]
    simp [bndD_ok, bndD_exc, bndD_bad, stD_ok, stD_exc, stD_bad, sqD_nx, sqD_brk, sqD_cnt, sqD_ret, sqD_exc, sqD_bad, runF, env0, slotsOf, evS_seqD, evS_ifsD, evS_skip, evS_setD, evS_subD, evS_retD, evS_dropD, evS_parD, evT_k, evT_v, evT_cmp, evT_call, evT_isi, evT_chain, evT_andD, evT_orD, evT_notD, bT_defD, evO_k, evO_v, evO_op, evO_neg, evO_no, bO_defD, evE_k, evE_v, evE_g, evE_opD, evE_negD, evE_cmpD, evE_chainD, evE_andD, evE_orD, evE_notD, evE_ifeD, evE_tupD, evE_lstD, evE_ixD, evE_slD, evE_biD, evE_meD, evE_callD, evE_callkD, evE_isiD, evE_mk, evA_consD, evA_nil, Env.at, Env.cur, Env.curs, Env.see, Env.store, Env.setS, Env.tak, Env.taks, Env.put, Env.hand, Env.back, Env.holds, Env.setWs, Env.setW, sameKey, Env.okey, Env.fz, fzb, oi_0, oi_1, oi_2, oi_3, oi_4, L2.ixN, truth, biOp, ob_add, ob_sub, ob_cat, oc_lt, oc_le, oc_gt, oc_ge, oc_eq, oc_ne, oc_in, oc_nin, oc_is, oc_isn, eq_int, eq_bl, eq_nil, isNonD, bI_def, opSl]
  obtain ⟨ys, e', h4, h5, h6, s, rfl⟩ := lcL_inv (P := fun j e => ∃ s, e = (⟨[.val (.lst (ns.map D.int)), s], [(.lst (ns.map D.int), false)]⟩ : Mi.Env)) (Q := fun d => ∃ i, d = .int i) (c := fun d e => match e.bindT (.one 1) d with
        | some e' => evT (callN T n) (.k (.bl true)) e'
        | none => .bad) (f := fun e => evE (callN T n) (.bi .int (.cons (.v 1) .nil)) e) (xs := cutD (ns.map D.int) none (some 60)) (acc := []) (k := 0) (e := ⟨[.val (.lst (ns.map D.int)), .no], [(.lst (ns.map D.int), false)]⟩) ⟨_, rfl⟩ (by simp at c1; simp [lim]; omega) (by simp) (fun d hd j e hj hP => by
      obtain ⟨s, rfl⟩ := hP
      obtain ⟨i, _, rfl⟩ := List.mem_map.mp (c2 d hd)
      exact ⟨.int i, ⟨[.val (.lst (ns.map D.int)), .val (.int i)], _⟩, by simp [bndD_ok, bndD_exc, bndD_bad, stD_ok, stD_exc, stD_bad, sqD_nx, sqD_brk, sqD_cnt, sqD_ret, sqD_exc, sqD_bad, runF, env0, slotsOf, evS_seqD, evS_ifsD, evS_skip, evS_setD, evS_subD, evS_retD, evS_dropD, evS_parD, evT_k, evT_v, evT_cmp, evT_call, evT_isi, evT_chain, evT_andD, evT_orD, evT_notD, bT_defD, evO_k, evO_v, evO_op, evO_neg, evO_no, bO_defD, evE_k, evE_v, evE_g, evE_opD, evE_negD, evE_cmpD, evE_chainD, evE_andD, evE_orD, evE_notD, evE_ifeD, evE_tupD, evE_lstD, evE_ixD, evE_slD, evE_biD, evE_meD, evE_callD, evE_callkD, evE_isiD, evE_mk, evA_consD, evA_nil, Env.at, Env.cur, Env.curs, Env.see, Env.store, Env.setS, Env.tak, Env.taks, Env.put, Env.hand, Env.back, Env.holds, Env.setWs, Env.setW, sameKey, Env.okey, Env.fz, fzb, oi_0, oi_1, oi_2, oi_3, oi_4, L2.ixN, truth, biOp, ob_add, ob_sub, ob_cat, oc_lt, oc_le, oc_gt, oc_ge, oc_eq, oc_ne, oc_in, oc_nin, oc_is, oc_isn, eq_int, eq_bl, eq_nil, isNonD, Env.bindT], ⟨_, rfl⟩, _, rfl⟩)
  have el := lc_run (cal := callN T n) (tg := .one 1) (el := .bi .int (.cons (.v 1) .nil)) (c := .k (.bl true)) (ss := [.no]) ei rfl h4
  have hy : ∀ (zs : List D), (∀ d ∈ zs, ∃ i, d = .int i) → ∃ cs : List Int, zs = cs.map D.int := by
    intro zs
    induction zs with
    | nil => exact fun _ => ⟨[], rfl⟩
    | cons z zs ih =>
      intro h
      obtain ⟨i, rfl⟩ := h z List.mem_cons_self
      obtain ⟨cs, rfl⟩ := ih fun d hd => h d (List.mem_cons_of_mem _ hd)
      exact ⟨i :: cs, rfl⟩
  obtain ⟨cs, rfl⟩ := hy ys h5
  refine ⟨pen cs 0 0, ?_, cs, 0, 0, rfl, by omega, by omega, by omega⟩
  show runF (callN T n) f6 [(.lst (ns.map D.int), false)] = _
  simp [bndD_ok, bndD_exc, bndD_bad, stD_ok, stD_exc, stD_bad, sqD_nx, sqD_brk, sqD_cnt, sqD_ret, sqD_exc, sqD_bad, runF, env0, slotsOf, evS_seqD, evS_ifsD, evS_skip, evS_setD, evS_subD, evS_retD, evS_dropD, evS_parD, evT_k, evT_v, evT_cmp, evT_call, evT_isi, evT_chain, evT_andD, evT_orD, evT_notD, bT_defD, evO_k, evO_v, evO_op, evO_neg, evO_no, bO_defD, evE_k, evE_v, evE_g, evE_opD, evE_negD, evE_cmpD, evE_chainD, evE_andD, evE_orD, evE_notD, evE_ifeD, evE_tupD, evE_lstD, evE_ixD, evE_slD, evE_biD, evE_meD, evE_callD, evE_callkD, evE_isiD, evE_mk, evA_consD, evA_nil, Env.at, Env.cur, Env.curs, Env.see, Env.store, Env.setS, Env.tak, Env.taks, Env.put, Env.hand, Env.back, Env.holds, Env.setWs, Env.setW, sameKey, Env.okey, Env.fz, fzb, oi_0, oi_1, oi_2, oi_3, oi_4, L2.ixN, truth, biOp, ob_add, ob_sub, ob_cat, oc_lt, oc_le, oc_gt, oc_ge, oc_eq, oc_ne, oc_in, oc_nin, oc_is, oc_isn, eq_int, eq_bl, eq_nil, isNonD, f6, el, lim, pen, Env.backS, fzb, Tg.ids]

/-! ### the law -/
def knB : D → Bool
  | .exn _ _ _ => true
  | d => (tyName d).isSome
theorem knB_ok {d : D} (h : knB d = true) : Kn d := by
  cases d <;> first | exact .inl rfl | exact .inr ⟨_, _, _, rfl⟩ | cases h
def akB (d : D) : Bool := knB d && (match d with
  | .lst xs => decide (xs.length ≤ 100) && xs.all knB
  | .tup xs => decide (xs.length ≤ 100) && xs.all knB
  | .str s => decide (s.length ≤ 1000)
  | _ => true)
theorem akB_ok {d : D} (h : akB d = true) : Ak d := by
  obtain ⟨h1, h2⟩ := Bool.and_eq_true_iff.mp h
  refine ⟨knB_ok h1, fun xs hx => ?_, fun s hs => ?_⟩
  · have h3 : (decide (xs.length ≤ 100) && xs.all knB) = true := by rcases hx with rfl | rfl <;> exact h2
    obtain ⟨h4, h5⟩ := Bool.and_eq_true_iff.mp h3
    exact ⟨of_decide_eq_true h4, fun x hx => knB_ok (List.all_eq_true.mp h5 x hx)⟩
  · subst hs
    exact of_decide_eq_true h2
theorem Sim.knB {d : D} (h : Sim d) : knB d = true := by cases h <;> rfl
theorem Sim.akB {d : D} (h : Sim d) : akB d = true := by
  cases h <;> first | rfl | skip
  rename_i s h1 h2
  show (true && decide (s.length ≤ 1000)) = true
  rw [decide_eq_true (show s.length ≤ 1000 by omega)] <;> rfl
abbrev mA (s : Str) (k : Int) : Str := strMul s k
theorem mul_a12 : opBin .Mult (.str "a") (.int 12) = some (.d (.str (mA "a" 12))) := by
  show (if decide ((12 : Int).natAbs < 2 ^ 31) && (decide (Str.length "a" ≤ lim) && decide (Str.length "a" * (12 : Int).toNat ≤ lim)) then some (W.d (.str (strMul "a" 12))) else none) = _
  rw [if_pos (by decide +kernel)]
theorem mul_a13 : opBin .Mult (.str "a") (.int 13) = some (.d (.str (mA "a" 13))) := by
  show (if decide ((13 : Int).natAbs < 2 ^ 31) && (decide (Str.length "a" ≤ lim) && decide (Str.length "a" * (13 : Int).toNat ≤ lim)) then some (W.d (.str (strMul "a" 13))) else none) = _
  rw [if_pos (by decide +kernel)]
theorem mul_z11 : opBin .Mult (.str "z") (.int 11) = some (.d (.str (mA "z" 11))) := by
  show (if decide ((11 : Int).natAbs < 2 ^ 31) && (decide (Str.length "z" ≤ lim) && decide (Str.length "z" * (11 : Int).toNat ≤ lim)) then some (W.d (.str (strMul "z" 11))) else none) = _
  rw [if_pos (by decide +kernel)]
theorem cat_a : opBin .Add (.str (mA "a" 12)) (.str "\n") = some (.d (.str (mA "a" 12 ++ "\n"))) := ob_cat (by decide +kernel)
theorem cat_z : opBin .Add (.str (mA "z" 11)) (.str "\n") = some (.d (.str (mA "z" 11 ++ "\n"))) := ob_cat (by decide +kernel)
abbrev fix1 : List D := [.lst [], .tup [], .str "", .str "a", .str "z9", .str "9z", .str (mA "a" 12), .str (mA "a" 13), .bl true, .bl false, .int 0, .int (-1), .non, .lst [.bl true], .tup [.int 0], .str "squaretriangle"]
abbrev fix2 : List D := [.str "a\n", .str "\na", .str "a\tb", .str "square\n", .str "triangle ", .str " square", .str "\n", .str (mA "a" 12 ++ "\n"), .str (mA "z" 11 ++ "\n")]
theorem fix_ok : (fix1 ++ fix2).all akB = true := by decide +kernel
abbrev E18 (ns : List Int) (p : D) (s2 s3 s4 : Mi.Slot) : Mi.Env := ⟨[.val (.lst (ns.map D.int)), .own p, s2, s3, s4], [(.lst (ns.map D.int), false)]⟩
theorem law_vals {n : Nat} {ns : List Int} {b : Int} {p : D} {row : List D} (hp : PenOk b p) (hb : b < 300000) (hr : row.length ≤ 9) (hs : ∀ d ∈ row, Sim d) : ∃ d1 s d2 p', evS (callN T (n + 4)) f18.body.tl.tl.hd (E18 ns p (.own (.lst row)) .no .no) = .nx (E18 ns p' (.val (.lst row)) (.own (.lst [d1, .str s, .lst row, .tup row, d2, .lst [.lst row], .lst [.tup row, .int 1]])) .no) ∧ PenOk (b + 100) p' ∧ Sim d1 ∧ Sim d2 ∧ Sim (.str s) := by
  obtain ⟨d1, p1, e1, h1, k1⟩ := simple (n := n + 1) hp (by omega)
  obtain ⟨s, p2, e2, h2, k2, k3⟩ := text (n := n + 2) h1 (by omega)
  obtain ⟨d2, p3, e3, h3, k4⟩ := simple (n := n + 1) h2 (by omega)
  refine ⟨d1, s, d2, p3, ?_, h3.mono (by omega), k1, k4, .str s k2 k3⟩
  simp [bndD_ok, bndD_exc, bndD_bad, stD_ok, stD_exc, stD_bad, sqD_nx, sqD_brk, sqD_cnt, sqD_ret, sqD_exc, sqD_bad, runF, env0, slotsOf, evS_seqD, evS_ifsD, evS_skip, evS_setD, evS_subD, evS_retD, evS_dropD, evS_parD, evT_k, evT_v, evT_cmp, evT_call, evT_isi, evT_chain, evT_andD, evT_orD, evT_notD, bT_defD, evO_k, evO_v, evO_op, evO_neg, evO_no, bO_defD, evE_k, evE_v, evE_g, evE_opD, evE_negD, evE_cmpD, evE_chainD, evE_andD, evE_orD, evE_notD, evE_ifeD, evE_tupD, evE_lstD, evE_ixD, evE_slD, evE_biD, evE_meD, evE_callD, evE_callkD, evE_isiD, evE_mk, evA_consD, evA_nil, Env.at, Env.cur, Env.curs, Env.see, Env.store, Env.setS, Env.tak, Env.taks, Env.put, Env.hand, Env.back, Env.holds, Env.setWs, Env.setW, sameKey, Env.okey, Env.fz, fzb, oi_0, oi_1, oi_2, oi_3, oi_4, L2.ixN, truth, biOp, ob_add, ob_sub, ob_cat, oc_lt, oc_le, oc_gt, oc_ge, oc_eq, oc_ne, oc_in, oc_nin, oc_is, oc_isn, eq_int, eq_bl, eq_nil, isNonD, f18, St.hd, St.tl, e1, e2, e3, lim]
theorem law_ext1 {n : Nat} {ns : List Int} {p : D} {s2 : Mi.Slot} {xs : List D} (hl : xs.length ≤ 50) : evS (callN T (n + 4)) f18.body.tl.tl.tl.hd (E18 ns p s2 (.own (.lst xs)) .no) = .nx (E18 ns p s2 (.own (.lst (xs ++ fix1))) .no) := by
  have em : meOp .extend (.lst xs) [.lst fix1] = some (.lst (xs ++ fix1), .non) := by
    show (if xs.length + fix1.length ≤ lim then some ((D.lst (xs ++ fix1), D.non) : D × D) else none) = _
    rw [if_pos (by simp [lim]; omega)]
  simp [bndD_ok, bndD_exc, bndD_bad, stD_ok, stD_exc, stD_bad, sqD_nx, sqD_brk, sqD_cnt, sqD_ret, sqD_exc, sqD_bad, runF, env0, slotsOf, evS_seqD, evS_ifsD, evS_skip, evS_setD, evS_subD, evS_retD, evS_dropD, evS_parD, evT_k, evT_v, evT_cmp, evT_call, evT_isi, evT_chain, evT_andD, evT_orD, evT_notD, bT_defD, evO_k, evO_v, evO_op, evO_neg, evO_no, bO_defD, evE_k, evE_v, evE_g, evE_opD, evE_negD, evE_cmpD, evE_chainD, evE_andD, evE_orD, evE_notD, evE_ifeD, evE_tupD, evE_lstD, evE_ixD, evE_slD, evE_biD, evE_meD, evE_callD, evE_callkD, evE_isiD, evE_mk, evA_consD, evA_nil, Env.at, Env.cur, Env.curs, Env.see, Env.store, Env.setS, Env.tak, Env.taks, Env.put, Env.hand, Env.back, Env.holds, Env.setWs, Env.setW, sameKey, Env.okey, Env.fz, fzb, oi_0, oi_1, oi_2, oi_3, oi_4, L2.ixN, truth, biOp, ob_add, ob_sub, ob_cat, oc_lt, oc_le, oc_gt, oc_ge, oc_eq, oc_ne, oc_in, oc_nin, oc_is, oc_isn, eq_int, eq_bl, eq_nil, isNonD, f18, St.hd, St.tl, mul_a12, mul_a13, lim, em, meTyp]
theorem law_ext2 {n : Nat} {ns : List Int} {p : D} {s2 : Mi.Slot} {xs : List D} (hl : xs.length ≤ 50) : evS (callN T (n + 4)) f18.body.tl.tl.tl.tl.hd (E18 ns p s2 (.own (.lst xs)) .no) = .nx (E18 ns p s2 (.own (.lst (xs ++ fix2))) .no) := by
  have em : meOp .extend (.lst xs) [.lst fix2] = some (.lst (xs ++ fix2), .non) := by
    show (if xs.length + fix2.length ≤ lim then some ((D.lst (xs ++ fix2), D.non) : D × D) else none) = _
    rw [if_pos (by simp [lim]; omega)]
  simp [bndD_ok, bndD_exc, bndD_bad, stD_ok, stD_exc, stD_bad, sqD_nx, sqD_brk, sqD_cnt, sqD_ret, sqD_exc, sqD_bad, runF, env0, slotsOf, evS_seqD, evS_ifsD, evS_skip, evS_setD, evS_subD, evS_retD, evS_dropD, evS_parD, evT_k, evT_v, evT_cmp, evT_call, evT_isi, evT_chain, evT_andD, evT_orD, evT_notD, bT_defD, evO_k, evO_v, evO_op, evO_neg, evO_no, bO_defD, evE_k, evE_v, evE_g, evE_opD, evE_negD, evE_cmpD, evE_chainD, evE_andD, evE_orD, evE_notD, evE_ifeD, evE_tupD, evE_lstD, evE_ixD, evE_slD, evE_biD, evE_meD, evE_callD, evE_callkD, evE_isiD, evE_mk, evA_consD, evA_nil, Env.at, Env.cur, Env.curs, Env.see, Env.store, Env.setS, Env.tak, Env.taks, Env.put, Env.hand, Env.back, Env.holds, Env.setWs, Env.setW, sameKey, Env.okey, Env.fz, fzb, oi_0, oi_1, oi_2, oi_3, oi_4, L2.ixN, truth, biOp, ob_add, ob_sub, ob_cat, oc_lt, oc_le, oc_gt, oc_ge, oc_eq, oc_ne, oc_in, oc_nin, oc_is, oc_isn, eq_int, eq_bl, eq_nil, isNonD, f18, St.hd, St.tl, mul_a12, mul_z11, cat_a, cat_z, lim, em, meTyp]
end K01

set_option Elab.async false
set_option linter.all false
set_option maxRecDepth 100000
set_option maxHeartbeats 0
namespace K01
open PySem L2 Mi
theorem law_loop1 {n : Nat} {ns : List Int} {p : D} {s2 : Mi.Slot} {xs : List D} (h : ∀ d ∈ xs, Ak d) : ∃ s4, evS (callN T (n + 4)) f18.body.tl.tl.tl.tl.tl.hd (E18 ns p s2 (.own (.lst xs)) .no) = .nx (E18 ns p s2 (.val (.lst xs)) s4) := by
  obtain ⟨e', a, s4, rfl⟩ := forL_inv (P := fun _ e => ∃ s4, e = E18 ns p s2 (.val (.lst xs)) s4) (k := 0) (f := fun d e => match e.bindT (.one 4) d with
    | some e' => evS (callN T (n + 4)) (St.body f18.body.tl.tl.tl.tl.tl.hd) e'
    | none => .bad) (xs := xs) (e := E18 ns p s2 (.val (.lst xs)) .no) ⟨_, rfl⟩ (fun x hx j e _ hP => by
      obtain ⟨s4, rfl⟩ := hP
      have k := one_right (n := n + 1) (h x hx)
      exact ⟨E18 ns p s2 (.val (.lst xs)) (.val x), by simp [bndD_ok, bndD_exc, bndD_bad, stD_ok, stD_exc, stD_bad, sqD_nx, sqD_brk, sqD_cnt, sqD_ret, sqD_exc, sqD_bad, runF, env0, slotsOf, evS_seqD, evS_ifsD, evS_skip, evS_setD, evS_subD, evS_retD, evS_dropD, evS_parD, evT_k, evT_v, evT_cmp, evT_call, evT_isi, evT_chain, evT_andD, evT_orD, evT_notD, bT_defD, evO_k, evO_v, evO_op, evO_neg, evO_no, bO_defD, evE_k, evE_v, evE_g, evE_opD, evE_negD, evE_cmpD, evE_chainD, evE_andD, evE_orD, evE_notD, evE_ifeD, evE_tupD, evE_lstD, evE_ixD, evE_slD, evE_biD, evE_meD, evE_callD, evE_callkD, evE_isiD, evE_mk, evA_consD, evA_nil, Env.at, Env.cur, Env.curs, Env.see, Env.store, Env.setS, Env.tak, Env.taks, Env.put, Env.hand, Env.back, Env.holds, Env.setWs, Env.setW, sameKey, Env.okey, Env.fz, fzb, oi_0, oi_1, oi_2, oi_3, oi_4, L2.ixN, truth, biOp, ob_add, ob_sub, ob_cat, oc_lt, oc_le, oc_gt, oc_ge, oc_eq, oc_ne, oc_in, oc_nin, oc_is, oc_isn, eq_int, eq_bl, eq_nil, isNonD, Env.bindT, f18, St.hd, St.tl, k], _, rfl⟩)
  have ei : evI (callN T (n + 4)) (.v 3) (E18 ns p s2 (.own (.lst xs)) .no) = .ok xs (E18 ns p s2 (.val (.lst xs)) .no) := rfl
  refine ⟨s4, ?_⟩
  show evS (callN T (n + 4)) (.fors (.one 4) (.v 3) _) _ = _
  rw [evS_fors, ei]
  exact a
theorem law_loop2 {n : Nat} {ns : List Int} {b : Int} {p : D} {s4 : Mi.Slot} {row : List D} {d1 d2 : D} {s : Str} {r : List D} (hp : PenOk b p) (hb : b < 300000) (k1 : Kn d1) (k2 : Kn d2) :
    ∃ p' s4', evS (callN T (n + 4)) f18.body.tl.tl.tl.tl.tl.tl.hd (E18 ns p (.val (.lst row)) (.val (.lst (d1 :: .str s :: .lst row :: .tup row :: d2 :: r))) s4) = .nx (E18 ns p' (.val (.lst row)) (.val (.lst (d1 :: .str s :: .lst row :: .tup row :: d2 :: r))) s4') ∧ PenOk (b + 200) p' := by
  obtain ⟨e', a, p', s4', rfl, h⟩ := forL_inv (P := fun j e => ∃ p' s4, e = E18 ns p' (.val (.lst row)) (.val (.lst (d1 :: .str s :: .lst row :: .tup row :: d2 :: r))) s4 ∧ PenOk (b + 22 * (j : Int)) p') (k := 0) (f := fun d e => match e.bindT (.one 4) d with
    | some e' => evS (callN T (n + 4)) (St.body f18.body.tl.tl.tl.tl.tl.tl.hd) e'
    | none => .bad) (xs := [d1, .str s, d2, .lst row, .bl true, .bl false, .int 0, .non]) (e := E18 ns p (.val (.lst row)) (.val (.lst (d1 :: .str s :: .lst row :: .tup row :: d2 :: r))) s4) ⟨p, _, rfl, by simpa using hp⟩ (fun x hx j e hj hP => by
      obtain ⟨q, s4, rfl, hq⟩ := hP
      have hx' : Kn x := by
        simp only [List.mem_cons, List.not_mem_nil, or_false] at hx
        rcases hx with rfl | rfl | rfl | rfl | rfl | rfl | rfl | rfl
        · exact k1
        · exact .inl rfl
        · exact k2
        all_goals exact .inl rfl
      have hj' : j < 8 := by simpa using hj
      obtain ⟨q', k, hq'⟩ := bounds_right (n := n + 1) hx' hq (by omega)
      exact ⟨E18 ns q' (.val (.lst row)) (.val (.lst (d1 :: .str s :: .lst row :: .tup row :: d2 :: r))) (.val x), by simp [bndD_ok, bndD_exc, bndD_bad, stD_ok, stD_exc, stD_bad, sqD_nx, sqD_brk, sqD_cnt, sqD_ret, sqD_exc, sqD_bad, runF, env0, slotsOf, evS_seqD, evS_ifsD, evS_skip, evS_setD, evS_subD, evS_retD, evS_dropD, evS_parD, evT_k, evT_v, evT_cmp, evT_call, evT_isi, evT_chain, evT_andD, evT_orD, evT_notD, bT_defD, evO_k, evO_v, evO_op, evO_neg, evO_no, bO_defD, evE_k, evE_v, evE_g, evE_opD, evE_negD, evE_cmpD, evE_chainD, evE_andD, evE_orD, evE_notD, evE_ifeD, evE_tupD, evE_lstD, evE_ixD, evE_slD, evE_biD, evE_meD, evE_callD, evE_callkD, evE_isiD, evE_mk, evA_consD, evA_nil, Env.at, Env.cur, Env.curs, Env.see, Env.store, Env.setS, Env.tak, Env.taks, Env.put, Env.hand, Env.back, Env.holds, Env.setWs, Env.setW, sameKey, Env.okey, Env.fz, fzb, oi_0, oi_1, oi_2, oi_3, oi_4, L2.ixN, truth, biOp, ob_add, ob_sub, ob_cat, oc_lt, oc_le, oc_gt, oc_ge, oc_eq, oc_ne, oc_in, oc_nin, oc_is, oc_isn, eq_int, eq_bl, eq_nil, isNonD, Env.bindT, f18, St.hd, St.tl, k], q', _, rfl, hq'.mono (by omega)⟩)
  refine ⟨p', s4', ?_, h.mono (by simp)⟩
  have ei : evI (callN T (n + 4)) (.tup (.cons (.ix (.v 3) (.k (.int 0))) (.cons (.ix (.v 3) (.k (.int 1))) (.cons (.ix (.v 3) (.k (.int 4))) (.cons (.v 2) (.cons (.k (.bl true)) (.cons (.k (.bl false)) (.cons (.k (.int 0)) (.cons (.k .non) .nil))))))))) (E18 ns p (.val (.lst row)) (.val (.lst (d1 :: .str s :: .lst row :: .tup row :: d2 :: r))) s4) = .ok [d1, .str s, d2, .lst row, .bl true, .bl false, .int 0, .non] (E18 ns p (.val (.lst row)) (.val (.lst (d1 :: .str s :: .lst row :: .tup row :: d2 :: r))) s4) := by
    rw [evI_tup]
    simp [bndD_ok, bndD_exc, bndD_bad, stD_ok, stD_exc, stD_bad, sqD_nx, sqD_brk, sqD_cnt, sqD_ret, sqD_exc, sqD_bad, runF, env0, slotsOf, evS_seqD, evS_ifsD, evS_skip, evS_setD, evS_subD, evS_retD, evS_dropD, evS_parD, evT_k, evT_v, evT_cmp, evT_call, evT_isi, evT_chain, evT_andD, evT_orD, evT_notD, bT_defD, evO_k, evO_v, evO_op, evO_neg, evO_no, bO_defD, evE_k, evE_v, evE_g, evE_opD, evE_negD, evE_cmpD, evE_chainD, evE_andD, evE_orD, evE_notD, evE_ifeD, evE_tupD, evE_lstD, evE_ixD, evE_slD, evE_biD, evE_meD, evE_callD, evE_callkD, evE_isiD, evE_mk, evA_consD, evA_nil, Env.at, Env.cur, Env.curs, Env.see, Env.store, Env.setS, Env.tak, Env.taks, Env.put, Env.hand, Env.back, Env.holds, Env.setWs, Env.setW, sameKey, Env.okey, Env.fz, fzb, oi_0, oi_1, oi_2, oi_3, oi_4, L2.ixN, truth, biOp, ob_add, ob_sub, ob_cat, oc_lt, oc_le, oc_gt, oc_ge, oc_eq, oc_ne, oc_in, oc_nin, oc_is, oc_isn, eq_int, eq_bl, eq_nil, isNonD, bI_def, lim]
  show evS (callN T (n + 4)) (.fors (.one 4) (.tup _) _) _ = _
  rw [evS_fors, ei]
  exact a
theorem law_ok (ns : List Int) (hl : ns.length ≤ 63) : ∃ own out, callA T 5 18 [(.lst (ns.map D.int), false)] = .ok (.bl true) own out := by
  obtain ⟨p0, e0, h0⟩ := pen_new (n := 3) hl
  obtain ⟨row, p1, e1, h1, l1, k1⟩ := K01.row (n := 0) h0 (by omega)
  obtain ⟨d1, s, d2, p2, e2, h2, k2, k3, k4⟩ := law_vals (n := 0) (ns := ns) h1 (by omega) l1 k1
  have x1 := law_ext1 (n := 0) (ns := ns) (p := p2) (s2 := .val (.lst row)) (xs := [d1, .str s, .lst row, .tup row, d2, .lst [.lst row], .lst [.tup row, .int 1]]) (by simp)
  have x2 := law_ext2 (n := 0) (ns := ns) (p := p2) (s2 := .val (.lst row)) (xs := [d1, .str s, .lst row, .tup row, d2, .lst [.lst row], .lst [.tup row, .int 1]] ++ fix1) (by simp)
  have kr : row.all knB = true := List.all_eq_true.mpr fun d hd => (k1 d hd).knB
  have ks : ∀ d ∈ ([d1, .str s, .lst row, .tup row, d2, .lst [.lst row], .lst [.tup row, .int 1]] ++ fix1) ++ fix2, Ak d := by
    intro d hd
    refine akB_ok ?_
    rw [List.append_assoc] at hd
    rcases List.mem_append.mp hd with hd | hd
    · have hr : (decide (row.length ≤ 100) && row.all knB) = true := by rw [kr, decide_eq_true (by omega)] <;> rfl
      simp only [List.mem_cons, List.not_mem_nil, or_false] at hd
      rcases hd with rfl | rfl | rfl | rfl | rfl | rfl | rfl
      · exact k2.akB
      · exact k4.akB
      · exact hr
      · exact hr
      · exact k3.akB
      · rfl
      · rfl
    · exact List.all_eq_true.mp fix_ok d hd
  obtain ⟨s4, x3⟩ := law_loop1 (n := 0) (ns := ns) (p := p2) (s2 := .val (.lst row)) ks
  obtain ⟨p3, s4', x4, h3⟩ := law_loop2 (n := 0) (ns := ns) (row := row) (s := s) (r := [.lst [.lst row], .lst [.tup row, .int 1]] ++ fix1 ++ fix2) (s4 := s4) h2 (by omega) (knB_ok k2.knB) (knB_ok k3.knB)
  obtain ⟨p4, x5, h4⟩ := twice_right (n := 0) h3 (by omega)
  have y1 : evS (callN T 4) f18.body.hd ⟨[.val (.lst (ns.map D.int)), .no, .no, .no, .no], [(.lst (ns.map D.int), false)]⟩ = .nx (E18 ns p0 .no .no .no) := by
    simp [bndD_ok, bndD_exc, bndD_bad, stD_ok, stD_exc, stD_bad, sqD_nx, sqD_brk, sqD_cnt, sqD_ret, sqD_exc, sqD_bad, runF, env0, slotsOf, evS_seqD, evS_ifsD, evS_skip, evS_setD, evS_subD, evS_retD, evS_dropD, evS_parD, evT_k, evT_v, evT_cmp, evT_call, evT_isi, evT_chain, evT_andD, evT_orD, evT_notD, bT_defD, evO_k, evO_v, evO_op, evO_neg, evO_no, bO_defD, evE_k, evE_v, evE_g, evE_opD, evE_negD, evE_cmpD, evE_chainD, evE_andD, evE_orD, evE_notD, evE_ifeD, evE_tupD, evE_lstD, evE_ixD, evE_slD, evE_biD, evE_meD, evE_callD, evE_callkD, evE_isiD, evE_mk, evA_consD, evA_nil, Env.at, Env.cur, Env.curs, Env.see, Env.store, Env.setS, Env.tak, Env.taks, Env.put, Env.hand, Env.back, Env.holds, Env.setWs, Env.setW, sameKey, Env.okey, Env.fz, fzb, oi_0, oi_1, oi_2, oi_3, oi_4, L2.ixN, truth, biOp, ob_add, ob_sub, ob_cat, oc_lt, oc_le, oc_gt, oc_ge, oc_eq, oc_ne, oc_in, oc_nin, oc_is, oc_isn, eq_int, eq_bl, eq_nil, isNonD, f18, St.hd, e0]
  have y2 : evS (callN T 4) f18.body.tl.hd (E18 ns p0 .no .no .no) = .nx (E18 ns p1 (.own (.lst row)) .no .no) := by
    simp [bndD_ok, bndD_exc, bndD_bad, stD_ok, stD_exc, stD_bad, sqD_nx, sqD_brk, sqD_cnt, sqD_ret, sqD_exc, sqD_bad, runF, env0, slotsOf, evS_seqD, evS_ifsD, evS_skip, evS_setD, evS_subD, evS_retD, evS_dropD, evS_parD, evT_k, evT_v, evT_cmp, evT_call, evT_isi, evT_chain, evT_andD, evT_orD, evT_notD, bT_defD, evO_k, evO_v, evO_op, evO_neg, evO_no, bO_defD, evE_k, evE_v, evE_g, evE_opD, evE_negD, evE_cmpD, evE_chainD, evE_andD, evE_orD, evE_notD, evE_ifeD, evE_tupD, evE_lstD, evE_ixD, evE_slD, evE_biD, evE_meD, evE_callD, evE_callkD, evE_isiD, evE_mk, evA_consD, evA_nil, Env.at, Env.cur, Env.curs, Env.see, Env.store, Env.setS, Env.tak, Env.taks, Env.put, Env.hand, Env.back, Env.holds, Env.setWs, Env.setW, sameKey, Env.okey, Env.fz, fzb, oi_0, oi_1, oi_2, oi_3, oi_4, L2.ixN, truth, biOp, ob_add, ob_sub, ob_cat, oc_lt, oc_le, oc_gt, oc_ge, oc_eq, oc_ne, oc_in, oc_nin, oc_is, oc_isn, eq_int, eq_bl, eq_nil, isNonD, f18, St.hd, St.tl, e1]
  have y3 : evS (callN T 4) f18.body.tl.tl.tl.tl.tl.tl.tl (E18 ns p3 (.val (.lst row)) (.val (.lst (([d1, .str s, .lst row, .tup row, d2, .lst [.lst row], .lst [.tup row, .int 1]] ++ fix1) ++ fix2))) s4') = .ret (.bl true) false (E18 ns p4 (.val (.lst row)) (.val (.lst (([d1, .str s, .lst row, .tup row, d2, .lst [.lst row], .lst [.tup row, .int 1]] ++ fix1) ++ fix2))) s4') := by
    simp [bndD_ok, bndD_exc, bndD_bad, stD_ok, stD_exc, stD_bad, sqD_nx, sqD_brk, sqD_cnt, sqD_ret, sqD_exc, sqD_bad, runF, env0, slotsOf, evS_seqD, evS_ifsD, evS_skip, evS_setD, evS_subD, evS_retD, evS_dropD, evS_parD, evT_k, evT_v, evT_cmp, evT_call, evT_isi, evT_chain, evT_andD, evT_orD, evT_notD, bT_defD, evO_k, evO_v, evO_op, evO_neg, evO_no, bO_defD, evE_k, evE_v, evE_g, evE_opD, evE_negD, evE_cmpD, evE_chainD, evE_andD, evE_orD, evE_notD, evE_ifeD, evE_tupD, evE_lstD, evE_ixD, evE_slD, evE_biD, evE_meD, evE_callD, evE_callkD, evE_isiD, evE_mk, evA_consD, evA_nil, Env.at, Env.cur, Env.curs, Env.see, Env.store, Env.setS, Env.tak, Env.taks, Env.put, Env.hand, Env.back, Env.holds, Env.setWs, Env.setW, sameKey, Env.okey, Env.fz, fzb, oi_0, oi_1, oi_2, oi_3, oi_4, L2.ixN, truth, biOp, ob_add, ob_sub, ob_cat, oc_lt, oc_le, oc_gt, oc_ge, oc_eq, oc_ne, oc_in, oc_nin, oc_is, oc_isn, eq_int, eq_bl, eq_nil, isNonD, f18, St.tl, x5]
  have start : callA T 5 18 [(.lst (ns.map D.int), false)] = (match (evS (callN T 4) f18.body.hd ⟨[.val (.lst (ns.map D.int)), .no, .no, .no, .no], [(.lst (ns.map D.int), false)]⟩).sq (fun e => (evS (callN T 4) f18.body.tl.hd e).sq fun e => (evS (callN T 4) f18.body.tl.tl.hd e).sq fun e => (evS (callN T 4) f18.body.tl.tl.tl.hd e).sq fun e => (evS (callN T 4) f18.body.tl.tl.tl.tl.hd e).sq fun e => (evS (callN T 4) f18.body.tl.tl.tl.tl.tl.hd e).sq fun e => (evS (callN T 4) f18.body.tl.tl.tl.tl.tl.tl.hd e).sq (evS (callN T 4) f18.body.tl.tl.tl.tl.tl.tl.tl)) with
    | .nx e => CR.ok .non false e.le
    | .ret d o e => .ok d o e.le
    | .exc x e => .exc x e.le
    | _ => .bad) := rfl
  refine ⟨false, [(.lst (ns.map D.int), false)], ?_⟩
  rw [start, y1]
  dsimp only [SR.sq_nx]
  rw [y2]
  dsimp only [SR.sq_nx]
  rw [e2]
  dsimp only [SR.sq_nx]
  rw [x1]
  dsimp only [SR.sq_nx]
  rw [x2]
  dsimp only [SR.sq_nx]
  rw [x3]
  dsimp only [SR.sq_nx]
  have x4' : evS (callN T 4) f18.body.tl.tl.tl.tl.tl.tl.hd (E18 ns p2 (.val (.lst row)) (.val (.lst (([d1, .str s, .lst row, .tup row, d2, .lst [.lst row], .lst [.tup row, .int 1]] ++ fix1) ++ fix2))) s4) = .nx (E18 ns p3 (.val (.lst row)) (.val (.lst (([d1, .str s, .lst row, .tup row, d2, .lst [.lst row], .lst [.tup row, .int 1]] ++ fix1) ++ fix2))) s4') := x4
  rw [x4']
  dsimp only [SR.sq_nx]
  rw [y3]
end K01

set_option Elab.async false
set_option linter.all false
set_option maxRecDepth 100000
set_option maxHeartbeats 0
namespace K01
open PySem PySem.Spec PyProof.Rows L2 Mi
abbrev R : PySem.W.OpenRow := PySem.W.OpenLaw.row PySem.Challenge.rw_rimsewn_k01_checks_of_any_value
abbrev hk : PySem.W.Hook := hookM 4 dfs nm fr
def ob (s : PySem.W.SharedT) : AlM := obsMG 4 dfs nm fr (HandSHeadRun.getT s)
theorem ob_eq (s : PySem.W.SharedT) : ob s = hk.obs s.abs := obsMG_eq (HandSHeadRun.getT_eq s)
abbrev loose : List Str := ["KINDS", "LETTERS", "DIGITS", "is_integer", "is_within", "is_kind", "is_name", "is_row", "first_twice", "SewError", "Nothing", "_law_pen", "_law_draw", "_law_signs", "_law_text", "_law_number", "_law_simple", "_law_row", "_law_plain", "_law_names", "_law_one_right", "_law_bounds_right", "_law_twice_right"]
abbrev Q : Program := PySem.W.view R.prog [26]
theorem run (w : World) : HandSHeadRun.RunEq R Q hk ob 3000 loose w := by
  intro os
  kernel_rfl
open PySem.W PySem.Calls
theorem c_e : opening R.prog = plainProg R.prog.main.scope.names := by kernel_rfl
theorem c_f : ∀ s, fenceModules? R.prog s = some s := fun s => by kernel_rfl
abbrev Dd : DefRec := HandSHeadRun.topDef R.prog 26
theorem c_def : defOf Q R.name = some (Dd, []) := by kernel_rfl
theorem c_hp : R.prog.theDef R.name = some (Dd.params, Dd.body, Dd.scope) := by kernel_rfl
theorem c_hk : kwWritten? Dd.params.kwonlyargs Dd.params.kw_defaults = some [] := by kernel_rfl
theorem c_hwr : (!R.writes || R.records.isEmpty) = true := by kernel_rfl
theorem c_ok : (chainsOk Q && opensWell R.prog && (frees R.toRowW && R.within.isEmpty)) = true := by kernel_rfl
theorem c_bare : R.prog.bare := ⟨by kernel_rfl, by kernel_rfl, by kernel_rfl, by kernel_rfl, by kernel_rfl, by kernel_rfl⟩
theorem c_prom : R.toRowW.promised := ⟨[.list []], by kernel_rfl, by kernel_rfl⟩
theorem c_said : PySem.Challenge.rw_rimsewn_k01_checks_of_any_value.wellSaid = true := by kernel_rfl
theorem c_name : Dd.name = ("law" : PySem.Str) := by kernel_rfl
theorem c_dfl : Dd.params.defaults = [] := by kernel_rfl
theorem e_t : dfs[18]? = some t18 := rfl
theorem e_at : t18.d.at_.2 = none := rfl
theorem e_nm : t18.d.at_.1 = ("law" : PySem.Str) := rfl
theorem e_ps : t18.ps = [("_law_script" : PySem.Str)] := rfl
theorem fin {N : Nat} (law : ∀ ns : List Int, ns.length ≤ 63 → ∃ own out, callA (tabT dfs) N 18 [(.lst (ns.map D.int), false)] = .ok (.bl true) own out) (w : World) (mg : Str → Option Value) (fa : Addr) (h : Heap) (Y : hk.says w h) (G : h.Ns mainGlobals mg) (hmg0 : mg Dd.name = some (.ref fa)) :
    ∃ (K : PySem.W.Frag) (fd : FuncData) (sp : Sp), K.In h ∧ (∀ (s : Shared) (u : Value), BindsTo s fd ⟨[u], []⟩ [("_law_script", u)]) ∧
        (∀ (H : Hp) (a : Addr) (ns : List Int), ns.length ≤ 63 → Only H → SqL K H a (ns.map V.int) → sp [.ref a] H (fun v _ => v = .bl true) fun _ _ _ => False) ∧
        ∀ base : Heap, K.In base → base.Ns mainGlobals mg → FnOk R.prog w K mg base (L2.CX R.prog w) N fa fd ["_law_script"] sp := by
  rw [c_name, ← e_nm] at hmg0
  exact Mi.endF (t := t18) okA okN e_t e_at e_ps law Y G hmg0
theorem walk {N : Nat} (hN : callerA.depth + 3 * N + 5 < recursionLimit ∧ callerA.units + 16 * N + 200 < cLine) (law : ∀ ns : List Int, ns.length ≤ 63 → ∃ own out, callA (tabT dfs) N 18 [(.lst (ns.map D.int), false)] = .ok (.bl true) own out) :
    PySem.W.WalkO Q loose (XL Q []) hk.says R.toRowW Dd [] fun f vs => PySem.call f vs :=
  Mi.walk_ofW (l := PySem.Challenge.rw_rimsewn_k01_checks_of_any_value) (n := 63) (k := N) (x := "_law_script") (CX := fun w => L2.CX R.prog w) rfl (by decide) c_dfl ⟨rfl, hN.1, hN.2⟩ (fin law) (fun _ _ _ _ _ z => Mi.cx_none z)
theorem holds_of {N : Nat} (hN : callerA.depth + 3 * N + 5 < recursionLimit ∧ callerA.units + 16 * N + 200 < cLine) (law : ∀ ns : List Int, ns.length ≤ 63 → ∃ own out, callA (tabT dfs) N 18 [(.lst (ns.map D.int), false)] = .ok (.bl true) own out) : PySem.Challenge.rw_rimsewn_k01_checks_of_any_value.Holds :=
  holds_law c_said fun said => HandSHeadRun.head_any (r := R) (q := Q) (H := hk) (ob := ob) (M := 3000) (loose := loose) (d := Dd) (kwd := []) ob_eq c_e c_f run c_def c_hp c_hk c_hwr said c_ok c_bare c_prom (walk hN law)
end K01

theorem PySem.Challenge.cw_rimsewn_k01_checks_of_any_value_holds : PySem.Challenge.rw_rimsewn_k01_checks_of_any_value.Holds :=
  K01.holds_of (N := 5) (by decide) K01.law_ok
