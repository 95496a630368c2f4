import PyProof.Rows.All
import Wide.All
import OpenK.AllK
import Wide.FinOn
import HandS.ForMost
import HandS.Deep
import HandS.IsInst
import HandS.WideBits
import HandS.Wide
import PySem.Challenge.RW_landweave_k01_knots
set_option Elab.async false
set_option linter.all false
set_option maxRecDepth 100000
/-! Core: own data, an abstract heap, a small language and what it computes. -/
namespace Iv
open PySem

/-- data: lst, dct are lists and dicts that nobody changes any more; ref n the n-th object of the abstract heap -/
inductive D where
  | non | bl (b : Bool) | int (i : Int) | str (x : Str)
  | tup (ds : List D) | lst (ds : List D) | dct (ks vs : List D) | ref (n : Nat)
  deriving Inhabited

mutual
def D.beq : D → D → Bool
  | .non, .non => true
  | .bl a, .bl b => a == b
  | .int a, .int b => decide (a = b)
  | .str a, .str b => decide (a = b)
  | .tup a, .tup b => D.beqs a b
  | .lst a, .lst b => D.beqs a b
  | .dct a b, .dct c d => D.beqs a c && D.beqs b d
  | .ref m, .ref n => decide (m = n)
  | _, _ => false
def D.beqs : List D → List D → Bool
  | [], [] => true
  | x :: xs, y :: ys => D.beq x y && D.beqs xs ys
  | _, _ => false
end
mutual
theorem D.beq_eq : ∀ {a b : D}, D.beq a b = true → a = b
  | .non, b, h => by cases b <;> simp [D.beq] at h ⊢
  | .bl x, b, h => by cases b <;> simp [D.beq] at h ⊢; exact h
  | .int x, b, h => by cases b <;> simp [D.beq] at h ⊢; exact h
  | .str x, b, h => by cases b <;> simp [D.beq] at h ⊢; exact h
  | .tup x, b, h => by
    cases b <;> simp [D.beq] at h ⊢
    exact D.beqs_eq h
  | .lst x, b, h => by
    cases b <;> simp [D.beq] at h ⊢
    exact D.beqs_eq h
  | .dct x y, b, h => by
    cases b <;> simp [D.beq] at h ⊢
    exact ⟨D.beqs_eq h.1, D.beqs_eq h.2⟩
  | .ref x, b, h => by cases b <;> simp [D.beq] at h ⊢; exact h
theorem D.beqs_eq : ∀ {a b : List D}, D.beqs a b = true → a = b
  | [], b, h => by cases b <;> simp [D.beqs] at h ⊢
  | x :: xs, b, h => by
    cases b with
    | nil => simp [D.beqs] at h
    | cons y ys =>
      simp [D.beqs] at h
      rw [D.beq_eq h.1, D.beqs_eq h.2]
end
mutual
/-- no ref within -/
def D.rf : D → Bool
  | .tup ds => D.rfs ds
  | .lst ds => D.rfs ds
  | .dct ks vs => D.rfs ks && D.rfs vs
  | .ref _ => false
  | _ => true
def D.rfs : List D → Bool
  | [] => true
  | d :: ds => D.rf d && D.rfs ds
end
theorem D.rfs_append {a b : List D} : D.rfs (a ++ b) = (D.rfs a && D.rfs b) := by
  induction a with
  | nil => simp [D.rfs]
  | cons x a ih => simp [D.rfs, ih, Bool.and_assoc]
theorem D.rfs_all {a : List D} : D.rfs a = a.all D.rf := by
  induction a with
  | nil => rfl
  | cons x a ih => simp [D.rfs, ih]
mutual
/-- as Python data, where it is that -/
def D.py : D → Option PyData
  | .non => some .none
  | .bl b => some (.bool b)
  | .int i => some (.int i)
  | .str x => some (.str x)
  | .tup ds => (D.pys ds).map .tuple
  | .lst ds => (D.pys ds).map .list
  | .dct _ _ => none
  | .ref _ => none
def D.pys : List D → Option (List PyData)
  | [] => some []
  | d :: ds => match D.py d, D.pys ds with
    | some p, some ps => some (p :: ps)
    | _, _ => none
end

/-- an object of the abstract heap; what a list, a dict holds bears no ref -/
inductive AO where
  | lst (ds : List D)
  deriving Inhabited
abbrev AH := List AO
/-- what is done with the heap: a value and a heap, or nothing is said -/
abbrev M (α : Type) := AH → Option (α × AH)
def ret {α : Type} (a : α) : M α := fun h => some (a, h)
def bad {α : Type} : M α := fun _ => none
def bnd {α β : Type} (m : M α) (f : α → M β) : M β := fun h => match m h with
  | some (a, h') => f a h'
  | none => none
def opt {α : Type} (o : Option α) : M α := fun h => match o with
  | some a => some (a, h)
  | none => none
/-- the heap's word -/
def ask {α : Type} (f : AH → Option α) : M α := fun h => match f h with
  | some a => some (a, h)
  | none => none
abbrev St := List (Option D)

/-! ### what operators make of values -/
def mulOk (i j : Int) : Bool := decide (i.natAbs < 2 ^ 64) || decide (j.natAbs < 2 ^ 64) || (decide (i.natAbs < 2 ^ 250) && decide (j.natAbs < 2 ^ 250))
def divOk (j : Int) : Bool := decide (0 < j) && decide (j.natAbs < 2 ^ 250)
def powOk (i j : Int) : Bool := decide (0 ≤ j) && decide (j ≤ 100000) && decide (i.natAbs < 2 ^ 250)
def shlOk (i j : Int) : Bool := decide (0 ≤ j) && decide (j ≤ 100000) && decide (i.natAbs < 2 ^ 64)

inductive Bop where | add | sub | mul | fdiv | mod | pow | shl deriving DecidableEq
inductive Cop where | lt | le | gt | ge | eq | ne | isN | notN deriving DecidableEq

def binD : Bop → D → D → Option D
  | .add, .int i, .int j => some (.int (i + j))
  | .sub, .int i, .int j => some (.int (i - j))
  | .mul, .int i, .int j => if mulOk i j = true then some (.int (i * j)) else none
  | .fdiv, .int i, .int j => if divOk j = true then some (.int (i / j)) else none
  | .mod, .int i, .int j => if decide (0 < j) = true then some (.int (i % j)) else none
  | .pow, .int i, .int j => if powOk i j = true then some (.int (i ^ j.toNat)) else none
  | .shl, .int i, .int j => if shlOk i j = true then some (.int (i * 2 ^ j.toNat)) else none
  | _, _, _ => none
def isNon : D → Bool
  | .non => true
  | _ => false
/-- two scalars that == tells apart as data -/
def eqD : D → D → Option Bool
  | .int i, .int j => some (decide (i = j))
  | .str i, .str j => some (decide (i = j))
  | .bl i, .bl j => some (i == j)
  | .non, .non => some true
  | .non, .int _ => some false | .int _, .non => some false
  | .non, .str _ => some false | .str _, .non => some false
  | .non, .bl _ => some false | .bl _, .non => some false
  | .int _, .str _ => some false | .str _, .int _ => some false
  | .bl _, .str _ => some false | .str _, .bl _ => some false
  | _, _ => none
def cmpD : Cop → D → D → Option Bool
  | .lt, .int i, .int j => some (decide (i < j))
  | .le, .int i, .int j => some (decide (i ≤ j))
  | .gt, .int i, .int j => some (decide (j < i))
  | .ge, .int i, .int j => some (decide (j ≤ i))
  | .eq, a, b => eqD a b
  | .ne, a, b => (eqD a b).map (!·)
  | .isN, a, .non => some (isNon a)
  | .notN, a, .non => some (!isNon a)
  | _, _, _ => none
/-- a list's or tuple's items -/
def seqOf (h : AH) : D → Option (List D)
  | .lst ds => some ds
  | .tup ds => some ds
  | .ref n => match h[n]? with
    | some (.lst ds) => some ds
    | _ => none
  | _ => none
def idxD (h : AH) (x i : D) : Option D := match seqOf h x, i with
  | some ds, .int i => L2.atI ds i
  | _, _ => none

/-! ### the language -/
inductive Ty where | int | bool | str | tuple | list | dict deriving DecidableEq
inductive Bi where | len | abs | min2 | max2 | bitlen | isa (t : Ty) deriving DecidableEq
/-- a built-in type's name, as isinstance wants it -/
def tyOf (h : AH) : D → Option Ty
  | .bl _ => some .bool
  | .int _ => some .int
  | .str _ => some .str
  | .tup _ => some .tuple
  | .lst _ => some .list
  | .ref n => match h[n]? with
    | some (.lst _) => some .list
    | _ => none
  | _ => none
def isaB (t c : Ty) : Bool := decide (t = c) || (decide (t = .bool) && decide (c = .int))

def absI (i : Int) : Int := if i < 0 then -i else i
def biD (h : AH) : Bi → List D → Option D
  | .len, [x] => (seqOf h x).map fun ds => .int ds.length
  | .abs, [.int i] => some (.int (if i < 0 then -i else i))
  | .min2, [.int i, .int j] => some (.int (if j < i then j else i))
  | .max2, [.int i, .int j] => some (.int (if j > i then j else i))
  | .bitlen, [.int i] => some (.int (Builtin.Int.intBits i : Nat))
  | .isa c, [d] => match d with
    | .non => some (.bl false)
    | d => (tyOf h d).map fun t => .bl (isaB t c)
  | _, _ => none

mutual
/-- expressions -/
inductive E where
  | v (i : Nat)
  | c (d : D)
  | tup (es : List E)
  | lstv (f : F)
  | alloc (f : F)
  | bin (op : Bop) (a b : E)
  | neg (a : E)
  | cmp (op : Cop) (a b : E)
  | chain (op op' : Cop) (a b c : E)
  | and (a b : E)
  | or (a b : E)
  | not (a : E)
  | ite (t a b : E)
  | idx (a i : E)
  | call (f : Nat) (perm : List Nat) (es : List E)
  | bi (b : Bi) (es : List E)
/-- new lists -/
inductive F where
  | disp (es : List E)
end
instance : Inhabited E := ⟨.v 0⟩
inductive Tg where
  | nm (i : Nat)
  | tup (ts : List Tg)
  | sub (a i : E)
/-- what a for walks -/
inductive It where
  | range1 (a : E)
  | range2 (a b : E)
  | seq (e : E)
inductive S where
  | asg (t : Tg) (e : E)
  | aug (i : Nat) (op : Bop) (e : E)
  | expr (e : E)
  | ret (e : E)
  | retN
  | ite (t : E) (a b : List S)
  | for (t : Tg) (it : It) (body : List S)
  | while (t : E) (body : List S)
  | pass
instance : Inhabited S := ⟨.pass⟩
/-- a def: how many parameters, slots; whether what it hands back may be changed (a new list that the caller owns) -/
structure Fn where
  np : Nat
  ns : Nat
  own : Bool
  body : List S
  deriving Inhabited

/-! ### what it computes -/
/-- the n-th def called -/
abbrev Cal := Nat → List D → M D
def sizeMax : Nat := 16777216
theorem sizeMax_eq : sizeLine = sizeMax := by decide
/-- a new object -/
def newLst (ds : List D) : M D := fun h => if D.rfs ds = true then some (.ref h.length, h ++ [.lst ds]) else none
def tBl : D → Option Bool
  | .bl b => some b
  | _ => none
section
variable (C : Cal)
mutual
def semE : E → St → M D
  | .v i, s => opt (s[i]?.join)
  | .c d, _ => ret d
  | .tup es, s => bnd (semEs es s) fun ds => if ds.length ≤ sizeMax then ret (.tup ds) else bad
  | .lstv f, s => bnd (semF f s) fun ds => ret (.lst ds)
  | .alloc f, s => bnd (semF f s) newLst
  | .bin op a b, s => bnd (semE a s) fun x => bnd (semE b s) fun y => opt (binD op x y)
  | .neg a, s => bnd (semE a s) fun x => match x with
    | .int i => ret (.int (-i))
    | _ => bad
  | .cmp op a b, s => bnd (semE a s) fun x => bnd (semE b s) fun y => bnd (opt (cmpD op x y)) fun k => ret (.bl k)
  | .chain op op' a b c, s => bnd (semE a s) fun x => bnd (semE b s) fun y => bnd (opt (cmpD op x y)) fun k =>
      if k = true then bnd (semE c s) fun z => bnd (opt (cmpD op' y z)) fun k' => ret (.bl k') else ret (.bl false)
  | .and a b, s => bnd (semE a s) fun x => bnd (opt (tBl x)) fun k => if k = true then semE b s else ret (.bl false)
  | .or a b, s => bnd (semE a s) fun x => bnd (opt (tBl x)) fun k => if k = true then ret (.bl true) else semE b s
  | .not a, s => bnd (semE a s) fun x => bnd (opt (tBl x)) fun k => ret (.bl (!k))
  | .ite t a b, s => bnd (semE t s) fun x => bnd (opt (tBl x)) fun k => if k = true then semE a s else semE b s
  | .idx a i, s => bnd (semE a s) fun x => bnd (semE i s) fun y => ask fun h => idxD h x y
  | .call f perm es, s => bnd (semEs es s) fun ds => C f (perm.map fun k => ds.getD k .non)
  | .bi b es, s => bnd (semEs es s) fun ds => ask fun h => biD h b ds
def semEs : List E → St → M (List D)
  | [], _ => ret []
  | e :: es, s => bnd (semE e s) fun d => bnd (semEs es s) fun ds => ret (d :: ds)
def semF : F → St → M (List D)
  | .disp es, s => bnd (semEs es s) fun ds => if ds.length ≤ sizeMax then ret ds else bad
end
/-- a list's item changed -/
def setItem (o i v : D) : M Unit := fun h => match o, i with
  | .ref n, .int i => match h[n]? with
    | some (.lst ds) => match L2.ixN ds.length i with
      | some k => if D.rf v = true then some ((), h.set n (.lst (ds.set k v))) else none
      | none => none
    | _ => none
  | _, _ => none
mutual
def semT : Tg → D → St → M St
  | .nm i, d, s => if i < s.length then ret (s.set i (some d)) else bad
  | .tup ts, d, s => match d with
    | .tup ds => semTs ts ds s
    | _ => bad
  | .sub a i, d, s => bnd (semE C a s) fun o => bnd (semE C i s) fun k => bnd (setItem o k d) fun _ => ret s
def semTs : List Tg → List D → St → M St
  | [], [], s => ret s
  | t :: ts, d :: ds, s => bnd (semT t d s) fun s' => semTs ts ds s'
  | _, _, _ => bad
end
/-- what a for walks: its items, and what must not change meanwhile -/
def rangeL (lo : Int) (n : Nat) : List D := (List.range n).map fun k : Nat => .int (lo + (k : Int))
def rgOk (i : Int) : Bool := decide (-(2 ^ 62) ≤ i) && decide (i < 2 ^ 62)
def semIt : It → St → M (List D × Option Nat)
  | .range1 a, s => bnd (semE C a s) fun x => match x with
    | .int i => if rgOk i = true then ret (rangeL 0 i.toNat, none) else bad
    | _ => bad
  | .range2 a b, s => bnd (semE C a s) fun x => bnd (semE C b s) fun y => match x, y with
    | .int i, .int j => if rgOk i = true ∧ rgOk j = true then ret (rangeL i (j - i).toNat, none) else bad
    | _, _ => bad
  | .seq e, s => bnd (semE C e s) fun x => bnd (ask fun h => seqOf h x) fun ds => ret (ds, match x with
    | .ref n => some n
    | _ => none)
end
/-- a statement's end -/
inductive Fl where
  | nx (s : St)
  | rt (d : D)
/-- the walked list stands as it stood -/
def stands (ds : List D) (g : Option Nat) : M Unit := fun h => match g with
  | none => some ((), h)
  | some n => match h[n]? with
    | some (.lst es) => if D.beqs es ds = true then some ((), h) else none
    | _ => none
def forL (all : List D) (g : Option Nat) (body : D → St → M Fl) : List D → St → M Fl
  | [], s => ret (.nx s)
  | d :: ds, s => bnd (body d s) fun f => match f with
    | .rt r => ret (.rt r)
    | .nx s' => bnd (stands all g) fun _ => forL all g body ds s'
/-- n turns of a while at most -/
def whileN (test : St → M Bool) (body : St → M Fl) : Nat → St → M Fl
  | 0, _ => bad
  | n + 1, s => bnd (test s) fun k => if k = true then bnd (body s) fun f => match f with
    | .rt r => ret (.rt r)
    | .nx s' => whileN test body n s'
    else ret (.nx s)
open Classical in
/-- as many turns as it takes -/
noncomputable def whileW (test : St → M Bool) (body : St → M Fl) (s : St) : M Fl := fun h =>
  if e : ∃ n r, whileN test body n s h = some r then some (Classical.choose (Classical.choose_spec e)) else none
section
variable (C : Cal)
mutual
noncomputable def semS : S → St → M Fl
  | .asg t e, s => bnd (semE C e s) fun d => bnd (semT C t d s) fun s' => ret (.nx s')
  | .aug i op e, s => bnd (opt (s[i]?.join)) fun x => bnd (semE C e s) fun y => bnd (opt (binD op x y)) fun z => ret (.nx (s.set i (some z)))
  | .expr e, s => bnd (semE C e s) fun _ => ret (.nx s)
  | .ret e, s => bnd (semE C e s) fun d => ret (.rt d)
  | .retN, _ => ret (.rt .non)
  | .ite t a b, s => bnd (semE C t s) fun x => bnd (opt (tBl x)) fun k => if k = true then semSs a s else semSs b s
  | .for t it body, s => bnd (semIt C it s) fun p => forL p.1 p.2 (fun d s' => bnd (semT C t d s') fun s'' => semSs body s'') p.1 s
  | .while t body, s => whileW (fun s' => bnd (semE C t s') fun x => opt (tBl x)) (fun s' => semSs body s') s
  | .pass, s => ret (.nx s)
noncomputable def semSs : List S → St → M Fl
  | [], s => ret (.nx s)
  | c :: cs, s => bnd (semS c s) fun f => match f with
    | .rt r => ret (.rt r)
    | .nx s' => semSs cs s'
end
end
mutual
/-- what is handed back by a def that began at a heap of n objects: its own lists as lists that nobody changes -/
def snap (n : Nat) (h : AH) : D → Option D
  | .ref k => if k < n then some (.ref k) else match h[k]? with
    | some (.lst ds) => some (.lst ds)
    | _ => none
  | .tup ds => (snaps n h ds).map .tup
  | .lst ds => if D.rfs ds = true then some (.lst ds) else none
  | .dct ks vs => if D.rfs ks = true ∧ D.rfs vs = true then some (.dct ks vs) else none
  | d => some d
def snaps (n : Nat) (h : AH) : List D → Option (List D)
  | [] => some []
  | d :: ds => match snap n h d, snaps n h ds with
    | some p, some ps => some (p :: ps)
    | _, _ => none
end
/-- .. its own new list, the caller's from now on -/
def owned (n : Nat) (h : AH) : D → Option (D × AH)
  | .ref k => if k < n then none else match h[k]? with
    | some o => some (.ref n, h.take n ++ [o])
    | none => none
  | _ => none
def start (f : Fn) (ds : List D) : St := ds.map some ++ List.replicate (f.ns - ds.length) none
def fin (own : Bool) (n : Nat) (d : D) : M D := fun h => if own = true then owned n h d else match snap n h d with
  | some r => some (r, h.take n)
  | none => none
noncomputable def run (T : List Fn) : Nat → Nat → List D → M D
  | 0, _, _ => bad
  | k + 1, f, ds => fun h => match T[f]? with
    | some fn => if ds.length = fn.np then
        (bnd (semSs (run T k) fn.body (start fn ds)) fun fl => match fl with
          | .rt d => fin fn.own h.length d
          | .nx _ => fin fn.own h.length .non) h
      else none
    | none => none
end Iv

/-! Rel: what data and the abstract heap stand for. -/
namespace Iv
open PySem L2

/-- where the n-th object stands; the addresses that no finished list may have -/
structure W where
  ι : Nat → Addr
  T : Addr → Prop
structure G where
  w : W
  h : AH
  H : Hp
/-- a tracked object stands there -/
def Img (g : G) (a : Addr) : Prop := ∃ n o, g.h[n]? = some o ∧ g.w.ι n = a
section
variable (K : PySem.W.Frag)
/-- a list that is read and that nobody changes -/
def SqR (g : G) (a : Addr) (xs : List V) : Prop :=
  (Rd g.H a (.lst xs) ∧ ¬ g.w.T a) ∨
    ∃ (o : Obj) (its : Array Value) (n : Nat), K.lookup a = some o ∧ o.cls = .type "list" ∧ o.dict = none ∧ o.data = .seq its n ∧ its.size ≤ sizeLine ∧ Vals xs its.toList
mutual
def Rep (g : G) : D → V → Prop
  | .non, v => v = .non
  | .bl b, v => v = .bl b
  | .int i, v => v = .int i
  | .str x, v => v = .str x
  | .tup ds, v => ∃ a xs, v = .ref a ∧ SqT K g.H a xs ∧ Reps g ds xs
  | .lst ds, v => ∃ a xs, v = .ref a ∧ SqR K g a xs ∧ Reps g ds xs
  | .dct _ _, _ => False
  | .ref n, v => n < g.h.length ∧ v = .ref (g.w.ι n)
def Reps (g : G) : List D → List V → Prop
  | [], xs => xs = []
  | d :: ds, xs => ∃ y ys, xs = y :: ys ∧ Rep g d y ∧ Reps g ds ys
end
def Obj1 (g : G) (n : Nat) : AO → Prop
  | .lst ds => D.rfs ds = true ∧ ∃ xs, g.H (g.w.ι n) = some (.lst xs) ∧ Reps K g ds xs
structure Rel (g : G) : Prop where
  img : ∀ a, Img g a → g.w.T a
  inj : ∀ m n, m < g.h.length → n < g.h.length → g.w.ι m = g.w.ι n → m = n
  obj : ∀ n o, g.h[n]? = some o → Obj1 K g n o
  dom : ∀ a, g.w.T a → ∃ o, g.H a = some o
end
structure Ext (g g' : G) : Prop where
  len : g.h.length ≤ g'.h.length
  ids : ∀ n, n < g.h.length → g'.w.ι n = g.w.ι n
  keep : ∀ a o, g.H a = some o → ¬ Img g a → g'.H a = some o
  there : ∀ a o, g.H a = some o → ∃ o', g'.H a = some o'
  tnew : ∀ a, g'.w.T a → g.w.T a ∨ g.H a = none
  told : ∀ a, g.w.T a → g'.w.T a
  inew : ∀ a, Img g' a → Img g a ∨ g.H a = none
theorem Ext.refl (g : G) : Ext g g := ⟨Nat.le_refl _, fun _ _ => rfl, fun _ _ h _ => h, fun _ o h => ⟨o, h⟩, fun _ h => .inl h, fun _ h => h, fun _ h => .inl h⟩
theorem Ext.trans {a b c : G} (x : Ext a b) (y : Ext b c) : Ext a c where
  len := Nat.le_trans x.len y.len
  ids := fun n hn => (y.ids n (Nat.lt_of_lt_of_le hn x.len)).trans (x.ids n hn)
  keep := fun p o h hi => y.keep p o (x.keep p o h hi) fun z => (x.inew p z).elim hi fun q => by rw [h] at q; cases q
  there := fun p o h => by
    obtain ⟨o', h'⟩ := x.there p o h
    exact y.there p o' h'
  tnew := fun p h => (y.tnew p h).elim (fun q => x.tnew p q) fun q => .inr (by
    cases e : a.H p with
    | none => rfl
    | some o =>
      obtain ⟨o', h'⟩ := x.there p o e
      rw [h'] at q; cases q)
  told := fun p h => y.told p (x.told p h)
  inew := fun p h => (y.inew p h).elim (fun q => x.inew p q) fun q => .inr (by
    cases e : a.H p with
    | none => rfl
    | some o =>
      obtain ⟨o', h'⟩ := x.there p o e
      rw [h'] at q; cases q)

section
variable {K : PySem.W.Frag} {g g' : G}
theorem Rel.imgHas (r : Rel K g) {a : Addr} (i : Img g a) : ∃ xs, g.H a = some (.lst xs) := by
  obtain ⟨n, o, h1, h3⟩ := i
  have q := r.obj n o h1
  cases o with
  | lst ds =>
    obtain ⟨_, xs, e, _⟩ := q
    rw [h3] at e
    exact ⟨xs, e⟩
theorem Rel.notImg (r : Rel K g) {a : Addr} {o : HO} (h : g.H a = some o) (hl : ∀ xs, o ≠ .lst xs) : ¬ Img g a := fun i => by
  obtain ⟨xs, e⟩ := r.imgHas i
  rw [h] at e
  exact hl xs (Option.some.inj e)
theorem Ext.tup (r : Rel K g) (x : Ext g g') {a : Addr} {xs : List V} (h : SqT K g.H a xs) : SqT K g'.H a xs := by
  rcases h with (h | ⟨o, h⟩) | h
  · exact .inl (.inl (x.keep a _ h (r.notImg h fun _ z => by cases z)))
  · exact .inl (.inr ⟨o, x.keep a _ h (r.notImg h fun _ z => by cases z)⟩)
  · exact .inr h
theorem Ext.sqr (r : Rel K g) (x : Ext g g') {a : Addr} {xs : List V} (h : SqR K g a xs) : SqR K g' a xs := by
  rcases h with ⟨h, ht⟩ | h
  · have ni : ¬ Img g a := fun i => ht (r.img a i)
    have hs : ∃ o, g.H a = some o := by
      rcases h with h | ⟨o, h⟩
      · exact ⟨_, h⟩
      · exact ⟨_, h⟩
    obtain ⟨o, ho⟩ := hs
    have nt : ¬ g'.w.T a := fun z => (x.tnew a z).elim ht fun q => by rw [ho] at q; cases q
    refine .inl ⟨?_, nt⟩
    rcases h with h | ⟨o, h⟩
    · exact .inl (x.keep a _ h ni)
    · exact .inr ⟨o, x.keep a _ h ni⟩
  · exact .inr h
mutual
theorem Rep.ext (r : Rel K g) (x : Ext g g') : ∀ (d : D) {v : V}, Rep K g d v → Rep K g' d v
  | .non, _, h => by simpa only [Rep] using h
  | .bl _, _, h => by simpa only [Rep] using h
  | .int _, _, h => by simpa only [Rep] using h
  | .str _, _, h => by simpa only [Rep] using h
  | .tup ds, _, h => by
    simp only [Rep] at h ⊢
    obtain ⟨a, xs, e, q, rs⟩ := h
    exact ⟨a, xs, e, x.tup r q, Reps.ext r x ds rs⟩
  | .lst ds, _, h => by
    simp only [Rep] at h ⊢
    obtain ⟨a, xs, e, q, rs⟩ := h
    exact ⟨a, xs, e, x.sqr r q, Reps.ext r x ds rs⟩
  | .dct _ _, _, h => by simp only [Rep] at h
  | .ref n, _, h => by
    simp only [Rep] at h ⊢
    exact ⟨Nat.lt_of_lt_of_le h.1 x.len, by rw [h.2, x.ids n h.1]⟩
theorem Reps.ext (r : Rel K g) (x : Ext g g') : ∀ (ds : List D) {xs : List V}, Reps K g ds xs → Reps K g' ds xs
  | [], _, h => by simpa only [Reps] using h
  | d :: ds, _, h => by
    simp only [Reps] at h ⊢
    obtain ⟨y, ys, e, q, rs⟩ := h
    exact ⟨y, ys, e, Rep.ext r x d q, Reps.ext r x ds rs⟩
end
theorem Reps.nil : Reps K g [] [] := by simp only [Reps]
theorem Reps.cons {d : D} {ds : List D} {v : V} {vs : List V} (h : Rep K g d v) (t : Reps K g ds vs) : Reps K g (d :: ds) (v :: vs) := by
  simp only [Reps]
  exact ⟨v, vs, rfl, h, t⟩
theorem Reps.length : ∀ {ds : List D} {xs : List V}, Reps K g ds xs → ds.length = xs.length
  | [], xs, h => by
    simp only [Reps] at h
    subst h
    rfl
  | d :: ds, xs, h => by
    simp only [Reps] at h
    obtain ⟨y, ys, rfl, _, t⟩ := h
    simp [Reps.length t]
theorem Reps.get : ∀ {ds : List D} {xs : List V} {i : Nat} {d : D}, Reps K g ds xs → ds[i]? = some d → ∃ v, xs[i]? = some v ∧ Rep K g d v
  | [], xs, i, d, h, e => by simp at e
  | d :: ds, xs, 0, d', h, e => by
    simp only [Reps] at h
    obtain ⟨y, ys, rfl, q, t⟩ := h
    simp at e
    subst e
    exact ⟨y, rfl, q⟩
  | d :: ds, xs, i + 1, d', h, e => by
    simp only [Reps] at h
    obtain ⟨y, ys, rfl, q, t⟩ := h
    simpa using Reps.get t (by simpa using e)
theorem Reps.set {d : D} {v : V} (hv : Rep K g d v) : ∀ {ds : List D} {xs : List V} (i : Nat), Reps K g ds xs → Reps K g (ds.set i d) (xs.set i v)
  | [], xs, i, h => by
    simp only [Reps] at h
    subst h
    exact Reps.nil
  | e :: ds, xs, 0, h => by
    simp only [Reps] at h
    obtain ⟨y, ys, rfl, q, t⟩ := h
    exact Reps.cons hv t
  | e :: ds, xs, i + 1, h => by
    simp only [Reps] at h
    obtain ⟨y, ys, rfl, q, t⟩ := h
    exact Reps.cons q (Reps.set hv i t)
theorem Reps.append : ∀ {ds es : List D} {xs ys : List V}, Reps K g ds xs → Reps K g es ys → Reps K g (ds ++ es) (xs ++ ys)
  | [], es, xs, ys, h, q => by
    simp only [Reps] at h
    subst h
    exact q
  | d :: ds, es, xs, ys, h, q => by
    simp only [Reps] at h
    obtain ⟨y, zs, rfl, p, t⟩ := h
    exact Reps.cons p (Reps.append t q)
theorem Reps.take : ∀ {ds : List D} {xs : List V} (n : Nat), Reps K g ds xs → Reps K g (ds.take n) (xs.take n)
  | ds, xs, 0, h => by simpa using Reps.nil
  | [], xs, n + 1, h => by
    simp only [Reps] at h
    subst h
    exact Reps.nil
  | d :: ds, xs, n + 1, h => by
    simp only [Reps] at h
    obtain ⟨y, zs, rfl, p, t⟩ := h
    exact Reps.cons p (Reps.take n t)
theorem Reps.drop : ∀ {ds : List D} {xs : List V} (n : Nat), Reps K g ds xs → Reps K g (ds.drop n) (xs.drop n)
  | ds, xs, 0, h => by simpa using h
  | [], xs, n + 1, h => by
    simp only [Reps] at h
    subst h
    exact Reps.nil
  | d :: ds, xs, n + 1, h => by
    simp only [Reps] at h
    obtain ⟨y, zs, rfl, p, t⟩ := h
    simpa using Reps.drop n t
theorem rep_int {i : Int} {v : V} : Rep K g (.int i) v ↔ v = .int i := by simp only [Rep]
theorem rep_bl {b : Bool} {v : V} : Rep K g (.bl b) v ↔ v = .bl b := by simp only [Rep]
theorem rep_str {x : Str} {v : V} : Rep K g (.str x) v ↔ v = .str x := by simp only [Rep]
theorem rep_non {v : V} : Rep K g .non v ↔ v = .non := by simp only [Rep]
theorem rep_ref {n : Nat} {v : V} : Rep K g (.ref n) v ↔ n < g.h.length ∧ v = .ref (g.w.ι n) := by simp only [Rep]
theorem rep_tup {ds : List D} {v : V} : Rep K g (.tup ds) v ↔ ∃ a xs, v = .ref a ∧ SqT K g.H a xs ∧ Reps K g ds xs := by simp only [Rep]
theorem rep_lst {ds : List D} {v : V} : Rep K g (.lst ds) v ↔ ∃ a xs, v = .ref a ∧ SqR K g a xs ∧ Reps K g ds xs := by simp only [Rep]

/-- the slots -/
structure Slots (K : PySem.W.Frag) (g : G) (s : St) (σ : L2.St) : Prop where
  len : s.length = σ.length
  get : ∀ (i : Nat) (d : D), s[i]? = some (some d) → ∃ v, σ[i]? = some (some v) ∧ Rep K g d v
theorem Slots.ext (r : Rel K g) (x : Ext g g') {s : St} {σ : L2.St} (h : Slots K g s σ) : Slots K g' s σ :=
  ⟨h.len, fun i d e => let ⟨v, e1, q⟩ := h.get i d e; ⟨v, e1, Rep.ext r x d q⟩⟩
theorem Slots.set {s : St} {σ : L2.St} {i : Nat} {d : D} {v : V} (h : Slots K g s σ) (q : Rep K g d v) : Slots K g (s.set i (some d)) (σ.set i (some v)) := by
  refine ⟨by simp [h.len], fun j e hj => ?_⟩
  by_cases z : i = j
  · subst z
    by_cases hl : i < s.length
    · rw [List.getElem?_set_self hl] at hj
      cases hj
      exact ⟨v, by rw [List.getElem?_set_self (by rw [← h.len]; exact hl)], q⟩
    · rw [List.getElem?_eq_none (by simpa using hl)] at hj
      cases hj
  · rw [List.getElem?_set_ne z] at hj
    obtain ⟨u, e1, p⟩ := h.get j e hj
    exact ⟨u, by rw [List.getElem?_set_ne z]; exact e1, p⟩

/-! ### what is asked of a heap's worker -/
def Ok {α : Type} (K : PySem.W.Frag) (g : G) (m : M α) (P : G → α → Prop) : Prop :=
  ∃ a h', m g.h = some (a, h') ∧ ∀ w' H', Rel K ⟨w', h', H'⟩ → Ext g ⟨w', h', H'⟩ → P ⟨w', h', H'⟩ a
theorem Ok.bnd {α β : Type} {m : M α} {f : α → M β} {P : G → β → Prop} (h : Ok K g (Iv.bnd m f) P) : Ok K g m fun g1 a => Ok K g1 (f a) P := by
  obtain ⟨b, h2, e, q⟩ := h
  unfold Iv.bnd at e
  split at e
  · rename_i a h1 e1
    refine ⟨a, h1, e1, fun w1 H1 r1 x1 => ⟨b, h2, e, fun w2 H2 r2 x2 => q w2 H2 r2 (x1.trans x2)⟩⟩
  · cases e
theorem Ok.mono {α : Type} {m : M α} {P Q : G → α → Prop} (h : Ok K g m P) (hq : ∀ g' a, Rel K g' → Ext g g' → P g' a → Q g' a) : Ok K g m Q := by
  obtain ⟨a, h1, e, q⟩ := h
  exact ⟨a, h1, e, fun w' H' r x => hq _ _ r x (q w' H' r x)⟩
theorem Ok.ret {α : Type} {a : α} {P : G → α → Prop} (r : Rel K g) (h : Ok K g (Iv.ret a) P) : P g a := by
  obtain ⟨b, h', e, q⟩ := h
  cases e
  exact q g.w g.H r (Ext.refl g)
theorem Ok.ret' {α : Type} {a : α} {P : G → α → Prop} (h : Ok K g (Iv.ret a) P) {w' : W} {H' : Hp} (r : Rel K ⟨w', g.h, H'⟩) (x : Ext g ⟨w', g.h, H'⟩) : P ⟨w', g.h, H'⟩ a := by
  obtain ⟨b, h', e, q⟩ := h
  cases e
  exact q w' H' r x
theorem Ok.opt {α : Type} {o : Option α} {P : G → α → Prop} (h : Ok K g (Iv.opt o) P) : ∃ a, o = some a ∧ Ok K g (Iv.ret a) P := by
  cases o with
  | none =>
    obtain ⟨b, h', e, q⟩ := h
    cases e
  | some a => exact ⟨a, rfl, h⟩
theorem Ok.ask {α : Type} {f : AH → Option α} {P : G → α → Prop} (h : Ok K g (Iv.ask f) P) : ∃ a, f g.h = some a ∧ Ok K g (Iv.ret a) P := by
  obtain ⟨b, h', e, q⟩ := h
  unfold Iv.ask at e
  cases z : f g.h with
  | none => rw [z] at e; cases e
  | some a =>
    rw [z] at e
    have e1 : a = b := congrArg Prod.fst (Option.some.inj e)
    have e2 : g.h = h' := congrArg Prod.snd (Option.some.inj e)
    subst e1
    subst e2
    exact ⟨a, rfl, a, g.h, rfl, q⟩
theorem Ok.optb {α β : Type} {o : Option α} {f : α → M β} {P : G → β → Prop} (h : Ok K g (Iv.bnd (Iv.opt o) f) P) : ∃ a, o = some a ∧ Ok K g (f a) P := by
  cases o with
  | none =>
    obtain ⟨b, h', e, q⟩ := h
    cases e
  | some a => exact ⟨a, rfl, h⟩
theorem Ok.bad {α : Type} {P : G → α → Prop} (h : Ok K g (Iv.bad : M α) P) : False := by
  obtain ⟨b, h', e, q⟩ := h
  cases e

/-- an untracked new object -/
theorem Ext.lay (r : Rel K g) {p : Addr} {o : HO} (hp : g.H p = none) : Ext g ⟨g.w, g.h, upd g.H p o⟩ ∧ Rel K ⟨g.w, g.h, upd g.H p o⟩ := by
  have x : Ext g ⟨g.w, g.h, upd g.H p o⟩ := by
    refine ⟨Nat.le_refl _, fun _ _ => rfl, fun a u h _ => ?_, fun a u h => ⟨u, ?_⟩, fun a h => .inl h, fun a h => h, fun a h => .inl h⟩
    · show upd g.H p o a = some u
      rw [upd_ne (ne_of_none h hp)]
      exact h
    · show upd g.H p o a = some u
      rw [upd_ne (ne_of_none h hp)]
      exact h
  refine ⟨x, fun a i => r.img a i, r.inj, fun n u h => ?_, fun a h => ?_⟩
  · have q := r.obj n u h
    cases u with
    | lst ds =>
      obtain ⟨hr, xs, e, rs⟩ := q
      refine ⟨hr, xs, ?_, Reps.ext r x ds rs⟩
      show upd g.H p o (g.w.ι n) = some (.lst xs)
      rw [upd_ne (ne_of_none e hp)]
      exact e
  · obtain ⟨u, e⟩ := r.dom a h
    exact ⟨u, by show upd g.H p o a = some u; rw [upd_ne (ne_of_none e hp)]; exact e⟩

/-- the address a is nobody's finished list -/
def G.mark (g : G) (a : Addr) : G := ⟨{ g.w with T := fun b => g.w.T b ∨ b = a }, g.h, g.H⟩
/-- .. and we keep it for us -/
theorem Ext.layT (r : Rel K g) {p : Addr} {o : HO} (hp : g.H p = none) : Ext g (G.mark ⟨g.w, g.h, upd g.H p o⟩ p) ∧ Rel K (G.mark ⟨g.w, g.h, upd g.H p o⟩ p) := by
  obtain ⟨x, r'⟩ := Ext.lay (o := o) r hp
  have x' : Ext g (G.mark ⟨g.w, g.h, upd g.H p o⟩ p) := ⟨x.len, x.ids, x.keep, x.there, fun a h => h.elim .inl fun e => .inr (by rw [e]; exact hp), fun a h => .inl h, x.inew⟩
  refine ⟨x', fun a i => .inl (r'.img a i), r'.inj, fun n u h => ?_, fun a h => ?_⟩
  · have q := r.obj n u h
    cases u with
    | lst ds =>
      obtain ⟨hr, xs, e, rs⟩ := q
      refine ⟨hr, xs, ?_, Reps.ext r x' ds rs⟩
      show upd g.H p o (g.w.ι n) = some (.lst xs)
      rw [upd_ne (ne_of_none e hp)]
      exact e
  · rcases h with h | h
    · exact r'.dom a h
    · exact ⟨o, by rw [h]; exact upd_same⟩
mutual
theorem Rep.weak {w w' : W} {h : AH} {H : Hp} (hι : w'.ι = w.ι) (hT : ∀ b, w'.T b → w.T b) : ∀ (d : D) {v : V}, Rep K ⟨w, h, H⟩ d v → Rep K ⟨w', h, H⟩ d v
  | .non, _, q => by simpa only [Rep] using q
  | .bl _, _, q => by simpa only [Rep] using q
  | .int _, _, q => by simpa only [Rep] using q
  | .str _, _, q => by simpa only [Rep] using q
  | .tup ds, _, q => by
    simp only [Rep] at q ⊢
    obtain ⟨a, xs, e, q, rs⟩ := q
    exact ⟨a, xs, e, q, Reps.weak hι hT ds rs⟩
  | .lst ds, _, q => by
    simp only [Rep] at q ⊢
    obtain ⟨a, xs, e, q, rs⟩ := q
    refine ⟨a, xs, e, ?_, Reps.weak hι hT ds rs⟩
    rcases q with ⟨q, t⟩ | q
    · exact .inl ⟨q, fun z => t (hT a z)⟩
    · exact .inr q
  | .dct _ _, _, q => by simp only [Rep] at q
  | .ref n, _, q => by
    simp only [Rep] at q ⊢
    exact ⟨q.1, by rw [q.2, hι]⟩
theorem Reps.weak {w w' : W} {h : AH} {H : Hp} (hι : w'.ι = w.ι) (hT : ∀ b, w'.T b → w.T b) : ∀ (ds : List D) {xs : List V}, Reps K ⟨w, h, H⟩ ds xs → Reps K ⟨w', h, H⟩ ds xs
  | [], _, q => by simpa only [Reps] using q
  | d :: ds, _, q => by
    simp only [Reps] at q ⊢
    obtain ⟨y, ys, e, q, rs⟩ := q
    exact ⟨y, ys, e, Rep.weak hι hT d q, Reps.weak hι hT ds rs⟩
end
mutual
/-- without refs the heap's numbers don't matter -/
theorem Rep.plain {w w' : W} {h h' : AH} {H : Hp} (hT : ∀ b, w'.T b → w.T b) : ∀ (d : D) {v : V}, D.rf d = true → Rep K ⟨w, h, H⟩ d v → Rep K ⟨w', h', H⟩ d v
  | .non, _, _, q => by simpa only [Rep] using q
  | .bl _, _, _, q => by simpa only [Rep] using q
  | .int _, _, _, q => by simpa only [Rep] using q
  | .str _, _, _, q => by simpa only [Rep] using q
  | .tup ds, _, f, q => by
    simp only [Rep] at q ⊢
    simp only [D.rf] at f
    obtain ⟨a, xs, e, q, rs⟩ := q
    exact ⟨a, xs, e, q, Reps.plain hT ds f rs⟩
  | .lst ds, _, f, q => by
    simp only [Rep] at q ⊢
    simp only [D.rf] at f
    obtain ⟨a, xs, e, q, rs⟩ := q
    refine ⟨a, xs, e, ?_, Reps.plain hT ds f rs⟩
    rcases q with ⟨q, t⟩ | q
    · exact .inl ⟨q, fun z => t (hT a z)⟩
    · exact .inr q
  | .dct _ _, _, _, q => by simp only [Rep] at q
  | .ref n, _, f, q => by simp [D.rf] at f
theorem Reps.plain {w w' : W} {h h' : AH} {H : Hp} (hT : ∀ b, w'.T b → w.T b) : ∀ (ds : List D) {xs : List V}, D.rfs ds = true → Reps K ⟨w, h, H⟩ ds xs → Reps K ⟨w', h', H⟩ ds xs
  | [], _, _, q => by simpa only [Reps] using q
  | d :: ds, _, f, q => by
    simp only [Reps] at q ⊢
    simp only [D.rfs, Bool.and_eq_true] at f
    obtain ⟨y, ys, e, q, rs⟩ := q
    exact ⟨y, ys, e, Rep.plain hT d f.1 q, Reps.plain hT ds f.2 rs⟩
end
/-- a list that only we know becomes the heap's next object -/
theorem Ext.track {g0 : G} (x : Ext g0 g) (r0 : Rel K g) {a : Addr} {xs : List V} {ds : List D} (h0 : g0.H a = none) (ht : ¬ g.w.T a) (ha : g.H a = some (.lst xs)) (r : Rel K (g.mark a)) (rs : Reps K (g.mark a) ds xs) (hr : D.rfs ds = true) :
    ∃ w', Ext g0 ⟨w', g.h ++ [.lst ds], g.H⟩ ∧ Rel K ⟨w', g.h ++ [.lst ds], g.H⟩ ∧ w'.ι g.h.length = a := by
  have noImg : ¬ Img g a := fun i => ht (r0.img a i)
  let w' : W := ⟨fun n => if n = g.h.length then a else g.w.ι n, fun b => g.w.T b ∨ b = a⟩
  have old : ∀ n, n < g.h.length → w'.ι n = g.w.ι n := fun n hn => if_neg (Nat.ne_of_lt hn)
  have new : w'.ι g.h.length = a := if_pos rfl
  have cases' : ∀ {n : Nat} {o : AO}, (g.h ++ [AO.lst ds])[n]? = some o → (n < g.h.length ∧ g.h[n]? = some o) ∨ (n = g.h.length ∧ o = .lst ds) := by
    intro n o h1
    by_cases hn : n < g.h.length
    · rw [List.getElem?_append_left hn] at h1
      exact .inl ⟨hn, h1⟩
    · have hn2 : n < (g.h ++ [AO.lst ds]).length := (List.getElem?_eq_some_iff.mp h1).1
      have e : n = g.h.length := by
        rw [List.length_append, List.length_singleton] at hn2
        omega
      subst e
      rw [List.getElem?_append_right (Nat.le_refl _), Nat.sub_self] at h1
      exact .inr ⟨rfl, by simpa using h1.symm⟩
  have imgs : ∀ b, Img ⟨w', g.h ++ [.lst ds], g.H⟩ b → Img g b ∨ b = a := by
    rintro b ⟨n, o, h1, h3⟩
    rcases cases' h1 with ⟨hn, h1⟩ | ⟨rfl, _⟩
    · exact .inl ⟨n, o, h1, by rw [← old n hn]; exact h3⟩
    · exact .inr (by rw [← h3]; exact new)
  refine ⟨w', ⟨?_, ?_, x.keep, x.there, ?_, ?_, ?_⟩, ⟨?_, ?_, ?_, ?_⟩, new⟩
  · show g0.h.length ≤ (g.h ++ [AO.lst ds]).length
    have := x.len
    rw [List.length_append]
    omega
  · intro n hn
    exact (old n (Nat.lt_of_lt_of_le hn x.len)).trans (x.ids n hn)
  · rintro b (hb | rfl)
    · exact x.tnew b hb
    · exact .inr h0
  · intro b hb
    exact .inl (x.told b hb)
  · intro b hb
    rcases imgs b hb with hb | rfl
    · exact x.inew b hb
    · exact .inr h0
  · intro b hb
    rcases imgs b hb with hb | rfl
    · exact .inl (r0.img b hb)
    · exact .inr rfl
  · intro m n hm hn h5
    have h5' : w'.ι m = w'.ι n := h5
    have get : ∀ {j : Nat}, j < g.h.length → ∃ o, g.h[j]? = some o := fun {j} hj => ⟨_, List.getElem?_eq_getElem hj⟩
    have hm' : m < (g.h ++ [AO.lst ds]).length := hm
    have hn' : n < (g.h ++ [AO.lst ds]).length := hn
    rw [List.length_append, List.length_singleton] at hm' hn'
    by_cases zm : m < g.h.length
    · by_cases zn : n < g.h.length
      · rw [old m zm, old n zn] at h5'
        exact r0.inj m n zm zn h5'
      · have e : n = g.h.length := by omega
        subst e
        rw [old m zm, new] at h5'
        obtain ⟨o, ho⟩ := get zm
        exact absurd ⟨m, o, ho, h5'⟩ noImg
    · have e : m = g.h.length := by omega
      subst e
      by_cases zn : n < g.h.length
      · rw [old n zn, new] at h5'
        obtain ⟨o, ho⟩ := get zn
        exact absurd ⟨n, o, ho, h5'.symm⟩ noImg
      · omega
  · intro n o h1
    rcases cases' h1 with ⟨hn, h1⟩ | ⟨rfl, rfl⟩
    · have q := r.obj n o h1
      cases o with
      | lst es =>
        obtain ⟨q1, ys, e, q2⟩ := q
        exact ⟨q1, ys, (congrArg g.H (old n hn)).trans e, Reps.plain (w := (g.mark a).w) (w' := w') (h := g.h) (H := g.H) (fun b hb => hb) es q1 q2⟩
    · exact ⟨hr, xs, (congrArg g.H new).trans ha, Reps.plain (w := (g.mark a).w) (w' := w') (h := g.h) (H := g.H) (fun b hb => hb) ds hr rs⟩
  · rintro b (hb | rfl)
    · exact r0.dom b hb
    · exact ⟨_, ha⟩
end
end Iv

set_option maxHeartbeats 2000000
/-! Snd: the text does what the language says: expressions. -/
namespace Iv
open PySem L2 PySem.Spec PyProof.Rows

/-! ### readings -/
section
variable (K : PySem.W.Frag)
def tE (m : St → M D) : TE := fun σ H Q => ∃ (g : G) (s : St), g.H = H ∧ Rel K g ∧ Slots K g s σ ∧ Ok K g (m s) fun g' d => ∀ v, Rep K g' d v → Q v g'.H
def tA (m : St → M (List D)) : TA := fun σ H Q => ∃ (g : G) (s : St), g.H = H ∧ Rel K g ∧ Slots K g s σ ∧ Ok K g (m s) fun g' ds => ∀ vs, Reps K g' ds vs → Q vs g'.H
def tT (m : St → M Bool) : TT := fun σ H Q => ∃ (g : G) (s : St), g.H = H ∧ Rel K g ∧ Slots K g s σ ∧ Ok K g (m s) fun g' b => Q b g'.H
/-- a new list that only we know -/
def tF (m : St → M (List D)) : TE := fun σ H Q => ∃ (g : G) (s : St), g.H = H ∧ Rel K g ∧ Slots K g s σ ∧ Ok K g (m s) fun g' ds =>
  ∀ a xs, g.H a = none → ¬ g'.w.T a → g'.H a = some (.lst xs) → Rel K (g'.mark a) → Reps K (g'.mark a) ds xs → Q (.ref a) g'.H
def spOf (T : List Fn) (k f : Nat) : Sp := fun vs H Q _ => ∃ (g : G) (ds : List D), g.H = H ∧ Rel K g ∧ Reps K g ds vs ∧ vs.length = (T.getD f default).np ∧ Ok K g (run T k f ds) fun g' d => ∀ v, Rep K g' d v → Q v g'.H
end

/-! ### the text's words -/
structure Shape where
  f : Nat
  np : Nat
  ks : List Str
  dfs : List D
  perm : List Nat
structure Tx where
  N : List Str
  fns : List (Str × List Str)
  gl : List (Str × D)
  shapes : List Shape
  blt : List Str
structure ShOk (K : PySem.W.Frag) (fd : FuncData) (ps : List Str) (sh : Shape) : Prop where
  ex : ∃ (dvs : List V) (dus : List Value), (∀ g, Reps K g sh.dfs dvs) ∧ Vals dvs dus ∧ ∀ (s : Shared) (us ws : List Value), K.In s.heap → us.length = sh.np → ws.length = sh.ks.length →
    BindsTo s fd ⟨us, sh.ks.zip ws⟩ (ps.zip (sh.perm.map fun i => (us ++ ws ++ dus).getD i .none))
  len : sh.perm.length = ps.length
  lt : ∀ i ∈ sh.perm, i < sh.np + sh.ks.length + sh.dfs.length
structure Lk (X : Cx) (tx : Tx) (T : List Fn) (k : Nat) : Prop where
  room : Room k X.A
  calm : X.calm = true
  fn : ∀ f x ps, tx.fns[f]? = some (x, ps) → ∃ a fd, X.mg x = some (.ref a) ∧ PySem.W.keepIn X.K (.ref a) = true ∧ FnOk X.prog X.w X.K X.mg X.base CX0 k a fd ps (spOf X.K T k f) ∧
    (T.getD f default).np = ps.length ∧ ∀ sh ∈ tx.shapes, sh.f = f → ShOk X.K fd ps sh
  gl : ∀ p ∈ tx.gl, ∃ u v, X.mg p.1 = some u ∧ RelV v u ∧ ∀ g, Rep X.K g p.2 v
  blt : ∀ x ∈ tx.blt, X.mg x = none
/-- where one stands -/
structure At (X : Cx) (tx : Tx) (sc : Scope) : Prop where
  hn : X.N = tx.N
  nd : X.N.Nodup
  hsc : X.env.scope = sc

/-! ### looking at the text -/
def asName : Expr → Option Str
  | .Name x _ => some x
  | _ => none
theorem asName_eq {e : Expr} {x : Str} (h : asName e = some x) : ∃ p, e = .Name x p := by
  cases e <;> simp [asName] at h
  subst h; exact ⟨_, rfl⟩
def asConst : Expr → Option Const
  | .Constant c _ _ => some c
  | _ => none
theorem asConst_eq {e : Expr} {c : Const} (h : asConst e = some c) : ∃ k p, e = .Constant c k p := by
  cases e <;> simp [asConst] at h
  subst h; exact ⟨_, _, rfl⟩
def asTuple : Expr → Option (List Expr)
  | .Tuple es _ _ => some es
  | _ => none
theorem asTuple_eq {e : Expr} {es : List Expr} (h : asTuple e = some es) : ∃ k p, e = .Tuple es k p := by
  cases e <;> simp [asTuple] at h
  subst h; exact ⟨_, _, rfl⟩
def asList : Expr → Option (List Expr)
  | .List es _ => some es
  | _ => none
theorem asList_eq {e : Expr} {es : List Expr} (h : asList e = some es) : ∃ p, e = .List es p := by
  cases e <;> simp [asList] at h
  subst h; exact ⟨_, rfl⟩
def asBin : Expr → Option (Expr × Operator × Expr)
  | .BinOp a o b _ => some (a, o, b)
  | _ => none
theorem asBin_eq {e a b : Expr} {o : Operator} (h : asBin e = some (a, o, b)) : ∃ p, e = .BinOp a o b p := by
  cases e <;> simp [asBin] at h
  obtain ⟨rfl, rfl, rfl⟩ := h; exact ⟨_, rfl⟩
def asUn : Expr → Option (UnaryOp × Expr)
  | .UnaryOp o a _ => some (o, a)
  | _ => none
theorem asUn_eq {e a : Expr} {o : UnaryOp} (h : asUn e = some (o, a)) : ∃ p, e = .UnaryOp o a p := by
  cases e <;> simp [asUn] at h
  obtain ⟨rfl, rfl⟩ := h; exact ⟨_, rfl⟩
def asCmp : Expr → Option (Expr × CmpOp × Expr)
  | .Compare a [o] [b] _ => some (a, o, b)
  | _ => none
theorem asCmp_eq {e a b : Expr} {o : CmpOp} (h : asCmp e = some (a, o, b)) : ∃ p, e = .Compare a [o] [b] p := by
  unfold asCmp at h
  split at h
  · simp at h
    obtain ⟨rfl, rfl, rfl⟩ := h; exact ⟨_, rfl⟩
  · cases h
def asCmp2 : Expr → Option (Expr × CmpOp × CmpOp × Expr × Expr)
  | .Compare a [o, o'] [b, c] _ => some (a, o, o', b, c)
  | _ => none
theorem asCmp2_eq {e a b c : Expr} {o o' : CmpOp} (h : asCmp2 e = some (a, o, o', b, c)) : ∃ p, e = .Compare a [o, o'] [b, c] p := by
  unfold asCmp2 at h
  split at h
  · simp at h
    obtain ⟨rfl, rfl, rfl, rfl, rfl⟩ := h; exact ⟨_, rfl⟩
  · cases h
/-- and, or: the first, the rest as one -/
def asBool : Expr → Option (BoolOp × Expr × Expr)
  | .BoolOp o [a, b] _ => some (o, a, b)
  | .BoolOp o (a :: b :: c :: r) p => some (o, a, .BoolOp o (b :: c :: r) p)
  | _ => none
theorem asBool_eq {e a b : Expr} {o : BoolOp} (h : asBool e = some (o, a, b)) : (∃ p, e = .BoolOp o [a, b] p) ∨ ∃ b' c r p, b = .BoolOp o (b' :: c :: r) p ∧ e = .BoolOp o (a :: b' :: c :: r) p := by
  unfold asBool at h
  split at h
  · simp at h
    obtain ⟨rfl, rfl, rfl⟩ := h; exact .inl ⟨_, rfl⟩
  · simp at h
    obtain ⟨rfl, rfl, rfl⟩ := h; exact .inr ⟨_, _, _, _, rfl, rfl⟩
  · cases h
def asIf : Expr → Option (Expr × Expr × Expr)
  | .IfExp t a b _ => some (t, a, b)
  | _ => none
theorem asIf_eq {e t a b : Expr} (h : asIf e = some (t, a, b)) : ∃ p, e = .IfExp t a b p := by
  cases e <;> simp [asIf] at h
  obtain ⟨rfl, rfl, rfl⟩ := h; exact ⟨_, rfl⟩
def asSub : Expr → Option (Expr × Expr)
  | .Subscript a b _ => some (a, b)
  | _ => none
theorem asSub_eq {e a b : Expr} (h : asSub e = some (a, b)) : ∃ p, e = .Subscript a b p := by
  cases e <;> simp [asSub] at h
  obtain ⟨rfl, rfl⟩ := h; exact ⟨_, rfl⟩
/-- a call by a name -/
def asCall : Expr → Option (Str × List Expr × List Keyword)
  | .Call (.Name x _) es ks _ => some (x, es, ks)
  | _ => none
theorem asCall_eq {e : Expr} {x : Str} {es : List Expr} {ks : List Keyword} (h : asCall e = some (x, es, ks)) : ∃ q p, e = .Call (.Name x q) es ks p := by
  unfold asCall at h
  split at h
  · simp at h
    obtain ⟨rfl, rfl, rfl⟩ := h; exact ⟨_, _, rfl⟩
  · cases h
/-- o.m(..) on one line -/
def asMeth : Expr → Option (Expr × Str × List Expr)
  | .Call (.Attribute o m q) es [] p => if q.endLine == p.line then some (o, m, es) else none
  | _ => none
theorem asMeth_eq {e o : Expr} {m : Str} {es : List Expr} (h : asMeth e = some (o, m, es)) : ∃ q p, e = .Call (.Attribute o m q) es [] p ∧ (q.endLine == p.line) = true := by
  unfold asMeth at h
  split at h
  · split at h
    · rename_i hl
      simp at h
      obtain ⟨rfl, rfl, rfl⟩ := h; exact ⟨_, _, rfl, hl⟩
    · cases h
  · cases h
/-- no star, no super() -/
def plainE : Expr → Bool
  | .Starred _ _ => false
  | .Call (.Name x _) [] [] _ => decide (x ≠ "super")
  | _ => true
def isSlice : Expr → Bool
  | .Slice _ _ _ _ => true
  | _ => false
/-- whose test is its value's truth -/
def plainT : Expr → Bool
  | .UnaryOp .Not _ _ => false
  | .BoolOp _ _ _ => false
  | .IfExp _ _ _ _ => false
  | .Compare _ _ _ _ => false
  | _ => true
def isSet : Expr → Bool
  | .Set _ _ _ => true
  | _ => false
def okN (x : Str) : Bool := decide (x ≠ "__debug__") && decide (x ≠ "__classdict__") && decide (x ≠ "__name__")
theorem okN_d {x : Str} (h : okN x = true) : (x == ("__debug__" : Str)) = false := by
  simp only [okN, Bool.and_eq_true, decide_eq_true_eq] at h
  exact beq_eq_false_iff_ne.mpr h.1.1
theorem okN_c {x : Str} (h : okN x = true) : (x == ("__classdict__" : Str)) = false := by
  simp only [okN, Bool.and_eq_true, decide_eq_true_eq] at h
  exact beq_eq_false_iff_ne.mpr h.1.2
theorem okN_n {x : Str} (h : okN x = true) : x ≠ "__name__" := by
  simp only [okN, Bool.and_eq_true, decide_eq_true_eq] at h
  exact h.2
def visB (sc : Scope) (x : Str) : Bool := match sc.names.lookup x with
  | some .local => true
  | some .cell => true
  | some .free => true
  | _ => false
theorem visB_ok {sc : Scope} {x : Str} (h : visB sc x = true) : Vis sc x := by
  unfold visB at h
  unfold Vis
  split at h
  · exact .inl (by assumption)
  · exact .inr (.inl (by assumption))
  · exact .inr (.inr (by assumption))
  · cases h
def glB (sc : Scope) (x : Str) : Bool := decide (sc.names.lookup x = some .globalImplicit)
theorem star_cons {e : Expr} {es : List Expr} {env : Env} (h : plainE e = true) : starEach (e :: es) env = (false, eval e env) :: starEach es env := by
  cases e <;> first | rfl | simp [plainE] at h
theorem base_ok {o : Expr} {m : Str} {env : Env} (h : plainE o = true) : attributeBase o m env (eval o env) = eval o env := by
  unfold attributeBase
  split
  · rename_i id q p
    simp only [plainE, decide_eq_true_eq] at h
    rw [if_pos (by simp [h])]
  · rfl
theorem marks_ok {op : CmpOp} {b : Expr} (h : isSet b = false) : behindInMarks op b = false := by
  cases b <;> first | rfl | simp [isSet] at h
theorem plainIx_ok {b : Expr} (h : isSlice b = false) : PlainIx b := fun o i => by
  cases b <;> first | rfl | simp [isSlice] at h
theorem isTrue_ok {e : Expr} {env : Env} (h : plainT e = true) (whole : Sem Value) : isTrue e env whole = (do let v ← whole; standAt e.pos; holding [v] (truthy v)) := by
  cases e with
  | UnaryOp o a p => cases o <;> first | rfl | simp [plainT] at h
  | BoolOp _ _ _ => simp [plainT] at h
  | IfExp _ _ _ _ => simp [plainT] at h
  | Compare _ _ _ _ => simp [plainT] at h
  | _ => rfl

/-- whose test has a rule -/
def tstB : E → Bool
  | .ite _ _ _ => false
  | .and a b => tstB a && tstB b
  | .or a b => tstB a && tstB b
  | .not a => tstB a
  | _ => true
/-! ### the checker -/
def opIs : Bop → Operator → Bool
  | .add, .Add => true | .sub, .Sub => true | .mul, .Mult => true | .fdiv, .FloorDiv => true | .mod, .Mod => true | .pow, .Pow => true | .shl, .LShift => true
  | _, _ => false
def copIs : Cop → CmpOp → Bool
  | .lt, .Lt => true | .le, .LtE => true | .gt, .Gt => true | .ge, .GtE => true | .eq, .Eq => true | .ne, .NotEq => true | .isN, .Is => true | .notN, .IsNot => true
  | _, _ => false
def cstD : Const → Option D
  | .none => some .non
  | .bool b => some (.bl b)
  | .int i => some (.int i)
  | .str x => some (.str x)
  | _ => none
def cstIs (c : Const) (d : D) : Bool := match cstD c with
  | some d' => D.beq d' d
  | none => false
def tyName : Ty → String
  | .int => "int" | .bool => "bool" | .str => "str" | .tuple => "tuple" | .list => "list" | .dict => "dict"
def biName : Bi → Option Str
  | .len => some "len" | .abs => some "abs" | .min2 => some "min" | .max2 => some "max"
  | _ => none
def isIsa : Bi → Option Ty
  | .isa t => some t
  | _ => none
section
variable (tx : Tx) (sc : Scope)
def cstsAre : List E → List D → Bool
  | [], [] => true
  | .c d :: es, d' :: ds => D.beq d d' && cstsAre es ds
  | _, _ => false
def isBlt (x : Str) : Bool := okN x && glB sc x && tx.blt.contains x
mutual
def ckE : E → Expr → Bool
  | .v i, x => match asName x with
    | some n => decide (tx.N[i]? = some n) && visB sc n && okN n
    | none => false
  | .c d, x => match asConst x with
    | some c => cstIs c d
    | none => match asName x with
      | some n => okN n && glB sc n && tx.gl.any fun p => decide (p.1 = n) && D.beq p.2 d
      | none => false
  | .tup es, x => match asTuple x with
    | some xs => ckEs es xs
    | none => false
  | .lstv f, x => ckF f x
  | .alloc f, x => ckF f x
  | .bin op a b, x => match asBin x with
    | some (l, o, r) => opIs op o && ckE a l && ckE b r
    | none => false
  | .neg a, x => match asUn x with
    | some (o, r) => decide (o = .USub) && ckE a r
    | none => false
  | .cmp op a b, x => match asCmp x with
    | some (l, o, r) => copIs op o && ckE a l && ckE b r && !isSet r
    | none => false
  | .chain op op' a b c, x => match asCmp2 x with
    | some (l, o, o', m, r) => copIs op o && copIs op' o' && ckE a l && ckE b m && ckE c r && !isSet r
    | none => false
  | .and a b, x => match asBool x with
    | some (o, l, r) => decide (o = .And) && ckE a l && ckE b r
    | none => false
  | .or a b, x => match asBool x with
    | some (o, l, r) => decide (o = .Or) && ckE a l && ckE b r
    | none => false
  | .not a, x => match asUn x with
    | some (o, r) => decide (o = .Not) && ckE a r
    | none => false
  | .ite t a b, x => match asIf x with
    | some (c, l, r) => (ckE t c && tstB t) && ckE a l && ckE b r
    | none => false
  | .idx a i, x => match asSub x with
    | some (l, r) => ckE a l && ckE i r && !isSlice r
    | none => false
  | .call f perm es, x => match asCall x with
    | some (n, xs, ks) => okN n && glB sc n && (match tx.fns[f]? with
      | some p => decide (p.1 = n)
      | none => false) && tx.shapes.any (fun sh => decide (sh.f = f) && decide (sh.np = xs.length) && decide (ks.map (·.arg) = sh.ks.map some) && decide (sh.perm = perm) &&
        cstsAre (es.drop (xs.length + ks.length)) sh.dfs) && ckEks es xs ks
    | none => false
  | .bi b es, x => match biName b with
    | some n => match asCall x with
      | some (m, xs, ks) => decide (n = m) && isBlt tx sc n && ks.isEmpty && ckEs es xs
      | none => false
    | none => match isIsa b with
      | some t => match asCall x with
        | some (m, [y, z], []) => decide (m = "isinstance") && isBlt tx sc m && (match asName z with
          | some n => decide (n = (tyName t : Str)) && isBlt tx sc n
          | none => false) && plainE z && ckEs es [y]
        | _ => false
      | none => match asMeth x with
        | some (o, m, []) => decide (m = "bit_length") && plainE o && ckEs es [o]
        | _ => false
def ckEs : List E → List Expr → Bool
  | [], [] => true
  | e :: es, x :: xs => ckE e x && plainE x && ckEs es xs
  | _, _ => false
/-- the arguments by places, then by keywords, then defaults -/
def ckEks : List E → List Expr → List Keyword → Bool
  | e :: es, x :: xs, ks => ckE e x && plainE x && ckEks es xs ks
  | e :: es, [], k :: ks => ckE e k.value && ckEks es [] ks
  | _, [], [] => true
  | [], _, _ => false
def ckF : F → Expr → Bool
  | .disp es, x => match asList x with
    | some xs => ckEs es xs
    | none => false
end
end

/-! ### soundness -/
theorem PE_imp {X : Cx} {e : Expr} {t t' : TE} (h : PE X e t) (i : ∀ σ H Q, t' σ H Q → t σ H Q) : PE X e t' := ⟨fun pins s σ H Q I q => h.run pins s σ H Q I (i σ H Q q)⟩
theorem PT_imp {X : Cx} {e : Expr} {t t' : TT} (h : PT X e t) (i : ∀ σ H Q, t' σ H Q → t σ H Q) : PT X e t' := ⟨fun pins s σ H Q I q => h.run pins s σ H Q I (i σ H Q q)⟩
theorem PW_imp {X : Cx} {e : Expr} {t t' : TT} (h : PW X e t) (i : ∀ σ H Q, t' σ H Q → t σ H Q) : PW X e t' := ⟨fun wh pins s σ H Q I q => h.run wh pins s σ H Q I (i σ H Q q)⟩
theorem PA_imp {X : Cx} {es : List Expr} {t t' : TA} (h : PA X es t) (i : ∀ σ H Q, t' σ H Q → t σ H Q) : PA X es t' := ⟨fun pos pins s σ H Q I q => h.run pos pins s σ H Q I (i σ H Q q)⟩
theorem PK_imp {X : Cx} {es : List Keyword} {t t' : TA} (h : PK X es t) (i : ∀ σ H Q, t' σ H Q → t σ H Q) : PK X es t' := ⟨fun pos pins s σ H Q I q => h.run pos pins s σ H Q I (i σ H Q q)⟩
section
variable {X : Cx} {tx : Tx} {sc : Scope} {T : List Fn} {k : Nat} {K : PySem.W.Frag} {g : G} {s : St} {σ : L2.St} {H : Hp}
/-- the reading of one part, then of the rest -/
theorem tE_use {m : St → M D} {P : G → D → Prop} {Q : VK} (r : Rel K g) (sl : Slots K g s σ) (h : Ok K g (m s) P) (i : ∀ g' d v, Rel K g' → Ext g g' → P g' d → Rep K g' d v → Q v g'.H) : tE K m σ g.H Q :=
  ⟨g, s, rfl, r, sl, h.mono fun g' d r' x' p v hv => i g' d v r' x' p hv⟩
theorem tA_use {m : St → M (List D)} {P : G → List D → Prop} {Q : List V → Hp → Prop} (r : Rel K g) (sl : Slots K g s σ) (h : Ok K g (m s) P) (i : ∀ g' ds vs, Rel K g' → Ext g g' → P g' ds → Reps K g' ds vs → Q vs g'.H) : tA K m σ g.H Q :=
  ⟨g, s, rfl, r, sl, h.mono fun g' d r' x' p v hv => i g' d v r' x' p hv⟩
theorem tT_use {m : St → M Bool} {P : G → Bool → Prop} {Q : Bool → Hp → Prop} (r : Rel K g) (sl : Slots K g s σ) (h : Ok K g (m s) P) (i : ∀ g' d, Rel K g' → Ext g g' → P g' d → Q d g'.H) : tT K m σ g.H Q :=
  ⟨g, s, rfl, r, sl, h.mono fun g' d r' x' p => i g' d r' x' p⟩

/-! operators -/
theorem shl_ok' {i j : Int} (h : shlOk i j = true) : CPow i j := by
  simp only [shlOk, Bool.and_eq_true, decide_eq_true_eq] at h
  exact ⟨h.1.1, by omega, h.2⟩
theorem intBits_lt {i : Int} {n : Nat} (h : i.natAbs < 2 ^ n) (hn : 0 < n) : Builtin.Int.intBits i ≤ n := by
  have hx := PySem.Flt.log2_lt_of hn h
  unfold Builtin.Int.intBits
  split <;> omega
theorem mulOk_ok {i j : Int} (h : mulOk i j = true) : IntMulOk i j := by
  simp only [mulOk, Bool.or_eq_true, Bool.and_eq_true, decide_eq_true_eq] at h
  rcases h with (h | h) | h
  · exact .of_left (intBits_lt h (by decide))
  · exact .of_right (intBits_lt h (by decide))
  · exact CMulW.ok (wide_mul h.1 h.2 (by decide) (by decide) (by decide))
def rMulI : R2 := fun x y H Q => ∃ i j, x = .int i ∧ y = .int j ∧ IntMulOk i j ∧ Q (.int (i * j)) H
theorem op_mulI : OpR X (binaryOp .Mult) (rI IntMulOk fun i j => .int (i * j)) := opI fun _ _ _ _ _ _ _ hc q => mul_int q hc
theorem divOk_ok {i j : Int} (h : divOk j = true) : CDivW i j := by
  simp only [divOk, Bool.and_eq_true, decide_eq_true_eq] at h
  exact wide_div h.1 h.2 (by decide) (by decide)
def CPowW (i j : Int) : Prop := 0 ≤ j ∧ (Builtin.Int.intBits i : Int) * j ≤ 2 ^ 27
theorem powOk_ok {i j : Int} (h : powOk i j = true) : CPowW i j := by
  simp only [powOk, Bool.and_eq_true, decide_eq_true_eq] at h
  obtain ⟨⟨h0, h1⟩, h2⟩ := h
  have hb := intBits_lt h2 (by decide)
  refine ⟨h0, ?_⟩
  have : (Builtin.Int.intBits i : Int) * j ≤ 250 * 100000 := Int.mul_le_mul (by omega) h1 h0 (by decide)
  exact Int.le_trans this (by decide)
theorem op_powW : OpR X (binaryOp .Pow) (rI CPowW fun i j => .int (i ^ j.toNat)) := opI fun _ _ _ _ _ _ _ hc q => pow_int hc.1 hc.2 q
/-- the operator's rule, its reading by data -/
theorem op_bin (op : Bop) (o : Operator) (h : opIs op o = true) : ∃ r, OpR X (binaryOp o) r ∧ ∀ (g : G) (a b d : D) (x y : V) (Q : VK), binD op a b = some d → Rel X.K g → Rep X.K g a x → Rep X.K g b y →
    (∀ g' v, g'.h = g.h → Rel X.K g' → Ext g g' → Rep X.K g' d v → Q v g'.H) → r x y g.H Q := by
  have two : ∀ {op : Bop} {a b d : D}, binD op a b = some d → ∃ i j, a = .int i ∧ b = .int j := by
    intro op a b d e
    cases op <;> cases a <;> cases b <;> first | (simp [binD] at e; done) | exact ⟨_, _, rfl, rfl⟩
  have fin : ∀ {g : G} {d : D} {v : V} {Q : VK}, Rel X.K g → Rep X.K g d v → (∀ g' v, g'.h = g.h → Rel X.K g' → Ext g g' → Rep X.K g' d v → Q v g'.H) → Q v g.H := fun r q i => i _ _ rfl r (Ext.refl _) q
  cases op <;> cases o <;> first | (simp [opIs] at h; done) | skip
  · refine ⟨_, op_add, fun g a b d x y Q e r ha hb q => ?_⟩
    obtain ⟨i, j, rfl, rfl⟩ := two e
    simp only [binD, Option.some.injEq] at e
    subst e
    exact ⟨i, j, rep_int.mp ha, rep_int.mp hb, fin r (rep_int.mpr rfl) q⟩
  · refine ⟨_, op_sub, fun g a b d x y Q e r ha hb q => ?_⟩
    obtain ⟨i, j, rfl, rfl⟩ := two e
    simp only [binD, Option.some.injEq] at e
    subst e
    exact ⟨i, j, rep_int.mp ha, rep_int.mp hb, fin r (rep_int.mpr rfl) q⟩
  · refine ⟨_, op_mulI, fun g a b d x y Q e r ha hb q => ?_⟩
    obtain ⟨i, j, rfl, rfl⟩ := two e
    simp only [binD] at e
    split at e
    · rename_i hc
      cases e
      exact ⟨i, j, rep_int.mp ha, rep_int.mp hb, mulOk_ok hc, fin r (rep_int.mpr rfl) q⟩
    · cases e
  · refine ⟨_, op_fdivW, fun g a b d x y Q e r ha hb q => ?_⟩
    obtain ⟨i, j, rfl, rfl⟩ := two e
    simp only [binD] at e
    split at e
    · rename_i hc
      cases e
      exact ⟨i, j, rep_int.mp ha, rep_int.mp hb, divOk_ok hc, fin r (rep_int.mpr rfl) q⟩
    · cases e
  · refine ⟨_, op_mod, fun g a b d x y Q e r ha hb q => ?_⟩
    obtain ⟨i, j, rfl, rfl⟩ := two e
    simp only [binD] at e
    split at e
    · rename_i hc
      cases e
      exact ⟨i, j, rep_int.mp ha, rep_int.mp hb, of_decide_eq_true hc, fin r (rep_int.mpr rfl) q⟩
    · cases e
  · refine ⟨_, op_powW, fun g a b d x y Q e r ha hb q => ?_⟩
    obtain ⟨i, j, rfl, rfl⟩ := two e
    simp only [binD] at e
    split at e
    · rename_i hc
      cases e
      exact ⟨i, j, rep_int.mp ha, rep_int.mp hb, powOk_ok hc, fin r (rep_int.mpr rfl) q⟩
    · cases e
  · refine ⟨_, op_shl, fun g a b d x y Q e r ha hb q => ?_⟩
    obtain ⟨i, j, rfl, rfl⟩ := two e
    simp only [binD] at e
    split at e
    · rename_i hc
      cases e
      exact ⟨i, j, rep_int.mp ha, rep_int.mp hb, shl_ok' hc, fin r (rep_int.mpr rfl) q⟩
    · cases e
theorem isNon_rep {a : D} {x : V} (h : Rep K g a x) : isNon a = decide (x = .non) := by
  cases a <;> simp only [Rep] at h
  · subst h; rfl
  · subst h; rfl
  · subst h; rfl
  · subst h; rfl
  · obtain ⟨_, _, rfl, _⟩ := h; rfl
  · obtain ⟨_, _, rfl, _⟩ := h; rfl
  · rw [h.2]; rfl
theorem eqD_ok {a b : D} {k : Bool} {x y : V} (e : eqD a b = some k) (ha : Rep K g a x) (hb : Rep K g b y) : scal x y = true ∧ k = decide (x = y) := by
  cases a <;> cases b <;> simp only [eqD, Option.some.injEq] at e <;> first | (cases e; done) | skip
  all_goals
    simp only [Rep] at ha hb
    subst ha hb e
    refine ⟨rfl, ?_⟩
    first
      | rfl
      | (rw [dec_bl])
      | (rename_i i j; by_cases z : i = j <;> simp [z])
/-- a comparison's rule -/
theorem op_cmp (op : Cop) (o : CmpOp) (h : copIs op o = true) : ∃ r, OpR X (compareOp o) r ∧ ∀ (g : G) (a b : D) (k : Bool) (x y : V) (Q : VK), cmpD op a b = some k → Rep X.K g a x → Rep X.K g b y → Q (.bl k) g.H → r x y g.H Q := by
  have two : ∀ {op : Cop} {a b : D} {k : Bool}, (op = .lt ∨ op = .le ∨ op = .gt ∨ op = .ge) → cmpD op a b = some k → ∃ i j, a = .int i ∧ b = .int j := by
    intro op a b k z e
    rcases z with rfl | rfl | rfl | rfl <;> cases a <;> cases b <;> first | (simp [cmpD] at e; done) | exact ⟨_, _, rfl, rfl⟩
  cases op <;> cases o <;> first | (simp [copIs] at h; done) | skip
  · refine ⟨_, op_lt, fun g a b k x y Q e ha hb q => ?_⟩
    obtain ⟨i, j, rfl, rfl⟩ := two (by simp) e
    simp only [cmpD, Option.some.injEq] at e
    subst e
    exact ⟨i, j, rep_int.mp ha, rep_int.mp hb, q⟩
  · refine ⟨_, op_le, fun g a b k x y Q e ha hb q => ?_⟩
    obtain ⟨i, j, rfl, rfl⟩ := two (by simp) e
    simp only [cmpD, Option.some.injEq] at e
    subst e
    exact ⟨i, j, rep_int.mp ha, rep_int.mp hb, q⟩
  · refine ⟨_, op_gt, fun g a b k x y Q e ha hb q => ?_⟩
    obtain ⟨i, j, rfl, rfl⟩ := two (by simp) e
    simp only [cmpD, Option.some.injEq] at e
    subst e
    exact ⟨i, j, rep_int.mp ha, rep_int.mp hb, q⟩
  · refine ⟨_, op_ge, fun g a b k x y Q e ha hb q => ?_⟩
    obtain ⟨i, j, rfl, rfl⟩ := two (by simp) e
    simp only [cmpD, Option.some.injEq] at e
    subst e
    exact ⟨i, j, rep_int.mp ha, rep_int.mp hb, q⟩
  · refine ⟨_, op_eq, fun g a b k x y Q e ha hb q => ?_⟩
    simp only [cmpD] at e
    obtain ⟨e1, e2⟩ := eqD_ok e ha hb
    subst e2
    exact ⟨e1, q⟩
  · refine ⟨_, op_ne, fun g a b k x y Q e ha hb q => ?_⟩
    simp only [cmpD, Option.map_eq_some_iff] at e
    obtain ⟨k', e, rfl⟩ := e
    obtain ⟨e1, e2⟩ := eqD_ok e ha hb
    subst e2
    exact ⟨e1, q⟩
  · refine ⟨_, op_isN, fun g a b k x y Q e ha hb q => ?_⟩
    cases b <;> first | (simp [cmpD] at e; done) | skip
    simp only [cmpD, Option.some.injEq] at e
    subst e
    exact ⟨rep_non.mp hb, by rw [← isNon_rep ha]; exact q⟩
  · refine ⟨_, op_notN, fun g a b k x y Q e ha hb q => ?_⟩
    cases b <;> first | (simp [cmpD] at e; done) | skip
    simp only [cmpD, Option.some.injEq] at e
    subst e
    exact ⟨rep_non.mp hb, by rw [← isNon_rep ha]; exact q⟩
end
end Iv

set_option maxHeartbeats 4000000
/-! SndE: expressions. -/
namespace Iv
open PySem L2 PySem.Spec PyProof.Rows
section
variable {X : Cx} {tx : Tx} {sc : Scope} {T : List Fn} {k : Nat} {K : PySem.W.Frag} {g : G} {s : St} {σ : L2.St} {H : Hp}
theorem seq_rep {d : D} {ds : List D} {v : V} (e : seqOf g.h d = some ds) (r : Rel K g) (h : Rep K g d v) : ∃ a xs, v = .ref a ∧ (SqL K g.H a xs ∨ SqT K g.H a xs) ∧ Reps K g ds xs := by
  cases d with
  | lst es =>
    simp only [seqOf, Option.some.injEq] at e
    subst e
    obtain ⟨a, xs, rfl, q, rs⟩ := rep_lst.mp h
    refine ⟨a, xs, rfl, .inl ?_, rs⟩
    rcases q with ⟨q, _⟩ | q
    · exact .inl q
    · exact .inr q
  | tup es =>
    simp only [seqOf, Option.some.injEq] at e
    subst e
    obtain ⟨a, xs, rfl, q, rs⟩ := rep_tup.mp h
    exact ⟨a, xs, rfl, .inr q, rs⟩
  | ref n =>
    obtain ⟨_, rfl⟩ := rep_ref.mp h
    simp only [seqOf] at e
    split at e
    · rename_i es he
      cases e
      obtain ⟨_, xs, e1, rs⟩ := r.obj n _ he
      exact ⟨_, xs, rfl, .inl (.of e1), rs⟩
    · cases e
  | _ => simp [seqOf] at e
theorem atI_rep {ds : List D} {xs : List V} {i : Int} {d : D} (rs : Reps K g ds xs) (e : L2.atI ds i = some d) : ∃ v, L2.atI xs i = some v ∧ Rep K g d v := by
  unfold L2.atI at e ⊢
  rw [← rs.length]
  cases z : L2.ixN ds.length i with
  | none => rw [z] at e; cases e
  | some j =>
    rw [z] at e
    exact rs.get e
theorem semEs_len {C : Cal} : ∀ {es : List E} {s : St} {h h' : AH} {ds : List D}, semEs C es s h = some (ds, h') → ds.length = es.length
  | [], s, h, h', ds, e => by
    simp only [semEs, ret, Option.some.injEq, Prod.mk.injEq] at e
    rw [← e.1]; rfl
  | a :: es, s, h, h', ds, e => by
    simp only [semEs, bnd] at e
    split at e
    · rename_i d h1 e1
      split at e
      · rename_i ds' h2 e2
        simp only [ret, Option.some.injEq, Prod.mk.injEq] at e
        rw [← e.1]
        simp [semEs_len e2]
      · cases e
    · cases e
/-- a type of the model for data -/
theorem tyX_rep {d : D} {t : Ty} {v : V} (r : Rel K g) (e : tyOf g.h d = some t) (h : Rep K g d v) : TyX K g.H v (.type (tyName t)) := by
  cases d with
  | non => simp [tyOf] at e
  | bl b =>
    simp only [tyOf, Option.some.injEq] at e
    subst e
    rw [rep_bl.mp h]
    exact .base (.bl b)
  | int b =>
    simp only [tyOf, Option.some.injEq] at e
    subst e
    rw [rep_int.mp h]
    exact .base (.int b)
  | str b =>
    simp only [tyOf, Option.some.injEq] at e
    subst e
    rw [rep_str.mp h]
    exact .base (.str b)
  | tup ds =>
    simp only [tyOf, Option.some.injEq] at e
    subst e
    obtain ⟨a, xs, rfl, q, _⟩ := rep_tup.mp h
    rcases q with (q | ⟨o, q⟩) | ⟨o, its, n, q, c, _⟩
    · exact .base (.tup q)
    · exact .fTuple q
    · exact .kTuple q c
  | lst ds =>
    simp only [tyOf, Option.some.injEq] at e
    subst e
    obtain ⟨a, xs, rfl, q, _⟩ := rep_lst.mp h
    rcases q with ⟨q | ⟨o, q⟩, _⟩ | ⟨o, its, n, q, c, _⟩
    · exact .base (.lst q)
    · exact .base (.frz q)
    · exact .kList q c
  | dct _ _ => simp [tyOf] at e
  | ref n =>
    obtain ⟨_, rfl⟩ := rep_ref.mp h
    simp only [tyOf] at e
    split at e
    · rename_i es he
      cases e
      obtain ⟨_, xs, e1, _⟩ := r.obj n _ he
      exact .base (.lst e1)
    · cases e
theorem isa_kit (t c : Ty) : kitB (tyName t) (tyName c) = some (isaB t c) := by
  cases t <;> cases c <;> decide +kernel
theorem isa_non (c : Ty) : kitB "NoneType" (tyName c) = some false := by
  cases c <;> decide +kernel
theorem plain_back {pos : Pos} {env : Env} : ∀ {es : List Expr}, es.all plainE = true → (backTo pos (starEach es env)).any (·.1) = false
  | [], _ => rfl
  | e :: es, h => by
    rw [List.all_cons, Bool.and_eq_true] at h
    rw [star_cons h.1]
    show (false || (backTo pos (starEach es env)).any (·.1)) = false
    rw [plain_back h.2]
    rfl
theorem ckEs_plain : ∀ {es : List E} {xs : List Expr}, ckEs tx sc es xs = true → xs.all plainE = true ∧ es.length = xs.length
  | [], [], _ => ⟨rfl, rfl⟩
  | [], x :: xs, h => by simp [ckEs] at h
  | e :: es, [], h => by simp [ckEs] at h
  | e :: es, x :: xs, h => by
    simp only [ckEs, Bool.and_eq_true] at h
    obtain ⟨h1, h2⟩ := ckEs_plain h.2
    exact ⟨by rw [List.all_cons, h.1.2, h1]; rfl, by simp [h2]⟩
theorem isBlt_ok (L : Lk X tx T k) (A : At X tx sc) {x : Str} (h : isBlt tx sc x = true) : okN x = true ∧ Gl X x ∧ X.mg x = none := by
  simp only [isBlt, Bool.and_eq_true] at h
  refine ⟨h.1.1, ?_, L.blt x (by simpa using h.2)⟩
  have q := h.1.2
  simp only [glB, decide_eq_true_eq] at q
  show X.env.scope.names.lookup x = _
  rw [A.hsc]
  exact q
/-- a built-in called -/
theorem pe_bi (L : Lk X tx T k) (A : At X tx sc) {b : Bi} {n : Str} (hb : biName b = some n) : ∃ id r, bootBuiltins n = some (.builtin id) ∧ CallR X (.builtin id) r ∧
    ∀ (g : G) (ds : List D) (d : D) (vs : List V) (Q : VK), biD g.h b ds = some d → Rel X.K g → Reps X.K g ds vs → (∀ v, Rep X.K g d v → Q v g.H) → r vs g.H Q := by
  cases b <;> simp only [biName, Option.some.injEq] at hb <;> first | (cases hb; done) | subst hb
  · refine ⟨"len", _, by decide +kernel, call_len_seq, fun g ds d vs Q e r rs q => ?_⟩
    match ds, e with
    | [x], e =>
      simp only [biD, Option.map_eq_some_iff] at e
      obtain ⟨es, e1, rfl⟩ := e
      simp only [Reps] at rs
      obtain ⟨y, ys, rfl, h1, rfl⟩ := rs
      obtain ⟨a, xs, rfl, hs, rs⟩ := seq_rep e1 r h1
      exact ⟨a, xs, rfl, hs, q _ (rep_int.mpr (by rw [rs.length]))⟩
  · refine ⟨"abs", _, by decide +kernel, call_abs, fun g ds d vs Q e r rs q => ?_⟩
    match ds, e with
    | [.int i], e =>
      simp only [biD, Option.some.injEq] at e
      subst e
      simp only [Reps] at rs
      obtain ⟨y, ys, rfl, h1, rfl⟩ := rs
      rw [rep_int.mp h1]
      exact ⟨i, rfl, q _ (rep_int.mpr rfl)⟩
  · refine ⟨"min", _, by decide +kernel, call_min2 L.calm, fun g ds d vs Q e r rs q => ?_⟩
    match ds, e with
    | [.int i, .int j], e =>
      simp only [biD, Option.some.injEq] at e
      subst e
      simp only [Reps] at rs
      obtain ⟨y, ys, rfl, h1, z, zs, rfl, h2, rfl⟩ := rs
      rw [rep_int.mp h1, rep_int.mp h2]
      exact ⟨i, j, rfl, q _ (rep_int.mpr rfl)⟩
  · refine ⟨"max", _, by decide +kernel, call_max2 L.calm, fun g ds d vs Q e r rs q => ?_⟩
    match ds, e with
    | [.int i, .int j], e =>
      simp only [biD, Option.some.injEq] at e
      subst e
      simp only [Reps] at rs
      obtain ⟨y, ys, rfl, h1, z, zs, rfl, h2, rfl⟩ := rs
      rw [rep_int.mp h1, rep_int.mp h2]
      exact ⟨i, j, rfl, q _ (rep_int.mpr rfl)⟩
theorem ty_boot (t : Ty) : bootBuiltins (tyName t : Str) = some (.type (tyName t)) := by
  cases t <;> decide +kernel

/-! the call of a def -/
theorem semEs_append {C : Cal} : ∀ (a b : List E) (s : St), semEs C (a ++ b) s = bnd (semEs C a s) fun x => bnd (semEs C b s) fun y => ret (x ++ y)
  | [], b, s => by
    funext h
    simp only [List.nil_append, semEs, bnd, ret]
    cases semEs C b s h with
    | none => rfl
    | some p => rfl
  | e :: a, b, s => by
    funext h
    simp only [List.cons_append, semEs, semEs_append a b s, bnd, ret]
    cases semE C e s h with
    | none => rfl
    | some p =>
      obtain ⟨d, h1⟩ := p
      simp only []
      cases semEs C a s h1 with
      | none => rfl
      | some p =>
        obtain ⟨ds, h2⟩ := p
        simp only []
        cases semEs C b s h2 with
        | none => rfl
        | some p => rfl
theorem semEs_csts {C : Cal} : ∀ {es : List E} {ds : List D} {s : St}, cstsAre es ds = true → semEs C es s = ret ds
  | [], [], s, _ => rfl
  | [], d :: ds, s, h => by simp [cstsAre] at h
  | .c d :: es, [], s, h => by simp [cstsAre] at h
  | .c d :: es, d' :: ds, s, h => by
    simp only [cstsAre, Bool.and_eq_true] at h
    rw [D.beq_eq h.1]
    funext hp
    simp only [semEs, semE, semEs_csts h.2, bnd, ret]
  | .v _ :: _, _, _, h => by simp [cstsAre] at h
  | .tup _ :: _, _, _, h => by simp [cstsAre] at h
  | .lstv _ :: _, _, _, h => by simp [cstsAre] at h
  | .alloc _ :: _, _, _, h => by simp [cstsAre] at h
  | .bin _ _ _ :: _, _, _, h => by simp [cstsAre] at h
  | .neg _ :: _, _, _, h => by simp [cstsAre] at h
  | .cmp _ _ _ :: _, _, _, h => by simp [cstsAre] at h
  | .chain _ _ _ _ _ :: _, _, _, h => by simp [cstsAre] at h
  | .and _ _ :: _, _, _, h => by simp [cstsAre] at h
  | .or _ _ :: _, _, _, h => by simp [cstsAre] at h
  | .not _ :: _, _, _, h => by simp [cstsAre] at h
  | .ite _ _ _ :: _, _, _, h => by simp [cstsAre] at h
  | .idx _ _ :: _, _, _, h => by simp [cstsAre] at h
  | .call _ _ _ :: _, _, _, h => by simp [cstsAre] at h
  | .bi _ _ :: _, _, _, h => by simp [cstsAre] at h
/-- the arguments in three parts -/
theorem ckEks_split : ∀ (es : List E) (xs : List Expr) (ks : List Keyword), ckEks tx sc es xs ks = true → ∃ a b c, es = a ++ b ++ c ∧ a.length = xs.length ∧ b.length = ks.length ∧ c = es.drop (xs.length + ks.length)
  | es, [], [], _ => ⟨[], [], es, by simp, rfl, rfl, by simp⟩
  | [], x :: xs, ks, h => by simp [ckEks] at h
  | [], [], k :: ks, h => by simp [ckEks] at h
  | e :: es, x :: xs, ks, h => by
    simp only [ckEks, Bool.and_eq_true] at h
    obtain ⟨a, b, c, h1, h2, h3, h4⟩ := ckEks_split es xs ks h.2
    refine ⟨e :: a, b, c, by rw [h1]; rfl, by simp [h2], h3, ?_⟩
    rw [h4]
    simp [Nat.add_right_comm]
  | e :: es, [], k :: ks, h => by
    simp only [ckEks, Bool.and_eq_true] at h
    obtain ⟨a, b, c, h1, h2, h3, h4⟩ := ckEks_split es [] ks h.2
    have ea : a = [] := List.length_eq_zero_iff.mp h2
    subst ea
    refine ⟨[], e :: b, c, by rw [h1]; rfl, rfl, by simp [h3], ?_⟩
    rw [h4]
    simp [Nat.add_comm]
theorem kw_all {pos : Pos} {env : Env} : ∀ {ks : List Keyword} {ns : List Str}, ks.map (·.arg) = ns.map some →
    (backToKw pos (keywordEach ks env)).all (·.1.isSome) = true ∧ (backToKw pos (keywordEach ks env)).filterMap (·.1) = ns ∧ (backToKw pos (keywordEach ks env)).any (·.1.isNone) = false
  | [], [], _ => ⟨rfl, rfl, rfl⟩
  | [], n :: ns, h => by simp at h
  | k :: ks, [], h => by simp at h
  | ⟨a, v, p⟩ :: ks, n :: ns, h => by
    simp only [List.map_cons, List.cons.injEq] at h
    obtain ⟨rfl, h⟩ := h
    obtain ⟨h1, h2, h3⟩ := kw_all (pos := pos) (env := env) h
    refine ⟨?_, ?_, ?_⟩
    · show (true && (backToKw pos (keywordEach ks env)).all (·.1.isSome)) = true
      rw [h1]; rfl
    · show n :: (backToKw pos (keywordEach ks env)).filterMap (·.1) = n :: ns
      rw [h2]
    · show (false || (backToKw pos (keywordEach ks env)).any (·.1.isNone)) = false
      rw [h3]; rfl
theorem Reps.getD {ds : List D} {vs : List V} (rs : Reps K g ds vs) {i : Nat} (h : i < ds.length) : Rep K g (ds.getD i .non) (vs.getD i .non) := by
  have e : ds[i]? = some ds[i] := List.getElem?_eq_getElem h
  obtain ⟨v, e1, q⟩ := rs.get e
  rw [List.getD_eq_getElem?_getD, List.getD_eq_getElem?_getD, e, e1]
  exact q
theorem Vals.getD {vs : List V} {us : List Value} (r : Vals vs us) {i : Nat} (h : i < vs.length) : RelV (vs.getD i .non) (us.getD i .none) := by
  have e : vs[i]? = some vs[i] := List.getElem?_eq_getElem h
  obtain ⟨u, e1, q⟩ := L2.Vals.get r e
  rw [List.getD_eq_getElem?_getD, List.getD_eq_getElem?_getD, e, e1]
  exact q
theorem reps_perm {ds : List D} {vs : List V} (rs : Reps K g ds vs) : ∀ {perm : List Nat}, (∀ i ∈ perm, i < ds.length) → Reps K g (perm.map fun i => ds.getD i .non) (perm.map fun i => vs.getD i .non)
  | [], _ => Reps.nil
  | i :: p, h => Reps.cons (rs.getD (h i List.mem_cons_self)) (reps_perm rs fun j hj => h j (List.mem_cons_of_mem _ hj))
theorem vals_perm {vs : List V} {us : List Value} (r : Vals vs us) : ∀ {perm : List Nat}, (∀ i ∈ perm, i < vs.length) → Vals (perm.map fun i => vs.getD i .non) (perm.map fun i => us.getD i .none)
  | [], _ => .nil
  | i :: p, h => .cons (Vals.getD r (h i List.mem_cons_self)) (vals_perm r fun j hj => h j (List.mem_cons_of_mem _ hj))
/-- f(e, .., k = v, ..) of a def of the text -/
theorem pe_defcall (L : Lk X tx T k) (A : At X tx sc) {f : Nat} {perm : List Nat} {es : List E} {n : Str} {xs : List Expr} {ks : List Keyword} {q p : Pos} {ps : List Str} {sh : Shape}
    (hn : okN n = true) (hg : glB sc n = true) (hf : tx.fns[f]? = some (n, ps)) (hsh : sh ∈ tx.shapes) (hs1 : sh.f = f) (hs2 : sh.np = xs.length) (hs3 : ks.map (·.arg) = sh.ks.map some) (hs4 : sh.perm = perm)
    {a b c : List E} (he : es = a ++ b ++ c) (ha : a.length = xs.length) (hb : b.length = ks.length) (hc : cstsAre c sh.dfs = true)
    (hpl : xs.all plainE = true) (hA : PA X xs (tA X.K (semEs (run T k) a))) (hB : PK X ks (tA X.K (semEs (run T k) b))) :
    PE X (.Call (.Name n q) xs ks p) (tE X.K (semE (run T k) (.call f perm es))) := by
  obtain ⟨fa, fd, hm, hk, F, hnp, hshs⟩ := L.fn f n ps hf
  have S := hshs sh hsh hs1
  obtain ⟨dvs, dus, hdv, hdu, hbind⟩ := S.ex
  have hgl : Gl X n := by
    simp only [glB, decide_eq_true_eq] at hg
    show X.env.scope.names.lookup n = _
    rw [A.hsc]; exact hg
  obtain ⟨kw1, kw2, kw3⟩ := kw_all (pos := p) (env := X.env) hs3
  refine ⟨fun pins s σ H Q I h => ?_⟩
  obtain ⟨g, st, rfl, r, sl, h⟩ := h
  refine wpAny_Call_Name_kw (ld_glob I hgl hm ?_ (okN_d hn))
  have e0 : semE (run T k) (.call f perm es) st = bnd (semEs (run T k) a st) fun x => bnd (semEs (run T k) b st) fun y => run T k f (perm.map fun i => ((x ++ y) ++ sh.dfs).getD i .non) := by
    rw [he]
    simp only [semE]
    funext h0
    simp only [semEs_append, semEs_csts hc, bnd, ret]
    cases semEs (run T k) a st h0 with
    | none => rfl
    | some p1 =>
      obtain ⟨x, h1⟩ := p1
      simp only []
      cases semEs (run T k) b st h1 with
      | none => rfl
      | some p2 => rfl
  have h' : Ok X.K g (semE (run T k) (.call f perm es) st) fun g' d => ∀ v, Rep X.K g' d v → Q v g'.H := h
  rw [e0] at h'
  have h1 := h'.bnd
  -- the end: both parts are there
  have last : ∀ (g2 : G) (x y : List D) (vs zs : List V) (us ws : List Value) (s2 : Shared), Rel X.K g2 → x.length = a.length → y.length = b.length → Reps X.K g2 x vs → Reps X.K g2 y zs → Vals vs us → Vals zs ws → Inv X pins σ g2.H s2 →
      Ok X.K g2 (run T k f (perm.map fun i => ((x ++ y) ++ sh.dfs).getD i .non)) (fun g' d => ∀ v, Rep X.K g' d v → Q v g'.H) →
      wpAny (model X.prog X.w) X.A (call (.ref fa) us (sh.ks.zip ws)) (EP X pins σ Q) X.xe s2 := by
    intro g2 x y vs zs us ws s2 r2 lx ly rx ry vx vy I2 hq
    have lus : us.length = sh.np := by rw [← vx.length, ← rx.length, lx, ha, hs2]
    have lks : ks.length = sh.ks.length := by simpa using congrArg List.length hs3
    have lws : ws.length = sh.ks.length := by rw [← vy.length, ← ry.length, ly, hb, lks]
    have rall : Reps X.K g2 ((x ++ y) ++ sh.dfs) ((vs ++ zs) ++ dvs) := (rx.append ry).append (hdv g2)
    have vall : Vals ((vs ++ zs) ++ dvs) ((us ++ ws) ++ dus) := (vx.append vy).append hdu
    have lt1 : ∀ i ∈ perm, i < ((x ++ y) ++ sh.dfs).length := fun i hi => by
      have q := S.lt i (by rw [hs4]; exact hi)
      rw [List.length_append, List.length_append, lx, ly, ha, hb, ← hs2, lks]
      exact q
    have lt2 : ∀ i ∈ perm, i < ((vs ++ zs) ++ dvs).length := fun i hi => by rw [← rall.length]; exact lt1 i hi
    have rp := reps_perm rall lt1
    have vp := vals_perm vall lt2
    have lps : perm.length = ps.length := by rw [← hs4]; exact S.len
    have bt := hbind s2 us ws I2.kIn lus lws
    rw [hs4] at bt
    have sp : spOf X.K T k f (perm.map fun i => ((vs ++ zs) ++ dvs).getD i .non) g2.H Q E0 := ⟨g2, _, rfl, r2, rp, by rw [List.length_map, lps, hnp], hq⟩
    refine wpAny_call (codeAny_mono (F.run X.A X.stack s2 g2.H ⟨us, sh.ks.zip ws⟩ _ _ Q E0 L.room I2.env0 bt vp sp) fun r' s' hq' => ?_)
    cases r' with
    | error e => exact False.elim hq'
    | ok fl =>
      cases fl with
      | ret u => exact I2.after hq'
      | next => exact False.elim hq'
      | brk => exact False.elim hq'
      | cont => exact False.elim hq'
  have lenA : ∀ {st : St} {h h' : AH} {ds : List D}, semEs (run T k) a st h = some (ds, h') → ds.length = a.length := fun e => semEs_len e
  -- positional part, then keywords
  have kwpart : ∀ (g1 : G) (x : List D) (vs : List V) (us : List Value) (s1 : Shared), Rel X.K g1 → Ext g g1 → x.length = a.length → Reps X.K g1 x vs → Vals vs us → Inv X pins σ g1.H s1 →
      Ok X.K g1 (bnd (semEs (run T k) b st) fun y => run T k f (perm.map fun i => ((x ++ y) ++ sh.dfs).getD i .non)) (fun g' d => ∀ v, Rep X.K g' d v → Q v g'.H) →
      wpAny (model X.prog X.w) X.A (evalAll ((backToKw p (keywordEach ks X.env)).map (·.2))) (fun ws s2 => X.K.In s2.heap ∧ wpAny (model X.prog X.w) X.A (call (.ref fa) us (((backToKw p (keywordEach ks X.env)).filterMap (·.1)).zip ws)) (EP X pins σ Q) X.xe s2) X.xe s1 := by
    intro g1 x vs us s1 r1 x1 lx rx vx I1 hq
    have hq' := hq.bnd
    have ly0 : ∃ y h2, semEs (run T k) b st g1.h = some (y, h2) := by
      obtain ⟨y, h2, e, _⟩ := hq'
      exact ⟨y, h2, e⟩
    obtain ⟨y0, h20, ey0⟩ := ly0
    have ly := semEs_len ey0
    refine thn (hB.run p pins s1 σ g1.H (fun zs H2 => ∃ g2 : G, g2.H = H2 ∧ Rel X.K g2 ∧ Ext g1 g2 ∧ Reps X.K g2 y0 zs ∧ Ok X.K g2 (run T k f (perm.map fun i => ((x ++ y0) ++ sh.dfs).getD i .non)) (fun g' d => ∀ v, Rep X.K g' d v → Q v g'.H)) I1 ?_) ?_
    · refine ⟨g1, st, rfl, r1, sl.ext r x1, ?_⟩
      obtain ⟨y, h2, e, q⟩ := hq'
      have e' := ey0.symm.trans e
      simp only [Option.some.injEq, Prod.mk.injEq] at e'
      obtain ⟨rfl, rfl⟩ := e'
      exact ⟨y0, h20, ey0, fun w' H' r' x' zs hz => ⟨_, rfl, r', x', hz, q w' H' r' x'⟩⟩
    · intro ws s2 ⟨zs, H2, I2, vy, g2, e2, r2, x2, ry, hq2⟩
      subst e2
      rw [kw2]
      exact ⟨I2.kIn, last g2 x y0 vs zs us ws s2 r2 lx ly (Reps.ext r1 x2 x rx) ry vx vy I2 hq2⟩
  cases xs with
  | nil =>
    have ea : a = [] := List.length_eq_zero_iff.mp ha
    subst ea
    have h2 := Ok.ret r h1
    have kk := kwpart g [] [] [] s r (Ext.refl g) rfl Reps.nil .nil I h2
    refine PySem.W.callWith_KW0 (h₀ := X.base) I.ok.mod.kin hk kw1 (thn kk fun ws s2 hh => ?_) (by show (false || _) = false; rw [kw3]; rfl)
    exact hh
  | cons e0' xs' =>
    have hp0 : plainE e0' = true := by simp only [List.all_cons, Bool.and_eq_true] at hpl; exact hpl.1
    refine PySem.W.callWith_KW (h₀ := X.base) I.ok.mod.kin hk kw1 ?_ (by rw [plain_back hpl, kw3]; rfl) (star_cons hp0)
    obtain ⟨x0, h10, ex0, qx0⟩ := h1
    have lx := semEs_len ex0
    refine thn (hA.run p pins s σ g.H (fun vs H1 => ∃ g1 : G, g1.H = H1 ∧ Rel X.K g1 ∧ Ext g g1 ∧ Reps X.K g1 x0 vs ∧ Ok X.K g1 (bnd (semEs (run T k) b st) fun y => run T k f (perm.map fun i => ((x0 ++ y) ++ sh.dfs).getD i .non)) (fun g' d => ∀ v, Rep X.K g' d v → Q v g'.H)) I ?_) ?_
    · exact ⟨g, st, rfl, r, sl, x0, h10, ex0, fun w' H' r' x' vs hv => ⟨_, rfl, r', x', hv, qx0 w' H' r' x'⟩⟩
    · intro us s1 ⟨vs, H1, I1, vx, g1, e1, r1, x1, rx, hq1⟩
      subst e1
      exact kwpart g1 x0 vs us s1 r1 x1 lx rx vx I1 hq1
end
end Iv

set_option maxHeartbeats 4000000
/-! SndM: every expression that the checker takes. -/
namespace Iv
open PySem L2 PySem.Spec PyProof.Rows
def semB (C : Cal) (e : E) (s : St) : M Bool := bnd (semE C e s) fun d => opt (tBl d)
section
variable {X : Cx} {tx : Tx} {sc : Scope} {T : List Fn} {k : Nat}
/-- what is shown of an expression: its value; its test; its test within and, or -/
structure EOk (X : Cx) (T : List Fn) (k : Nat) (e : E) (x : Expr) : Prop where
  val : PE X x (tE X.K (semE (run T k) e))
  tst : tstB e = true → PT X x (tT X.K (semB (run T k) e))
  bl : tstB e = true → (∃ o l p, x = .BoolOp o l p) → PW X x (tT X.K (semB (run T k) e))
theorem tst_of {e : E} {x : Expr} (h : PE X x (tE X.K (semE (run T k) e))) (hp : plainT x = true) : PT X x (tT X.K (semB (run T k) e)) := by
  refine PT_imp (pt_val h (isTrue_ok hp)) fun σ H Q q => ?_
  obtain ⟨g, s, rfl, r, sl, q⟩ := q
  refine tE_use r sl q.bnd fun g' d v r' x' p hv => ?_
  obtain ⟨b, e1, p⟩ := p.opt
  cases d <;> simp only [tBl] at e1 <;> first | (cases e1; done) | skip
  cases e1
  exact ⟨_, rep_bl.mp hv, Ok.ret r' p⟩
theorem EOk.plain {e : E} {x : Expr} (h : PE X x (tE X.K (semE (run T k) e))) (hp : plainT x = true) (hb : ¬ ∃ o l p, x = .BoolOp o l p) : EOk X T k e x :=
  ⟨h, fun _ => tst_of h hp, fun _ q => absurd q hb⟩
theorem vis_at (A : At X tx sc) {n : Str} (h : visB sc n = true) : Vis X.env.scope n := by rw [A.hsc]; exact visB_ok h
theorem gl_at (A : At X tx sc) {n : Str} (h : glB sc n = true) : Gl X n := by
  simp only [glB, decide_eq_true_eq] at h
  show X.env.scope.names.lookup n = _
  rw [A.hsc]; exact h
/-- and, or: the value, the test, from both parts -/
theorem and_ok {a b : E} {l r x : Expr} (hx : asBool x = some (.And, l, r)) (ha : EOk X T k a l) (hb : EOk X T k b r) : EOk X T k (.and a b) x := by
  have val0 : ∀ {σ : L2.St} {H : Hp} {Q : VK}, tE X.K (semE (run T k) (.and a b)) σ H Q → tAndV (tE X.K (semE (run T k) a)) (tE X.K (semE (run T k) b)) σ H Q := by
    intro σ H Q q
    obtain ⟨g, s, rfl, r0, sl, q⟩ := q
    refine tE_use r0 sl q.bnd fun g' d v r' x' p hv => ?_
    obtain ⟨c, e1, p2⟩ := p.optb
    cases d <;> simp only [tBl] at e1 <;> first | (cases e1; done) | skip
    cases e1
    rw [rep_bl.mp hv]
    refine ⟨_, rfl, ?_⟩
    split
    · rename_i hc
      rw [if_pos hc] at p2
      exact ⟨g', s, rfl, r', sl.ext r0 x', p2⟩
    · rename_i hc
      rw [if_neg hc] at p2
      exact Ok.ret r' p2 _ (rep_bl.mpr rfl)
  have tst0 : ∀ {σ : L2.St} {H : Hp} {Q : Bool → Hp → Prop}, tT X.K (semB (run T k) (.and a b)) σ H Q → tAnd (tT X.K (semB (run T k) a)) (tT X.K (semB (run T k) b)) σ H Q := by
    intro σ H Q q
    obtain ⟨g, s, rfl, r0, sl, q⟩ := q
    have e0 : semB (run T k) (.and a b) s = bnd (semB (run T k) a s) fun c => if c = true then semB (run T k) b s else ret false := by
      funext h0
      simp only [semB, semE, bnd, opt]
      cases semE (run T k) a s h0 with
      | none => rfl
      | some p =>
        obtain ⟨d, h1⟩ := p
        simp only []
        cases tBl d with
        | none => rfl
        | some c => cases c <;> rfl
    rw [e0] at q
    refine tT_use r0 sl q.bnd fun g' c r' x' p => ?_
    split
    · rename_i hc
      rw [if_pos hc] at p
      exact ⟨g', s, rfl, r', sl.ext r0 x', p⟩
    · rename_i hc
      rw [if_neg hc] at p
      exact Ok.ret r' p
  rcases asBool_eq hx with ⟨p, rfl⟩ | ⟨b', c, rr, p, rfl, rfl⟩
  · refine ⟨PE_imp (pe_and ha.val (pe_one hb.val)) fun σ H Q q => val0 q, fun ht => ?_, fun ht _ => ?_⟩
    · simp only [tstB, Bool.and_eq_true] at ht
      exact PT_imp (PW.pt (pw_and (ha.tst ht.1) (pw_and1 (hb.tst ht.2)))) fun σ H Q q => tst0 q
    · simp only [tstB, Bool.and_eq_true] at ht
      exact PW_imp (pw_and (ha.tst ht.1) (pw_and1 (hb.tst ht.2))) fun σ H Q q => tst0 q
  · refine ⟨PE_imp (pe_and ha.val hb.val) fun σ H Q q => val0 q, fun ht => ?_, fun ht _ => ?_⟩
    · simp only [tstB, Bool.and_eq_true] at ht
      exact PT_imp (PW.pt (pw_and (ha.tst ht.1) (hb.bl ht.2 ⟨_, _, _, rfl⟩))) fun σ H Q q => tst0 q
    · simp only [tstB, Bool.and_eq_true] at ht
      exact PW_imp (pw_and (ha.tst ht.1) (hb.bl ht.2 ⟨_, _, _, rfl⟩)) fun σ H Q q => tst0 q
theorem or_ok {a b : E} {l r x : Expr} (hx : asBool x = some (.Or, l, r)) (ha : EOk X T k a l) (hb : EOk X T k b r) : EOk X T k (.or a b) x := by
  have val0 : ∀ {σ : L2.St} {H : Hp} {Q : VK}, tE X.K (semE (run T k) (.or a b)) σ H Q → tOrV (tE X.K (semE (run T k) a)) (tE X.K (semE (run T k) b)) σ H Q := by
    intro σ H Q q
    obtain ⟨g, s, rfl, r0, sl, q⟩ := q
    refine tE_use r0 sl q.bnd fun g' d v r' x' p hv => ?_
    obtain ⟨c, e1, p2⟩ := p.optb
    cases d <;> simp only [tBl] at e1 <;> first | (cases e1; done) | skip
    cases e1
    rw [rep_bl.mp hv]
    refine ⟨_, rfl, ?_⟩
    split
    · rename_i hc
      rw [if_pos hc] at p2
      exact Ok.ret r' p2 _ (rep_bl.mpr rfl)
    · rename_i hc
      rw [if_neg hc] at p2
      exact ⟨g', s, rfl, r', sl.ext r0 x', p2⟩
  have tst0 : ∀ {σ : L2.St} {H : Hp} {Q : Bool → Hp → Prop}, tT X.K (semB (run T k) (.or a b)) σ H Q → tOr (tT X.K (semB (run T k) a)) (tT X.K (semB (run T k) b)) σ H Q := by
    intro σ H Q q
    obtain ⟨g, s, rfl, r0, sl, q⟩ := q
    have e0 : semB (run T k) (.or a b) s = bnd (semB (run T k) a s) fun c => if c = true then ret true else semB (run T k) b s := by
      funext h0
      simp only [semB, semE, bnd, opt]
      cases semE (run T k) a s h0 with
      | none => rfl
      | some p =>
        obtain ⟨d, h1⟩ := p
        simp only []
        cases tBl d with
        | none => rfl
        | some c => cases c <;> rfl
    rw [e0] at q
    refine tT_use r0 sl q.bnd fun g' c r' x' p => ?_
    split
    · rename_i hc
      rw [if_pos hc] at p
      exact Ok.ret r' p
    · rename_i hc
      rw [if_neg hc] at p
      exact ⟨g', s, rfl, r', sl.ext r0 x', p⟩
  rcases asBool_eq hx with ⟨p, rfl⟩ | ⟨b', c, rr, p, rfl, rfl⟩
  · refine ⟨PE_imp (pe_or ha.val (pe_one hb.val)) fun σ H Q q => val0 q, fun ht => ?_, fun ht _ => ?_⟩
    · simp only [tstB, Bool.and_eq_true] at ht
      exact PT_imp (PW.pt (pw_or (ha.tst ht.1) (pw_or1 (hb.tst ht.2)))) fun σ H Q q => tst0 q
    · simp only [tstB, Bool.and_eq_true] at ht
      exact PW_imp (pw_or (ha.tst ht.1) (pw_or1 (hb.tst ht.2))) fun σ H Q q => tst0 q
  · refine ⟨PE_imp (pe_or ha.val hb.val) fun σ H Q q => val0 q, fun ht => ?_, fun ht _ => ?_⟩
    · simp only [tstB, Bool.and_eq_true] at ht
      exact PT_imp (PW.pt (pw_or (ha.tst ht.1) (hb.bl ht.2 ⟨_, _, _, rfl⟩))) fun σ H Q q => tst0 q
    · simp only [tstB, Bool.and_eq_true] at ht
      exact PW_imp (pw_or (ha.tst ht.1) (hb.bl ht.2 ⟨_, _, _, rfl⟩)) fun σ H Q q => tst0 q
theorem not_ok {a : E} {l x : Expr} (hx : asUn x = some (.Not, l)) (ha : EOk X T k a l) : EOk X T k (.not a) x := by
  obtain ⟨p, rfl⟩ := asUn_eq hx
  refine ⟨PE_imp (pe_not ha.val) fun σ H Q q => ?_, fun ht => PT_imp (pt_not (ha.tst ht)) fun σ H Q q => ?_, fun _ q => by obtain ⟨_, _, _, z⟩ := q; cases z⟩
  · obtain ⟨g, s, rfl, r0, sl, q⟩ := q
    refine tE_use r0 sl q.bnd fun g' d v r' x' p hv => ?_
    obtain ⟨c, e1, p2⟩ := p.optb
    cases d <;> simp only [tBl] at e1 <;> first | (cases e1; done) | skip
    cases e1
    rw [rep_bl.mp hv]
    exact ⟨_, rfl, Ok.ret r' p2 _ (rep_bl.mpr rfl)⟩
  · obtain ⟨g, s, rfl, r0, sl, q⟩ := q
    have e0 : semB (run T k) (.not a) s = bnd (semB (run T k) a s) fun c => ret (!c) := by
      funext h0
      simp only [semB, semE, bnd, opt]
      cases semE (run T k) a s h0 with
      | none => rfl
      | some p =>
        obtain ⟨d, h1⟩ := p
        simp only []
        cases tBl d with
        | none => rfl
        | some c => rfl
    rw [e0] at q
    exact tT_use r0 sl q.bnd fun g' c r' x' p => Ok.ret r' p
theorem cmp_ok {op : Cop} {a b : E} {l r x : Expr} {o : CmpOp} (hx : asCmp x = some (l, o, r)) (ho : copIs op o = true) (hs : isSet r = false) (ha : PE X l (tE X.K (semE (run T k) a))) (hb : PE X r (tE X.K (semE (run T k) b))) : EOk X T k (.cmp op a b) x := by
  obtain ⟨p, rfl⟩ := asCmp_eq hx
  obtain ⟨rr, hr, hq⟩ := op_cmp (X := X) op o ho
  refine ⟨PE_imp (pe_cmpR hr ha hb (marks_ok hs)) fun σ H Q q => ?_, fun _ => PT_imp (pt_cmpR hr ha hb (marks_ok hs)) fun σ H Q q => ?_, fun _ q => by obtain ⟨_, _, _, z⟩ := q; cases z⟩
  · obtain ⟨g, s, rfl, r0, sl, q⟩ := q
    refine tE_use r0 sl q.bnd fun g' d v r' x' p hv => ?_
    refine tE_use r' (sl.ext r0 x') p.bnd fun g2 d2 v2 r2 x2 p2 hv2 => ?_
    obtain ⟨c, e1, p3⟩ := p2.optb
    exact hq g2 d d2 c v v2 Q e1 (Rep.ext r' x2 d hv) hv2 (Ok.ret r2 p3 _ (rep_bl.mpr rfl))
  · obtain ⟨g, s, rfl, r0, sl, q⟩ := q
    have e0 : semB (run T k) (.cmp op a b) s = bnd (semE (run T k) a s) fun x => bnd (semE (run T k) b s) fun y => opt (cmpD op x y) := by
      funext h0
      simp only [semB, semE, bnd, opt]
      cases semE (run T k) a s h0 with
      | none => rfl
      | some p =>
        obtain ⟨d, h1⟩ := p
        simp only []
        cases semE (run T k) b s h1 with
        | none => rfl
        | some p2 =>
          obtain ⟨d2, h2⟩ := p2
          simp only []
          cases cmpD op d d2 with
          | none => rfl
          | some c => rfl
    rw [e0] at q
    show tOp rr _ _ σ g.H _
    refine tE_use r0 sl q.bnd fun g' d v r' x' p hv => ?_
    refine tE_use r' (sl.ext r0 x') p.bnd fun g2 d2 v2 r2 x2 p2 hv2 => ?_
    obtain ⟨c, e1, p3⟩ := p2.opt
    exact hq g2 d d2 c v v2 _ e1 (Rep.ext r' x2 d hv) hv2 ⟨c, rfl, Ok.ret r2 p3⟩
theorem chain_ok {op op' : Cop} {a b c : E} {l m r x : Expr} {o o' : CmpOp} (hx : asCmp2 x = some (l, o, o', m, r)) (ho : copIs op o = true) (ho' : copIs op' o' = true) (hs : isSet r = false)
    (ha : PE X l (tE X.K (semE (run T k) a))) (hb : PE X m (tE X.K (semE (run T k) b))) (hc : PE X r (tE X.K (semE (run T k) c))) : EOk X T k (.chain op op' a b c) x := by
  obtain ⟨p, rfl⟩ := asCmp2_eq hx
  obtain ⟨rr, hr, hq⟩ := op_cmp (X := X) op o ho
  obtain ⟨rr', hr', hq'⟩ := op_cmp (X := X) op' o' ho'
  have main : ∀ {σ : L2.St} {H : Hp} {Q : VK}, tE X.K (semE (run T k) (.chain op op' a b c)) σ H Q → tChain rr rr' (tE X.K (semE (run T k) a)) (tE X.K (semE (run T k) b)) (tE X.K (semE (run T k) c)) σ H Q := by
    intro σ H Q q
    obtain ⟨g, s, rfl, r0, sl, q⟩ := q
    refine tE_use r0 sl q.bnd fun g' d v r' x' p hv => ?_
    refine tE_use r' (sl.ext r0 x') p.bnd fun g2 d2 v2 r2 x2 p2 hv2 => ?_
    obtain ⟨c1, e1, p3⟩ := p2.optb
    refine hq g2 d d2 c1 v v2 _ e1 (Rep.ext r' x2 d hv) hv2 ⟨c1, rfl, ?_⟩
    split
    · rename_i hc1
      rw [if_pos hc1] at p3
      refine tE_use r2 ((sl.ext r0 x').ext r' x2) p3.bnd fun g3 d3 v3 r3 x3 p4 hv3 => ?_
      obtain ⟨c2, e2, p5⟩ := p4.optb
      exact hq' g3 d2 d3 c2 v2 v3 Q e2 (Rep.ext r2 x3 d2 hv2) hv3 (Ok.ret r3 p5 _ (rep_bl.mpr rfl))
    · rename_i hc1
      rw [if_neg hc1] at p3
      exact Ok.ret r2 p3 _ (rep_bl.mpr rfl)
  refine ⟨PE_imp (pe_chain hr hr' ha hb hc (marks_ok hs)) fun σ H Q q => main q, fun _ => PT_imp (pt_chain hr hr' ha hb hc (marks_ok hs)) fun σ H Q q => ?_, fun _ q => by obtain ⟨_, _, _, z⟩ := q; cases z⟩
  refine main (Q := fun x H' => ∃ k, x = .bl k ∧ Q k H') ?_
  obtain ⟨g, s, e, r0, sl, q⟩ := q
  refine ⟨g, s, e, r0, sl, ?_⟩
  have qb : Ok X.K g (bnd (semE (run T k) (.chain op op' a b c) s) fun d => opt (tBl d)) fun g' b => Q b g'.H := q
  refine qb.bnd.mono fun g' d r' x' p v hv => ?_
  obtain ⟨b1, e1, p⟩ := p.opt
  cases d <;> simp only [tBl] at e1 <;> first | (cases e1; done) | skip
  cases e1
  exact ⟨_, rep_bl.mp hv, Ok.ret r' p⟩
theorem name_notbool {n : Str} {p : Pos} : ¬ ∃ o l q, (Expr.Name n p) = .BoolOp o l q := fun ⟨_, _, _, z⟩ => by cases z
mutual
theorem ckE_ok (L : Lk X tx T k) (A : At X tx sc) : ∀ (e : E) (x : Expr), ckE tx sc e x = true → EOk X T k e x
  | .v i, x, h => by
    simp only [ckE] at h
    split at h
    · rename_i n hn
      obtain ⟨p, rfl⟩ := asName_eq hn
      simp only [Bool.and_eq_true, decide_eq_true_eq] at h
      refine .plain (PE_imp (pe_var (i := i) (by rw [A.hn]; exact h.1.1) (vis_at A h.1.2) (okN_d h.2) (okN_c h.2)) fun σ H Q q => ?_) rfl name_notbool
      obtain ⟨g, s, rfl, r0, sl, q⟩ := q
      obtain ⟨d, e1, q⟩ := Ok.opt q
      have e2 : s[i]? = some (some d) := by
        cases z : s[i]? with
        | none => rw [z] at e1; cases e1
        | some o => rw [z] at e1; exact congrArg some e1
      obtain ⟨v, e3, hv⟩ := sl.get i d e2
      exact ⟨v, e3, Ok.ret r0 q v hv⟩
    · cases h
  | .c d, x, h => by
    simp only [ckE] at h
    split at h
    · rename_i c hc
      obtain ⟨k0, p, rfl⟩ := asConst_eq hc
      have nb : ¬ ∃ o l q, (Expr.Constant c k0 p) = .BoolOp o l q := fun ⟨_, _, _, z⟩ => by cases z
      unfold cstIs at h
      split at h
      · rename_i d' hd
        have e := D.beq_eq h
        subst e
        cases c <;> simp only [cstD, Option.some.injEq] at hd <;> first | (cases hd; done) | subst hd
        · refine .plain (PE_imp pe_non fun σ H Q q => ?_) rfl nb
          obtain ⟨g, s, rfl, r0, sl, q⟩ := q
          exact Ok.ret r0 q _ (rep_non.mpr rfl)
        · refine .plain (PE_imp pe_bl fun σ H Q q => ?_) rfl nb
          obtain ⟨g, s, rfl, r0, sl, q⟩ := q
          exact Ok.ret r0 q _ (rep_bl.mpr rfl)
        · refine .plain (PE_imp pe_int fun σ H Q q => ?_) rfl nb
          obtain ⟨g, s, rfl, r0, sl, q⟩ := q
          exact Ok.ret r0 q _ (rep_int.mpr rfl)
        · refine .plain (PE_imp pe_str fun σ H Q q => ?_) rfl nb
          obtain ⟨g, s, rfl, r0, sl, q⟩ := q
          exact Ok.ret r0 q _ (rep_str.mpr rfl)
      · cases h
    · split at h
      · rename_i n hn
        obtain ⟨p, rfl⟩ := asName_eq hn
        simp only [Bool.and_eq_true, List.any_eq_true, decide_eq_true_eq] at h
        obtain ⟨⟨h1, h2⟩, ⟨pn, pd⟩, h3, h4, h5⟩ := h
        have e := D.beq_eq h5
        subst e
        have h4' : pn = n := h4
        subst h4'
        obtain ⟨u, v, hm, hr, hv⟩ := L.gl _ h3
        refine .plain (PE_imp (pe_glob (gl_at A h2) hm hr (okN_d h1)) fun σ H Q q => ?_) rfl name_notbool
        obtain ⟨g, s, rfl, r0, sl, q⟩ := q
        exact Ok.ret r0 q _ (hv g)
      · cases h
  | .tup es, x, h => by
    simp only [ckE] at h
    split at h
    · rename_i xs hx
      obtain ⟨k0, p, rfl⟩ := asTuple_eq hx
      refine .plain (PE_imp (pe_tup (ckEs_ok L A es xs h)) fun σ H Q q => ?_) rfl (fun ⟨_, _, _, z⟩ => by cases z)
      obtain ⟨g, s, rfl, r0, sl, q⟩ := q
      refine tA_use r0 sl q.bnd fun g' ds vs r' x' p hv => ?_
      split at p
      · rename_i hl
        refine ⟨by rw [sizeMax_eq, ← hv.length]; exact hl, fun a ha => ?_⟩
        obtain ⟨x2, r2⟩ := Ext.lay (o := .tup vs) r' ha
        exact Ok.ret' p r2 x2 _ (rep_tup.mpr ⟨a, vs, rfl, .of upd_same, Reps.ext r' x2 ds hv⟩)
      · exact (Ok.bad p).elim
    · cases h
  | .lstv f, x, h => by
    have hf := ckF_ok L A f x h
    refine .plain (PE_imp hf.1 fun σ H Q q => ?_) hf.2.1 hf.2.2
    obtain ⟨g, s, rfl, r0, sl, q⟩ := q
    refine ⟨g, s, rfl, r0, sl, q.bnd.mono fun g' ds r' x' p a xs h0 ht ha rm rs => ?_⟩
    refine Ok.ret r' p _ (rep_lst.mpr ⟨a, xs, rfl, .inl ⟨.inl ha, ht⟩, ?_⟩)
    exact Reps.weak (w := (g'.mark a).w) (w' := g'.w) rfl (fun b hb => .inl hb) ds rs
  | .alloc f, x, h => by
    have hf := ckF_ok L A f x h
    refine .plain (PE_imp hf.1 fun σ H Q q => ?_) hf.2.1 hf.2.2
    obtain ⟨g, s, rfl, r0, sl, q⟩ := q
    obtain ⟨d, h2, e, q⟩ := q
    have e' : bnd (semF (run T k) f s) newLst g.h = some (d, h2) := e
    unfold bnd at e'
    split at e'
    · rename_i ds h1 e1
      unfold newLst at e'
      split at e'
      · rename_i hr
        simp only [Option.some.injEq, Prod.mk.injEq] at e'
        obtain ⟨rfl, rfl⟩ := e'
        refine ⟨g, s, rfl, r0, sl, ds, h1, e1, fun w1 H1 r1 x1 a xs h0 ht ha rm rs => ?_⟩
        obtain ⟨w', x2, r2, e2⟩ := Ext.track x1 r1 h0 ht ha rm rs hr
        exact q w' H1 r2 x2 _ (rep_ref.mpr ⟨by simp, by rw [show w'.ι h1.length = a from e2]⟩)
      · cases e'
    · cases e'
  | .bin op a b, x, h => by
    simp only [ckE] at h
    split at h
    · rename_i l o r hx
      obtain ⟨p, rfl⟩ := asBin_eq hx
      simp only [Bool.and_eq_true] at h
      obtain ⟨rr, hr, hq⟩ := op_bin (X := X) op o h.1.1
      refine .plain (PE_imp (pe_op hr (ckE_ok L A a l h.1.2).val (ckE_ok L A b r h.2).val) fun σ H Q q => ?_) rfl (fun ⟨_, _, _, z⟩ => by cases z)
      obtain ⟨g, s, rfl, r0, sl, q⟩ := q
      refine tE_use r0 sl q.bnd fun g' d v r' x' p hv => ?_
      refine tE_use r' (sl.ext r0 x') p.bnd fun g2 d2 v2 r2 x2 p2 hv2 => ?_
      obtain ⟨d3, e1, p3⟩ := p2.opt
      refine hq g2 d d2 d3 v v2 Q e1 r2 (Rep.ext r' x2 d hv) hv2 fun g3 v3 e3 r3 x3 hv3 => ?_
      obtain ⟨w3, h3, H3⟩ := g3
      have e3' : h3 = g2.h := e3
      subst e3'
      exact Ok.ret' p3 r3 x3 v3 hv3
    · cases h
  | .neg a, x, h => by
    simp only [ckE] at h
    split at h
    · rename_i o r hx
      simp only [Bool.and_eq_true, decide_eq_true_eq] at h
      obtain ⟨rfl, h⟩ := h
      obtain ⟨p, rfl⟩ := asUn_eq hx
      refine .plain (PE_imp (pe_un un_neg (ckE_ok L A a r h).val) fun σ H Q q => ?_) rfl (fun ⟨_, _, _, z⟩ => by cases z)
      obtain ⟨g, s, rfl, r0, sl, q⟩ := q
      refine tE_use r0 sl q.bnd fun g' d v r' x' p hv => ?_
      split at p
      · exact ⟨_, rep_int.mp hv, Ok.ret r' p _ (rep_int.mpr rfl)⟩
      · exact (Ok.bad p).elim
    · cases h
  | .cmp op a b, x, h => by
    simp only [ckE] at h
    split at h
    · rename_i l o r hx
      simp only [Bool.and_eq_true, Bool.not_eq_true'] at h
      exact cmp_ok hx h.1.1.1 h.2 (ckE_ok L A a l h.1.1.2).val (ckE_ok L A b r h.1.2).val
    · cases h
  | .chain op op' a b c, x, h => by
    simp only [ckE] at h
    split at h
    · rename_i l o o' m r hx
      simp only [Bool.and_eq_true, Bool.not_eq_true'] at h
      exact chain_ok hx h.1.1.1.1.1 h.1.1.1.1.2 h.2 (ckE_ok L A a l h.1.1.1.2).val (ckE_ok L A b m h.1.1.2).val (ckE_ok L A c r h.1.2).val
    · cases h
  | .and a b, x, h => by
    simp only [ckE] at h
    split at h
    · rename_i o l r hx
      simp only [Bool.and_eq_true, decide_eq_true_eq] at h
      obtain ⟨⟨rfl, h1⟩, h2⟩ := h
      exact and_ok hx (ckE_ok L A a l h1) (ckE_ok L A b r h2)
    · cases h
  | .or a b, x, h => by
    simp only [ckE] at h
    split at h
    · rename_i o l r hx
      simp only [Bool.and_eq_true, decide_eq_true_eq] at h
      obtain ⟨⟨rfl, h1⟩, h2⟩ := h
      exact or_ok hx (ckE_ok L A a l h1) (ckE_ok L A b r h2)
    · cases h
  | .not a, x, h => by
    simp only [ckE] at h
    split at h
    · rename_i o r hx
      simp only [Bool.and_eq_true, decide_eq_true_eq] at h
      obtain ⟨rfl, h1⟩ := h
      exact not_ok hx (ckE_ok L A a r h1)
    · cases h
  | .ite t a b, x, h => by
    simp only [ckE] at h
    split at h
    · rename_i c l r hx
      obtain ⟨p, rfl⟩ := asIf_eq hx
      simp only [Bool.and_eq_true] at h
      refine ⟨PE_imp (pe_ifExp ((ckE_ok L A t c h.1.1.1).tst h.1.1.2) (ckE_ok L A a l h.1.2).val (ckE_ok L A b r h.2).val) fun σ H Q q => ?_, fun z => by simp [tstB] at z, fun z => by simp [tstB] at z⟩
      obtain ⟨g, s, rfl, r0, sl, q⟩ := q
      have e0 : semE (run T k) (.ite t a b) s = bnd (semB (run T k) t s) fun c => if c = true then semE (run T k) a s else semE (run T k) b s := by
        funext h0
        simp only [semB, semE, bnd, opt]
        cases semE (run T k) t s h0 with
        | none => rfl
        | some p =>
          obtain ⟨d, h1⟩ := p
          rfl
      have q' : Ok X.K g (semE (run T k) (.ite t a b) s) fun g' d => ∀ v, Rep X.K g' d v → Q v g'.H := q
      rw [e0] at q'
      refine tT_use r0 sl q'.bnd fun g' c r' x' p => ?_
      split
      · rename_i hc
        rw [if_pos hc] at p
        exact ⟨g', s, rfl, r', sl.ext r0 x', p⟩
      · rename_i hc
        rw [if_neg hc] at p
        exact ⟨g', s, rfl, r', sl.ext r0 x', p⟩
    · cases h
  | .idx a i, x, h => by
    simp only [ckE] at h
    split at h
    · rename_i l r hx
      obtain ⟨p, rfl⟩ := asSub_eq hx
      simp only [Bool.and_eq_true, Bool.not_eq_true'] at h
      refine .plain (PE_imp (pe_ix (ix_list.or ix_tup) (ckE_ok L A a l h.1.1).val (ckE_ok L A i r h.1.2).val (plainIx_ok h.2)) fun σ H Q q => ?_) rfl (fun ⟨_, _, _, z⟩ => by cases z)
      obtain ⟨g, s, rfl, r0, sl, q⟩ := q
      refine tE_use r0 sl q.bnd fun g' d v r' x' p hv => ?_
      refine tE_use r' (sl.ext r0 x') p.bnd fun g2 d2 v2 r2 x2 p2 hv2 => ?_
      obtain ⟨d3, e1, p3⟩ := p2.ask
      unfold idxD at e1
      split at e1
      · rename_i ds j hs
        obtain ⟨y, xs, rfl, hsq, rs⟩ := seq_rep hs r2 (Rep.ext r' x2 d hv)
        obtain ⟨v3, e2, hv3⟩ := atI_rep rs e1
        rw [rep_int.mp hv2]
        have fin := Ok.ret r2 p3 v3 hv3
        rcases hsq with hsq | hsq
        · exact .inl ⟨y, xs, j, v3, rfl, rfl, hsq, e2, fin⟩
        · exact .inr ⟨y, xs, j, v3, rfl, rfl, hsq, e2, fin⟩
      · cases e1
    · cases h
  | .call f perm es, x, h => by
    simp only [ckE] at h
    split at h
    · rename_i n xs ks hx
      obtain ⟨q, p, rfl⟩ := asCall_eq hx
      simp only [Bool.and_eq_true, List.any_eq_true, decide_eq_true_eq] at h
      obtain ⟨⟨⟨⟨h1, h2⟩, h3⟩, sh, hsh, ⟨⟨⟨hs1, hs2⟩, hs3⟩, hs4⟩, hs5⟩, h4⟩ := h
      split at h3
      · rename_i pp hf
        obtain ⟨pn, ps⟩ := pp
        have h3' : pn = n := by simpa using h3
        subst h3'
        obtain ⟨a, b, c, ea, eb, ec, ed⟩ := ckEks_split es xs ks h4
        have hab := ckEks_ok L A es xs ks h4 a b c ea eb ec
        refine .plain (pe_defcall L A h1 h2 hf hsh hs1 hs2 hs3 hs4 ea eb ec (by rw [ed]; exact hs5) hab.1 hab.2.1 hab.2.2) rfl (fun ⟨_, _, _, z⟩ => by cases z)
      · cases h3
    · cases h
  | .bi b es, x, h => by
    simp only [ckE] at h
    split at h
    · rename_i n hb
      split at h
      · rename_i m xs ks hx
        obtain ⟨q, p, rfl⟩ := asCall_eq hx
        simp only [Bool.and_eq_true, decide_eq_true_eq] at h
        obtain ⟨⟨⟨rfl, h1⟩, h2⟩, h3⟩ := h
        obtain ⟨hok, hgl, hm⟩ := isBlt_ok L A h1
        have hks : ks = [] := by simpa using h2
        subst hks
        obtain ⟨id, r, hv, hr, hq⟩ := pe_bi L A hb
        obtain ⟨hpl, hlen⟩ := ckEs_plain h3
        cases xs with
        | nil =>
          have : es = [] := List.length_eq_zero_iff.mp hlen
          subst this
          refine .plain ⟨fun pins s σ H Q I q => ?_⟩ rfl (fun ⟨_, _, _, z⟩ => by cases z)
          obtain ⟨g, st, rfl, r0, sl, q⟩ := q
          have q' := Ok.ret r0 (Ok.bnd q)
          obtain ⟨d, e1, _⟩ := Ok.ask q'
          exact absurd e1 (by cases b <;> simp [biD])
        | cons y ys =>
          simp only [List.all_cons, Bool.and_eq_true] at hpl
          refine .plain (PE_imp (pe_callB hr hgl hm hv (ckEs_ok L A es (y :: ys) h3) (okN_n hok) (okN_d hok) (star_cons hpl.1) (plain_back hpl.2)) fun σ H Q q => ?_) rfl (fun ⟨_, _, _, z⟩ => by cases z)
          obtain ⟨g, st, rfl, r0, sl, q⟩ := q
          refine tA_use r0 sl q.bnd fun g' ds vs r' x' p hv => ?_
          obtain ⟨d, e1, p2⟩ := p.ask
          exact hq g' ds d vs Q e1 r' hv (Ok.ret r' p2)
      · cases h
    · rename_i hb
      split at h
      · rename_i t ht
        split at h
        · rename_i m y z hx
          obtain ⟨q, p, rfl⟩ := asCall_eq hx
          simp only [Bool.and_eq_true, decide_eq_true_eq] at h
          obtain ⟨⟨⟨⟨rfl, h1⟩, h2⟩, h3⟩, h4⟩ := h
          split at h2
          · rename_i n hn
            obtain ⟨pz, rfl⟩ := asName_eq hn
            simp only [Bool.and_eq_true, decide_eq_true_eq] at h2
            obtain ⟨rfl, h2⟩ := h2
            obtain ⟨hok, hgl, hm⟩ := isBlt_ok L A h1
            obtain ⟨hok2, hgl2, hm2⟩ := isBlt_ok L A h2
            have hbt : b = .isa t := by cases b <;> simp [isIsa] at ht; rw [ht]
            subst hbt
            obtain ⟨hpl, hlen⟩ := ckEs_plain h4
            simp only [List.all_cons, List.all_nil, Bool.and_true] at hpl
            obtain ⟨e1, rfl⟩ : ∃ e1, es = [e1] := by
              match es, hlen with
              | [e1], _ => exact ⟨e1, rfl⟩
            simp only [ckEs, Bool.and_eq_true, Bool.and_true] at h4
            have pz2 : PE X (.Name (tyName t : Str) pz) (tC (.ty (tyName t))) := pe_bltn hgl2 hm2 (ty_boot t) rfl (okN_n hok2) (okN_d hok2)
            have pe1 := (ckE_ok L A e1 y h4.1).val
            refine .plain (PE_imp (pe_callB call_isi hgl hm (by decide +kernel) (pa_cons pe1 (pa_cons pz2 pa_nil) (star_cons hpl)) (okN_n hok) (okN_d hok) (star_cons hpl) rfl) fun σ H Q q => ?_) rfl (fun ⟨_, _, _, z⟩ => by cases z)
            obtain ⟨g, st, rfl, r0, sl, q⟩ := q
            have e0 : semE (run T k) (.bi (.isa t) [e1]) st = bnd (semE (run T k) e1 st) fun d => Iv.ask fun h => biD h (.isa t) [d] := by
              funext h0
              simp only [semE, semEs, bnd, ret]
              cases semE (run T k) e1 st h0 with
              | none => rfl
              | some p => rfl
            have q' : Ok X.K g (semE (run T k) (.bi (.isa t) [e1]) st) fun g' d => ∀ v, Rep X.K g' d v → Q v g'.H := q
            rw [e0] at q'
            refine tE_use r0 sl q'.bnd fun g' d v r' x' p hv => ?_
            obtain ⟨d2, e2, p2⟩ := p.ask
            have fin := Ok.ret r' p2
            simp only [biD] at e2
            split at e2
            · cases e2
              rw [rep_non.mp hv]
              exact ⟨_, _, _, _, _, rfl, .ty _, .base .non, kit_ty (isa_non t), fin _ (rep_bl.mpr rfl)⟩
            · simp only [Option.map_eq_some_iff] at e2
              obtain ⟨t2, e3, rfl⟩ := e2
              exact ⟨_, _, _, _, _, rfl, .ty _, tyX_rep r' e3 hv, kit_ty (isa_kit t2 t), fin _ (rep_bl.mpr rfl)⟩
          · cases h2
        · cases h
      · rename_i ht
        split at h
        · rename_i o m hx
          obtain ⟨q, p, rfl, hl⟩ := asMeth_eq hx
          simp only [Bool.and_eq_true, decide_eq_true_eq] at h
          obtain ⟨⟨rfl, h2⟩, h3⟩ := h
          have hbt : b = .bitlen := by cases b <;> simp [isIsa, biName] at ht hb ⊢
          subst hbt
          obtain ⟨hpl, hlen⟩ := ckEs_plain h3
          obtain ⟨e1, rfl⟩ : ∃ e1, es = [e1] := by
            match es, hlen with
            | [e1], _ => exact ⟨e1, rfl⟩
          simp only [ckEs, Bool.and_eq_true, Bool.and_true] at h3
          have pe1 := (ckE_ok L A e1 o h3.1).val
          refine .plain (PE_imp (pe_bits pe1 (base_ok h2) hl) fun σ H Q q => ?_) rfl (fun ⟨_, _, _, z⟩ => by cases z)
          obtain ⟨g, st, rfl, r0, sl, q⟩ := q
          have e0 : semE (run T k) (.bi .bitlen [e1]) st = bnd (semE (run T k) e1 st) fun d => Iv.ask fun h => biD h .bitlen [d] := by
            funext h0
            simp only [semE, semEs, bnd, ret]
            cases semE (run T k) e1 st h0 with
            | none => rfl
            | some p => rfl
          have q' : Ok X.K g (semE (run T k) (.bi .bitlen [e1]) st) fun g' d => ∀ v, Rep X.K g' d v → Q v g'.H := q
          rw [e0] at q'
          refine tE_use r0 sl q'.bnd fun g' d v r' x' p hv => ?_
          obtain ⟨d2, e2, p2⟩ := p.ask
          have fin := Ok.ret r' p2
          cases d <;> simp only [biD, Option.some.injEq] at e2 <;> first | (cases e2; done) | skip
          cases e2
          exact ⟨_, rep_int.mp hv, fin _ (rep_int.mpr rfl)⟩
        · cases h
theorem ckEs_ok (L : Lk X tx T k) (A : At X tx sc) : ∀ (es : List E) (xs : List Expr), ckEs tx sc es xs = true → PA X xs (tA X.K (semEs (run T k) es))
  | [], [], _ => PA_imp pa_nil fun σ H Q q => by
    obtain ⟨g, s, rfl, r0, sl, q⟩ := q
    exact Ok.ret r0 q _ Reps.nil
  | [], x :: xs, h => by simp [ckEs] at h
  | e :: es, [], h => by simp [ckEs] at h
  | e :: es, x :: xs, h => by
    simp only [ckEs, Bool.and_eq_true] at h
    refine PA_imp (pa_cons (ckE_ok L A e x h.1.1).val (ckEs_ok L A es xs h.2) (star_cons h.1.2)) fun σ H Q q => ?_
    obtain ⟨g, s, rfl, r0, sl, q⟩ := q
    refine tE_use r0 sl q.bnd fun g' d v r' x' p hv => ?_
    refine tA_use r' (sl.ext r0 x') p.bnd fun g2 ds vs r2 x2 p2 hvs => ?_
    exact Ok.ret r2 p2 _ (Reps.cons (Rep.ext r' x2 d hv) hvs)
theorem ckEks_ok (L : Lk X tx T k) (A : At X tx sc) : ∀ (es : List E) (xs : List Expr) (ks : List Keyword), ckEks tx sc es xs ks = true → ∀ a b c, es = a ++ b ++ c → a.length = xs.length → b.length = ks.length →
    xs.all plainE = true ∧ PA X xs (tA X.K (semEs (run T k) a)) ∧ PK X ks (tA X.K (semEs (run T k) b))
  | es, [], [], _ => fun a b c he ha hb => by
    have ea : a = [] := List.length_eq_zero_iff.mp ha
    have eb : b = [] := List.length_eq_zero_iff.mp hb
    subst ea eb
    refine ⟨rfl, PA_imp pa_nil fun σ H Q q => ?_, PK_imp pk_nil fun σ H Q q => ?_⟩
    · obtain ⟨g, s, rfl, r0, sl, q⟩ := q
      exact Ok.ret r0 q _ Reps.nil
    · obtain ⟨g, s, rfl, r0, sl, q⟩ := q
      exact Ok.ret r0 q _ Reps.nil
  | [], x :: xs, ks, h => by simp [ckEks] at h
  | [], [], k :: ks, h => by simp [ckEks] at h
  | e :: es, x :: xs, ks, h => fun a b c he ha hb => by
    simp only [ckEks, Bool.and_eq_true] at h
    cases a with
    | nil => simp at ha
    | cons e' a =>
      simp only [List.cons_append, List.cons.injEq] at he
      obtain ⟨rfl, he⟩ := he
      obtain ⟨i1, i2, i3⟩ := ckEks_ok L A es xs ks h.2 a b c he (by simpa using ha) hb
      refine ⟨by rw [List.all_cons, h.1.2, i1]; rfl, PA_imp (pa_cons (ckE_ok L A e x h.1.1).val i2 (star_cons h.1.2)) fun σ H Q q => ?_, i3⟩
      obtain ⟨g, s, rfl, r0, sl, q⟩ := q
      refine tE_use r0 sl q.bnd fun g' d v r' x' p hv => ?_
      refine tA_use r' (sl.ext r0 x') p.bnd fun g2 ds vs r2 x2 p2 hvs => ?_
      exact Ok.ret r2 p2 _ (Reps.cons (Rep.ext r' x2 d hv) hvs)
  | e :: es, [], ⟨nm, kv, kp⟩ :: ks, h => fun a b c he ha hb => by
    simp only [ckEks, Bool.and_eq_true] at h
    have ea : a = [] := List.length_eq_zero_iff.mp ha
    subst ea
    cases b with
    | nil => simp at hb
    | cons e' b =>
      simp only [List.nil_append, List.cons_append, List.cons.injEq] at he
      obtain ⟨rfl, he⟩ := he
      obtain ⟨i1, i2, i3⟩ := ckEks_ok L A es [] ks h.2 [] b c (by simpa using he) rfl (by simpa using hb)
      refine ⟨rfl, i2, PK_imp (pk_cons (ckE_ok L A e kv h.1).val i3) fun σ H Q q => ?_⟩
      obtain ⟨g, s, rfl, r0, sl, q⟩ := q
      refine tE_use r0 sl q.bnd fun g' d v r' x' p hv => ?_
      refine tA_use r' (sl.ext r0 x') p.bnd fun g2 ds vs r2 x2 p2 hvs => ?_
      exact Ok.ret r2 p2 _ (Reps.cons (Rep.ext r' x2 d hv) hvs)
theorem ckF_ok (L : Lk X tx T k) (A : At X tx sc) : ∀ (f : F) (x : Expr), ckF tx sc f x = true → PE X x (tF X.K (semF (run T k) f)) ∧ plainT x = true ∧ ¬ ∃ o l p, x = .BoolOp o l p
  | .disp es, x, h => by
    simp only [ckF] at h
    split at h
    · rename_i xs hx
      obtain ⟨p, rfl⟩ := asList_eq hx
      refine ⟨PE_imp (pe_lst (ckEs_ok L A es xs h)) fun σ H Q q => ?_, rfl, fun ⟨_, _, _, z⟩ => by cases z⟩
      obtain ⟨g, s, rfl, r0, sl, q⟩ := q
      refine tA_use r0 sl q.bnd fun g' ds vs r' x' p hv => ?_
      split at p
      · rename_i hl
        refine ⟨by rw [sizeMax_eq, ← hv.length]; exact hl, fun a ha => ?_⟩
        obtain ⟨x2, r2⟩ := Ext.lay (o := .lst vs) r' ha
        obtain ⟨x3, r3⟩ := Ext.layT (o := .lst vs) r' ha
        refine Ok.ret' p r2 x2 a vs ?_ ?_ upd_same r3 (Reps.ext r' x3 ds hv)
        · cases z : g.H a with
          | none => rfl
          | some o =>
            obtain ⟨o', z'⟩ := x'.there a o z
            rw [ha] at z'; cases z'
        · intro t
          obtain ⟨o, z⟩ := r'.dom a t
          rw [ha] at z; cases z
      · exact (Ok.bad p).elim
    · cases h
end
end
end Iv

set_option maxHeartbeats 4000000
/-! SndS: statements. -/
namespace Iv
open PySem L2 PySem.Spec PyProof.Rows

/-! ### looking at the text -/
def asAssign : Stmt → Option (Expr × Expr)
  | .Assign [t] e _ => some (t, e)
  | _ => none
theorem asAssign_eq {s : Stmt} {t e : Expr} (h : asAssign s = some (t, e)) : ∃ p, s = .Assign [t] e p := by
  unfold asAssign at h
  split at h
  · simp at h
    obtain ⟨rfl, rfl⟩ := h; exact ⟨_, rfl⟩
  · cases h
def asAug : Stmt → Option (Str × Operator × Expr)
  | .AugAssign (.Name x _) o e _ => some (x, o, e)
  | _ => none
theorem asAug_eq {s : Stmt} {x : Str} {o : Operator} {e : Expr} (h : asAug s = some (x, o, e)) : ∃ q p, s = .AugAssign (.Name x q) o e p := by
  unfold asAug at h
  split at h
  · simp at h
    obtain ⟨rfl, rfl, rfl⟩ := h; exact ⟨_, _, rfl⟩
  · cases h
def asExpr : Stmt → Option Expr
  | .Expr e _ => some e
  | _ => none
theorem asExpr_eq {s : Stmt} {e : Expr} (h : asExpr s = some e) : ∃ p, s = .Expr e p := by
  cases s <;> simp [asExpr] at h
  subst h; exact ⟨_, rfl⟩
def asRet : Stmt → Option (Option Expr)
  | .Return e _ => some e
  | _ => none
theorem asRet_eq {s : Stmt} {e : Option Expr} (h : asRet s = some e) : ∃ p, s = .Return e p := by
  cases s <;> simp [asRet] at h
  subst h; exact ⟨_, rfl⟩
def asIfS : Stmt → Option (Expr × List Stmt × List Stmt)
  | .If c a b _ => some (c, a, b)
  | _ => none
theorem asIfS_eq {s : Stmt} {c : Expr} {a b : List Stmt} (h : asIfS s = some (c, a, b)) : ∃ p, s = .If c a b p := by
  cases s <;> simp [asIfS] at h
  obtain ⟨rfl, rfl, rfl⟩ := h; exact ⟨_, rfl⟩
def asFor : Stmt → Option (Expr × Expr × List Stmt)
  | .For t i b [] _ => some (t, i, b)
  | _ => none
theorem asFor_eq {s : Stmt} {t i : Expr} {b : List Stmt} (h : asFor s = some (t, i, b)) : ∃ p, s = .For t i b [] p := by
  unfold asFor at h
  split at h
  · simp at h
    obtain ⟨rfl, rfl, rfl⟩ := h; exact ⟨_, rfl⟩
  · cases h
def asWhile : Stmt → Option (Expr × List Stmt)
  | .While c b [] _ => some (c, b)
  | _ => none
theorem asWhile_eq {s : Stmt} {c : Expr} {b : List Stmt} (h : asWhile s = some (c, b)) : ∃ p, s = .While c b [] p := by
  unfold asWhile at h
  split at h
  · simp at h
    obtain ⟨rfl, rfl⟩ := h; exact ⟨_, rfl⟩
  · cases h
def asPass : Stmt → Bool
  | .Pass _ => true
  | _ => false
theorem asPass_eq {s : Stmt} (h : asPass s = true) : ∃ p, s = .Pass p := by
  cases s <;> simp [asPass] at h
  exact ⟨_, rfl⟩
def isComp : Expr → Bool
  | .ListComp _ _ _ _ => true
  | .SetComp _ _ _ _ => true
  | .DictComp _ _ _ _ _ => true
  | _ => false
def isStar : Expr → Bool
  | .Starred _ _ => true
  | _ => false
theorem swaps_ok {e : Expr} {t : Option Expr} {l : Nat} {env : Env} (h : isComp e = false) : swapsWith e t l env = pure false := by
  cases e <;> first | rfl | simp [isComp] at h
theorem swapsS_ok {e t : Expr} {l : Nat} {env : Env} (h : isComp e = false) : swapsWithSole [t] e l env = pure false := swaps_ok h
/-- no two names that are exchanged -/
def noSwap (t e : Expr) : Bool := match asTuple t, asTuple e with
  | some ts, some _ => !(ts.length == 2 || ts.length == 3) || ts.any fun x => (asName x).isNone
  | _, _ => match t with
    | .List _ _ => false
    | _ => true
theorem filter_lt {ts : List Expr} {f : Expr → Option Str} (hf : ∀ x, asName x = none → f x = none) (h : (ts.any fun x => (asName x).isNone) = true) : (ts.filterMap f).length < ts.length := by
  induction ts with
  | nil => simp at h
  | cons x ts ih =>
    rw [List.any_cons, Bool.or_eq_true] at h
    have le : (ts.filterMap f).length ≤ ts.length := List.length_filterMap_le f ts
    rcases h with h | h
    · have : f x = none := hf x (by simpa using h)
      rw [List.filterMap_cons, this]
      exact Nat.lt_succ_of_le le
    · have q := ih h
      rw [List.filterMap_cons]
      split
      · exact Nat.lt_succ_of_lt q
      · simp only [List.length_cons]; omega
theorem noSwap_ok {t e : Expr} {env : Env} (h : noSwap t e = true) : swappedStores [t] e env = pure none := by
  unfold noSwap at h
  unfold swappedStores
  split at h
  · rename_i ts vs ht he
    obtain ⟨k, p, rfl⟩ := asTuple_eq ht
    obtain ⟨k', p', rfl⟩ := asTuple_eq he
    simp only [Bool.or_eq_true, Bool.not_eq_true'] at h
    show (if (!(ts.length == 2 || ts.length == 3) || vs.length != ts.length || env.blockKind != .function) = true then (pure none : Sem (Option (List Str))) else _) = _
    by_cases c1 : (!(ts.length == 2 || ts.length == 3) || vs.length != ts.length || env.blockKind != .function) = true
    · rw [if_pos c1]
    · rw [if_neg c1]
      rcases h with h | h
      · exfalso
        apply c1
        rw [h]; rfl
      · split
        · rfl
        · have lt := filter_lt (ts := ts) (f := fun x => match x with
            | .Name id pos => if env.kindOf id == some .local && pos.line == (ts.head?.map (·.pos.line)).getD 0 then some id else none
            | _ => none) (fun x hx => by cases x <;> first | rfl | simp [asName] at hx) h
          refine if_pos ?_
          rw [Bool.or_eq_true]
          exact .inl (bne_iff_ne.mpr (Nat.ne_of_lt lt))
  · rename_i hn
    split at h
    · cases h
    · rename_i hl
      cases t <;> first | rfl | skip
      · rename_i es p
        exact absurd rfl (hl es p)
      · rename_i ts k p
        cases e <;> first | rfl | skip
        rename_i vs k' p'
        exact absurd rfl (hn ts vs rfl)
theorem assignEach_cons {e : Expr} {es : List Expr} {env : Env} (h : isStar e = false) : assignEach (e :: es) env = (false, assign e env) :: assignEach es env := by
  cases e <;> first | rfl | simp [isStar] at h
theorem assignEach_len {env : Env} : ∀ {es : List Expr}, (es.all fun e => !isStar e) = true → (assignEach es env).length = es.length ∧ (assignEach es env).findIdx? (·.1) = none
  | [], _ => ⟨rfl, rfl⟩
  | e :: es, h => by
    rw [List.all_cons, Bool.and_eq_true, Bool.not_eq_true'] at h
    rw [assignEach_cons h.1]
    obtain ⟨h1, h2⟩ := assignEach_len (env := env) h.2
    refine ⟨by simp [h1], ?_⟩
    rw [List.findIdx?_cons, if_neg (by simp), h2]
    rfl

theorem assign_sub {o i : Expr} {p : Pos} {env : Env} (h : isSlice i = false) (v : Value) : assign (.Subscript o i p) env v = (do
      let ov ← holding [v] (eval o env)
      let iv ← holding [v, ov] (eval i env)
      standAt p
      holding [v, ov, iv] (PySem.setItem ov iv v)
      release [v, ov, iv] []) := by
  cases i <;> first | rfl | simp [isSlice] at h
/-! ### the checker -/
def locB (sc : Scope) (x : Str) : Bool := match sc.names.lookup x with
  | some .local => true
  | some .cell => true
  | _ => false
theorem locB_ok {sc : Scope} {x : Str} (h : locB sc x = true) : L2.Loc sc x := by
  unfold locB at h
  unfold L2.Loc
  split at h
  · exact .inl (by assumption)
  · exact .inr (by assumption)
  · cases h
section
variable (tx : Tx) (sc : Scope)
mutual
def ckT : Tg → Expr → Bool
  | .nm i, x => match asName x with
    | some n => decide (tx.N[i]? = some n) && locB sc n && okN n
    | none => false
  | .tup ts, x => match asTuple x with
    | some xs => ckTs ts xs
    | none => false
  | .sub a i, x => match asSub x with
    | some (l, r) => ckE tx sc a l && ckE tx sc i r && !isSlice r
    | none => false
def ckTs : List Tg → List Expr → Bool
  | [], [] => true
  | t :: ts, x :: xs => ckT t x && !isStar x && ckTs ts xs
  | _, _ => false
end
def ckIt : It → Expr → Bool
  | .range1 a, x => match asCall x with
    | some (n, [y], []) => decide (n = "range") && isBlt tx sc n && plainE y && ckE tx sc a y
    | _ => false
  | .range2 a b, x => match asCall x with
    | some (n, [y, z], []) => decide (n = "range") && isBlt tx sc n && plainE y && plainE z && ckE tx sc a y && ckE tx sc b z
    | _ => false
  | .seq e, x => ckE tx sc e x
mutual
def ckS : S → Stmt → Bool
  | .asg t e, s => match asAssign s with
    | some (y, x) => ckT tx sc t y && ckE tx sc e x && !isComp x && noSwap y x && !isStar y
    | none => false
  | .aug i op e, s => match asAug s with
    | some (n, o, x) => decide (tx.N[i]? = some n) && locB sc n && okN n && (decide (op = .add) && decide (o = .Add) || decide (op = .sub) && decide (o = .Sub)) && ckE tx sc e x
    | none => false
  | .expr e, s => match asExpr s with
    | some x => ckE tx sc e x && !isComp x
    | none => false
  | .ret e, s => match asRet s with
    | some (some x) => ckE tx sc e x
    | _ => false
  | .retN, s => match asRet s with
    | some none => true
    | _ => false
  | .ite t a b, s => match asIfS s with
    | some (c, y, z) => ckE tx sc t c && tstB t && ckSs a y && ckSs b z
    | none => false
  | .for t it body, s => match asFor s with
    | some (y, i, b) => ckT tx sc t y && ckIt tx sc it i && ckSs body b && !isSet i
    | none => false
  | .while t body, s => match asWhile s with
    | some (c, b) => ckE tx sc t c && tstB t && ckSs body b
    | none => false
  | .pass, s => asPass s
def ckSs : List S → List Stmt → Bool
  | [], [] => true
  | c :: cs, s :: ss => ckS c s && ckSs cs ss
  | _, _ => false
end
end

/-! ### readings -/
section
variable (K : PySem.W.Frag)
def tG (m : D → St → M St) : TG := fun v σ H Q => ∃ (g : G) (s : St) (d : D), g.H = H ∧ Rel K g ∧ Slots K g s σ ∧ Rep K g d v ∧ Ok K g (m d s) fun g' s' => ∀ σ', Slots K g' s' σ' → Q σ' g'.H
def tGs (m : List D → St → M St) : TGs := fun vs σ H Q => ∃ (g : G) (s : St) (ds : List D), g.H = H ∧ Rel K g ∧ Slots K g s σ ∧ Reps K g ds vs ∧ Ok K g (m ds s) fun g' s' => ∀ σ', Slots K g' s' σ' → Q σ' g'.H
def Stands (p : List D × Option Nat) (h : AH) : Prop := match p.2 with
  | none => True
  | some n => h[n]? = some (.lst p.1)
/-- the iterator gives just these items -/
def ItOk (g : G) (p : List D × Option Nat) (J : L2.It) : Prop := ∀ g', Rel K g' → Ext g g' → Stands p g'.h → ∀ i,
  (∀ d, p.1[i]? = some d → J.go i g'.H ∧ ∀ x H', J.yld i g'.H x H' → ∃ w', Rel K ⟨w', g'.h, H'⟩ ∧ Ext g' ⟨w', g'.h, H'⟩ ∧ Rep K ⟨w', g'.h, H'⟩ d x) ∧
  (p.1.length ≤ i → J.stop i g'.H)
def tI (m : St → M (List D × Option Nat)) : TI := fun σ H R => ∃ (g : G) (s : St), g.H = H ∧ Rel K g ∧ Slots K g s σ ∧ Ok K g (m s) fun g' p => Stands p g'.h ∧ ∀ J, ItOk K g' p J → R J g'.H
def FlP (D : Ends) (g : G) : Fl → Prop
  | .nx s => ∀ σ, Slots K g s σ → D.nx σ g.H
  | .rt d => ∀ v, Rep K g d v → D.rt v g.H
def tS (m : St → M Fl) : TS := fun D σ H => ∃ (g : G) (s : St), g.H = H ∧ Rel K g ∧ Slots K g s σ ∧ Ok K g (m s) fun g' f => FlP K D g' f
end
/-- where one stands, for statements -/
structure AtS (X : Cx) (tx : Tx) (sc : Scope) : Prop where
  toAt : At X tx sc
  xe : X.xe = fun _ _ => False
  cell : ∀ x, sc.names.lookup x = some .cell → X.fn x = true
section
variable {X : Cx} {tx : Tx} {sc : Scope} {T : List Fn} {k : Nat} {K : PySem.W.Frag} {g : G} {s : St} {σ : L2.St} {H : Hp}
theorem PG_imp {e : Expr} {t t' : TG} (h : PG X e t) (i : ∀ v σ H Q, t' v σ H Q → t v σ H Q) : PG X e t' := ⟨fun pins s σ H v u Q I r q => h.run pins s σ H v u Q I r (i v σ H Q q)⟩
theorem PGs_imp {es : List Expr} {t t' : TGs} (h : PGs X es t) (i : ∀ v σ H Q, t' v σ H Q → t v σ H Q) : PGs X es t' := ⟨fun pins s σ H v u Q I r q => h.run pins s σ H v u Q I r (i v σ H Q q)⟩
theorem PS_imp {st : Stmt} {t t' : TS} (h : PS X st t) (i : ∀ D σ H, t' D σ H → t D σ H) : PS X st t' := ⟨fun pins s σ H D I q => h.run pins s σ H D I (i D σ H q)⟩
theorem PSs_imp {st : List Stmt} {t t' : TS} (h : PSs X st t) (i : ∀ D σ H, t' D σ H → t D σ H) : PSs X st t' := ⟨fun pins s σ H D I q => h.run pins s σ H D I (i D σ H q)⟩
theorem fn_at (A : AtS X tx sc) {n : Str} (h : locB sc n = true) : X.fn n = true ∨ X.env.scope.names.lookup n = some .local := by
  rcases locB_ok h with q | q
  · exact .inr (by rw [A.toAt.hsc]; exact q)
  · exact .inl (A.cell n q)
theorem loc_at (A : AtS X tx sc) {n : Str} (h : locB sc n = true) : L2.Loc X.env.scope n := by rw [A.toAt.hsc]; exact locB_ok h

/-- the heap's object n changed -/
theorem Ext.store (r : Rel K g) {n : Nat} {ds es : List D} {ys : List V} (hn : g.h[n]? = some (.lst ds)) (hr : D.rfs es = true) (rs : Reps K g es ys) :
    Ext g ⟨g.w, g.h.set n (.lst es), upd g.H (g.w.ι n) (.lst ys)⟩ ∧ Rel K ⟨g.w, g.h.set n (.lst es), upd g.H (g.w.ι n) (.lst ys)⟩ := by
  have hlt : n < g.h.length := (List.getElem?_eq_some_iff.mp hn).1
  have img : Img g (g.w.ι n) := ⟨n, _, hn, rfl⟩
  have imgs : ∀ a, Img ⟨g.w, g.h.set n (.lst es), upd g.H (g.w.ι n) (.lst ys)⟩ a → Img g a := by
    rintro a ⟨m, o, h1, h2⟩
    have hm : m < (g.h.set n (.lst es)).length := (List.getElem?_eq_some_iff.mp h1).1
    rw [List.length_set] at hm
    exact ⟨m, _, List.getElem?_eq_getElem hm, h2⟩
  have x : Ext g ⟨g.w, g.h.set n (.lst es), upd g.H (g.w.ι n) (.lst ys)⟩ := by
    refine ⟨by simp, fun _ _ => rfl, fun a o e ni => ?_, fun a o e => ?_, fun a t => .inl t, fun a t => t, fun a i => .inl (imgs a i)⟩
    · show upd g.H (g.w.ι n) (.lst ys) a = some o
      rw [upd_ne (fun z => ni (by rw [z]; exact img))]
      exact e
    · by_cases z : a = g.w.ι n
      · subst z
        exact ⟨_, upd_same⟩
      · exact ⟨o, by show upd g.H (g.w.ι n) (.lst ys) a = some o; rw [upd_ne z]; exact e⟩
  refine ⟨x, fun a i => r.img a (imgs a i), fun m p hm hp e => r.inj m p (by simpa using hm) (by simpa using hp) e, fun m o hm => ?_, fun a t => ?_⟩
  · have hm1 : (g.h.set n (.lst es))[m]? = some o := hm
    by_cases z : n = m
    · subst z
      rw [List.getElem?_set_self hlt] at hm1
      cases hm1
      exact ⟨hr, ys, upd_same, Reps.ext r x es rs⟩
    · rw [List.getElem?_set_ne z] at hm1
      have q := r.obj m o hm1
      cases o with
      | lst qs =>
        obtain ⟨q1, xs, e, q2⟩ := q
        refine ⟨q1, xs, ?_, Reps.ext r x qs q2⟩
        show upd g.H (g.w.ι n) (.lst ys) (g.w.ι m) = some (.lst xs)
        rw [upd_ne (fun e' => z (r.inj n m hlt (List.getElem?_eq_some_iff.mp hm1).1 e'.symm))]
        exact e
  · obtain ⟨o, e⟩ := r.dom a t
    exact x.there a o e
mutual
theorem ckT_ok (L : Lk X tx T k) (A : AtS X tx sc) : ∀ (t : Tg) (x : Expr), ckT tx sc t x = true → PG X x (tG X.K (semT (run T k) t))
  | .nm i, x, h => by
    simp only [ckT] at h
    split at h
    · rename_i n hn
      obtain ⟨p, rfl⟩ := asName_eq hn
      simp only [Bool.and_eq_true, decide_eq_true_eq] at h
      refine PG_imp (pg_name (i := i) A.toAt.nd (by rw [A.toAt.hn]; exact h.1.1) (loc_at A h.1.2) (fn_at A h.1.2)) fun v σ H Q q => ?_
      obtain ⟨g, s, d, rfl, r, sl, hv, q⟩ := q
      have q' : Ok X.K g (if i < s.length then ret (s.set i (some d)) else bad) fun g' s' => ∀ σ', Slots X.K g' s' σ' → Q σ' g'.H := q
      split at q'
      · exact Ok.ret r q' _ (sl.set hv)
      · exact (Ok.bad q').elim
    · cases h
  | .tup ts, x, h => by
    simp only [ckT] at h
    split at h
    · rename_i xs hx
      obtain ⟨k0, p, rfl⟩ := asTuple_eq hx
      have hs := ckTs_ok L A ts xs h
      obtain ⟨l1, l2⟩ := assignEach_len (env := X.env) hs.2.1
      refine PG_imp (pg_tup (n := xs.length) L.calm hs.1 l1 l2) fun v σ H Q q => ?_
      obtain ⟨g, s, d, rfl, r, sl, hv, q⟩ := q
      cases d with
      | tup ds =>
        obtain ⟨a, ys, rfl, hq, rs⟩ := rep_tup.mp hv
        have q' : Ok X.K g (semTs (run T k) ts ds s) fun g' s' => ∀ σ', Slots X.K g' s' σ' → Q σ' g'.H := q
        refine ⟨a, ys, rfl, hq, ?_, g, s, ds, rfl, r, sl, rs, q'⟩
        rw [← rs.length, ← hs.2.2]
        obtain ⟨s', h', e, _⟩ := q'
        exact semTs_len e
      | _ => exact (Ok.bad (show Ok X.K g Iv.bad _ from q)).elim
    · cases h
  | .sub a i, x, h => by
    simp only [ckT] at h
    split at h
    · rename_i l r hx
      obtain ⟨p, rfl⟩ := asSub_eq hx
      simp only [Bool.and_eq_true, Bool.not_eq_true'] at h
      refine PG_imp (pg_sub (ckE_ok L A.toAt a l h.1.1).val (ckE_ok L A.toAt i r h.1.2).val set_list (assign_sub h.2)) fun v σ H Q q => ?_
      obtain ⟨g, s, d, rfl, r0, sl, hv, q⟩ := q
      have q' : Ok X.K g (bnd (semE (run T k) a s) fun o => bnd (semE (run T k) i s) fun k0 => bnd (setItem o k0 d) fun _ => ret s) fun g' s' => ∀ σ', Slots X.K g' s' σ' → Q σ' g'.H := q
      refine tE_use r0 sl q'.bnd fun g1 o vo r1 x1 p1 ho => ?_
      refine tE_use r1 (sl.ext r0 x1) p1.bnd fun g2 j vj r2 x2 p2 hj => ?_
      have hd : Rep X.K g2 d v := Rep.ext r1 x2 d (Rep.ext r0 x1 d hv)
      have ho2 := Rep.ext r1 x2 o ho
      obtain ⟨s', h', e, fin⟩ := p2
      have e' : bnd (setItem o j d) (fun _ => ret s) g2.h = some (s', h') := e
      unfold bnd at e'
      split at e'
      · rename_i u h1 e1
        simp only [ret, Option.some.injEq, Prod.mk.injEq] at e'
        obtain ⟨rfl, rfl⟩ := e'
        unfold setItem at e1
        split at e1
        · rename_i n jj
          split at e1
          · rename_i ds hds
            split at e1
            · rename_i kk hk
              split at e1
              · rename_i hrf
                simp only [Option.some.injEq, Prod.mk.injEq] at e1
                obtain ⟨_, rfl⟩ := e1
                obtain ⟨_, rfl⟩ := rep_ref.mp ho2
                obtain ⟨hrs, xs, hx1, rs⟩ := r2.obj n _ hds
                have hrs2 : D.rfs (ds.set kk d) = true := by
                  rw [D.rfs_all] at hrs ⊢
                  rw [List.all_eq_true] at hrs ⊢
                  intro z hz
                  rcases List.mem_or_eq_of_mem_set hz with hz | rfl
                  · exact hrs z hz
                  · exact hrf
                obtain ⟨x3, r3⟩ := Ext.store r2 hds hrs2 (Reps.set hd kk rs)
                refine ⟨_, xs, jj, kk, rfl, rep_int.mp hj, hx1, by rw [← rs.length]; exact hk, ?_⟩
                exact fin _ _ r3 x3 σ ((((sl.ext r0 x1).ext r1 x2)).ext r2 x3)
              · cases e1
            · cases e1
          · cases e1
        · cases e1
      · cases e'
    · cases h
theorem ckTs_ok (L : Lk X tx T k) (A : AtS X tx sc) : ∀ (ts : List Tg) (xs : List Expr), ckTs tx sc ts xs = true → PGs X xs (tGs X.K (semTs (run T k) ts)) ∧ (xs.all fun e => !isStar e) = true ∧ ts.length = xs.length
  | [], [], _ => ⟨PGs_imp pgs_nil fun vs σ H Q q => by
      obtain ⟨g, s, ds, rfl, r, sl, rs, q⟩ := q
      cases ds with
      | nil =>
        simp only [Reps] at rs
        exact ⟨rs, Ok.ret r q σ sl⟩
      | cons d ds => exact (Ok.bad q).elim, rfl, rfl⟩
  | [], x :: xs, h => by simp [ckTs] at h
  | t :: ts, [], h => by simp [ckTs] at h
  | t :: ts, x :: xs, h => by
    simp only [ckTs, Bool.and_eq_true, Bool.not_eq_true'] at h
    obtain ⟨i1, i2, i3⟩ := ckTs_ok L A ts xs h.2
    refine ⟨PGs_imp (pgs_cons (ckT_ok L A t x h.1.1) i1 (by rw [assignEach_cons h.1.2]; rfl)) fun vs σ H Q q => ?_, by rw [List.all_cons, h.1.2, i2]; rfl, by simp [i3]⟩
    obtain ⟨g, s, ds, rfl, r, sl, rs, q⟩ := q
    cases ds with
    | nil => exact (Ok.bad q).elim
    | cons d ds =>
      simp only [Reps] at rs
      obtain ⟨y, ys, rfl, hd, rs⟩ := rs
      refine ⟨y, ys, rfl, g, s, d, rfl, r, sl, hd, ?_⟩
      have q' : Ok X.K g (bnd (semT (run T k) t d s) fun s' => semTs (run T k) ts ds s') fun g' s' => ∀ σ', Slots X.K g' s' σ' → Q σ' g'.H := q
      exact q'.bnd.mono fun g1 s1 r1 x1 p σ1 sl1 => ⟨g1, s1, ds, rfl, r1, sl1, Reps.ext r x1 ds rs, p⟩
theorem semTs_len {C : Cal} : ∀ {ts : List Tg} {ds : List D} {s s' : St} {h h' : AH}, semTs C ts ds s h = some (s', h') → ds.length = ts.length
  | [], [], _, _, _, _, _ => rfl
  | [], d :: ds, _, _, _, _, e => by simp [semTs, bad] at e
  | t :: ts, [], _, _, _, _, e => by simp [semTs, bad] at e
  | t :: ts, d :: ds, s, s', h, h', e => by
    simp only [semTs, bnd] at e
    split at e
    · simp [semTs_len e]
    · cases e
end
/-! what is walked -/
theorem PI_imp {tg e : Expr} {t t' : TI} (h : PI X tg e t) (i : ∀ σ H R, t' σ H R → t σ H R) : PI X tg e t' := ⟨fun pins s σ H R I q => h.run pins s σ H R I (i σ H R q)⟩
theorem range_ok {lo : Int} {n : Nat} : ItOk K g (rangeL lo n, none) (Itr lo n) := by
  intro g' r' x' _ i
  refine ⟨fun d e => ?_, fun h => by show n ≤ i; simpa [rangeL] using h⟩
  have e' : ((List.range n).map fun k : Nat => D.int (lo + (k : Int)))[i]? = some d := e
  rw [List.getElem?_map, Option.map_eq_some_iff] at e'
  obtain ⟨j, e1, rfl⟩ := e'
  obtain ⟨hi, rfl⟩ : i < n ∧ i = j := by
    have hi := (List.getElem?_eq_some_iff.mp e1).1
    rw [List.length_range] at hi
    refine ⟨hi, ?_⟩
    rw [List.getElem?_range hi] at e1
    exact Option.some.inj e1
  refine ⟨hi, fun x H' y => ?_⟩
  obtain ⟨rfl, rfl⟩ := y
  exact ⟨g'.w, r', Ext.refl g', rep_int.mpr rfl⟩
theorem seq_it {p : List D × Option Nat} {a : Addr} {tup : Bool} (hs : ∀ g', Rel K g' → Ext g g' → Stands p g'.h → ∃ xs, (if tup = true then SqT K g'.H a xs else SqL K g'.H a xs) ∧ Reps K g' p.1 xs) :
    ItOk K g p (if tup = true then Itt K a else Itl K a) := by
  intro g' r' x' st i
  obtain ⟨xs, hq, rs⟩ := hs g' r' x' st
  cases tup with
  | true =>
    refine ⟨fun d e => ?_, fun h => ⟨xs, hq, by rw [← rs.length]; exact h⟩⟩
    obtain ⟨v, e1, hv⟩ := rs.get e
    refine ⟨⟨xs, v, hq, e1⟩, fun x H' y => ?_⟩
    obtain ⟨rfl, y⟩ := y
    have := (y xs hq).symm.trans e1
    cases this
    exact ⟨g'.w, r', Ext.refl g', hv⟩
  | false =>
    refine ⟨fun d e => ?_, fun h => ⟨xs, hq, by rw [← rs.length]; exact h⟩⟩
    obtain ⟨v, e1, hv⟩ := rs.get e
    refine ⟨⟨xs, v, hq, e1⟩, fun x H' y => ?_⟩
    obtain ⟨rfl, y⟩ := y
    have := (y xs hq).symm.trans e1
    cases this
    exact ⟨g'.w, r', Ext.refl g', hv⟩
theorem ckIt_ok (L : Lk X tx T k) (A : AtS X tx sc) (tg : Expr) : ∀ (it : It) (x : Expr), ckIt tx sc it x = true → PI X tg x (tI X.K (semIt (run T k) it))
  | .range1 a, x, h => by
    simp only [ckIt] at h
    split at h
    · rename_i n y hx
      obtain ⟨q, p, rfl⟩ := asCall_eq hx
      simp only [Bool.and_eq_true, decide_eq_true_eq] at h
      obtain ⟨⟨⟨rfl, h1⟩, h2⟩, h3⟩ := h
      obtain ⟨hok, hgl, hm⟩ := isBlt_ok L A.toAt h1
      refine PI_imp (pi_range1 hgl hm (pa_cons (ckE_ok L A.toAt a y h3).val pa_nil (star_cons h2)) (star_cons h2)) fun σ H R q => ?_
      obtain ⟨g, s, rfl, r0, sl, q⟩ := q
      show tE X.K (semE (run T k) a) σ g.H _
      refine tE_use r0 sl q.bnd fun g' d v r' x' p hv => ?_
      split at p
      · rename_i i
        split at p
        · rename_i hr
          simp only [rgOk, Bool.and_eq_true, decide_eq_true_eq] at hr
          rw [rep_int.mp hv]
          exact ⟨i, rfl, hr.1, hr.2, (Ok.ret r' p).2 _ range_ok⟩
        · exact (Ok.bad p).elim
      · exact (Ok.bad p).elim
    · cases h
  | .range2 a b, x, h => by
    simp only [ckIt] at h
    split at h
    · rename_i n y z hx
      obtain ⟨q, p, rfl⟩ := asCall_eq hx
      simp only [Bool.and_eq_true, decide_eq_true_eq] at h
      obtain ⟨⟨⟨⟨⟨rfl, h1⟩, h2⟩, h2'⟩, h3⟩, h4⟩ := h
      obtain ⟨hok, hgl, hm⟩ := isBlt_ok L A.toAt h1
      have s2 : starEach [z] X.env = [(false, eval z X.env)] := star_cons h2'
      refine PI_imp (pi_range2 hgl hm (pa_cons (ckE_ok L A.toAt a y h3).val (pa_cons (ckE_ok L A.toAt b z h4).val pa_nil s2) (star_cons h2)) (by rw [star_cons h2, s2]) s2) fun σ H R q => ?_
      obtain ⟨g, s, rfl, r0, sl, q⟩ := q
      unfold iRng2 tCons tNil
      refine tE_use r0 sl q.bnd fun g' d v r' x' p hv => ?_
      refine tE_use r' (sl.ext r0 x') p.bnd fun g2 d2 v2 r2 x2 p2 hv2 => ?_
      split at p2
      · rename_i i j
        split at p2
        · rename_i hr
          simp only [rgOk, Bool.and_eq_true, decide_eq_true_eq] at hr
          rw [rep_int.mp hv, rep_int.mp hv2]
          exact ⟨i, j, rfl, ⟨hr.1.1, hr.1.2, hr.2.1, hr.2.2⟩, (Ok.ret r2 p2).2 _ range_ok⟩
        · exact (Ok.bad p2).elim
      · exact (Ok.bad p2).elim
    · cases h
  | .seq e, x, h => by
    have he := (ckE_ok L A.toAt e x h).val
    refine ⟨fun pins s σ H R I q => ?_⟩
    obtain ⟨g, st, rfl, r0, sl, q⟩ := q
    obtain ⟨d, h1, e1, q2⟩ := q.bnd
    have hsq : ∃ ds, seqOf h1 d = some ds := by
      obtain ⟨p, h2, e2, _⟩ := q
      simp only [semIt, bnd, e1, Iv.ask] at e2
      cases z : seqOf h1 d with
      | none => rw [z] at e2; cases e2
      | some ds => exact ⟨ds, rfl⟩
    have fin : ∀ {tup : Bool} (g' : G) (p : List D × Option Nat) (xs : List V) (a : Addr), Rel X.K g' → Ok X.K g' (ret p) (fun g' p => Stands p g'.h ∧ ∀ J, ItOk X.K g' p J → R J g'.H) → ItOk X.K g' p (if tup = true then Itt X.K a else Itl X.K a) →
        R (if tup = true then Itt X.K a else Itl X.K a) g'.H := fun g' p xs a r' o hi => (Ok.ret r' o).2 _ hi
    cases d with
    | tup ds =>
      refine (pi_tup (tg := tg) he).run pins s σ g.H R I ?_
      refine ⟨g, st, rfl, r0, sl, .tup ds, h1, e1, fun w' H' r' x' v hv => ?_⟩
      have p := q2 w' H' r' x'
      obtain ⟨ds', e2, p⟩ := (show Ok X.K _ (bnd (Iv.ask fun h => seqOf h (.tup ds)) fun ds => ret (ds, none)) _ from p).bnd.ask
      simp only [seqOf, Option.some.injEq] at e2
      subst e2
      have p := Ok.ret r' p
      obtain ⟨a, xs, rfl, hq, rs⟩ := rep_tup.mp hv
      refine ⟨a, rfl, ⟨xs, hq⟩, fin (tup := true) _ _ xs a r' p (seq_it (tup := true) fun g' r2 x2 _ => ⟨xs, x2.tup r' hq, Reps.ext r' x2 ds rs⟩)⟩
    | lst ds =>
      refine (pi_list (tg := tg) he).run pins s σ g.H R I ?_
      refine ⟨g, st, rfl, r0, sl, .lst ds, h1, e1, fun w' H' r' x' v hv => ?_⟩
      have p := q2 w' H' r' x'
      obtain ⟨ds', e2, p⟩ := (show Ok X.K _ (bnd (Iv.ask fun h => seqOf h (.lst ds)) fun ds => ret (ds, none)) _ from p).bnd.ask
      simp only [seqOf, Option.some.injEq] at e2
      subst e2
      have p := Ok.ret r' p
      obtain ⟨a, xs, rfl, hq, rs⟩ := rep_lst.mp hv
      have toL : ∀ {g : G}, SqR X.K g a xs → SqL X.K g.H a xs := fun h => h.elim (fun z => .inl z.1) .inr
      refine ⟨a, rfl, ⟨xs, toL hq⟩, fin (tup := false) _ _ xs a r' p (seq_it (tup := false) fun g' r2 x2 _ => ⟨xs, toL (x2.sqr r' hq), Reps.ext r' x2 ds rs⟩)⟩
    | ref n =>
      refine (pi_list (tg := tg) he).run pins s σ g.H R I ?_
      refine ⟨g, st, rfl, r0, sl, .ref n, h1, e1, fun w' H' r' x' v hv => ?_⟩
      have p := q2 w' H' r' x'
      obtain ⟨ds', e2, p⟩ := (show Ok X.K _ (bnd (Iv.ask fun h => seqOf h (.ref n)) fun ds => ret (ds, some n)) _ from p).bnd.ask
      have p := Ok.ret r' p
      obtain ⟨hn, rfl⟩ := rep_ref.mp hv
      simp only [seqOf] at e2
      split at e2
      · rename_i es hes
        cases e2
        obtain ⟨_, xs, hx, rs⟩ := r'.obj n _ hes
        refine ⟨_, rfl, ⟨xs, .of hx⟩, fin (tup := false) _ _ xs _ r' p (seq_it (tup := false) fun g' r2 x2 st2 => ?_)⟩
        obtain ⟨_, ys, hy, rs2⟩ := r2.obj n _ st2
        refine ⟨ys, ?_, rs2⟩
        have e3 := x2.ids n hn
        rw [e3] at hy
        exact .of hy
      · cases e2
    | _ => obtain ⟨ds, e⟩ := hsq; simp [seqOf] at e

/-! statements -/
theorem forL_ok {D0 : Ends} {g0 : G} {p : List D × Option Nat} {J : L2.It} (hJ : ItOk K g0 p J) {tg : D → St → M St} {body : St → M Fl} {bS : TS} (hb : ∀ D σ H, tS K body D σ H → bS D σ H)
    {s0 : St} {σ0 : L2.St} {P : Ends → Prop} (r0 : Rel K g0) (sl0 : Slots K g0 s0 σ0) (st0 : Stands p g0.h)
    (h : Ok K g0 (forL p.1 p.2 (fun d s' => bnd (tg d s') fun s'' => body s'') p.1 s0) (FlP K D0)) :
    ∃ W : Nat → Nat → L2.St → Hp → Prop, (∃ m, W 0 m σ0 g0.H) ∧ ∀ i m σ H, W i m σ H →
      (J.stop i H ∧ D0.nx σ H) ∨ (J.go i H ∧ ∃ N : L2.St → Hp → Prop, (∀ σ' H', N σ' H' → ∃ m', m' < m ∧ W (i + 1) m' σ' H') ∧ ∀ x H', J.yld i H x H' → tG K tg x σ H' fun σ2 H2 => bS { D0 with nx := N, ct := N, bk := D0.nx } σ2 H2) := by
  refine ⟨fun i m σ H => m = p.1.length - i ∧ i ≤ p.1.length ∧ ∃ (g : G) (s : St), g.H = H ∧ Rel K g ∧ Ext g0 g ∧ Slots K g s σ ∧ Stands p g.h ∧ Ok K g (forL p.1 p.2 (fun d s' => bnd (tg d s') fun s'' => body s'') (p.1.drop i) s) (FlP K D0),
    ⟨p.1.length, by simp, Nat.zero_le _, g0, s0, rfl, r0, .refl g0, sl0, st0, h⟩, ?_⟩
  rintro i m σ H ⟨rfl, hi, g, s, rfl, r, x, sl, st, q⟩
  obtain ⟨j1, j2⟩ := hJ g r x st i
  by_cases hlt : i < p.1.length
  · have ed : p.1[i]? = some p.1[i] := List.getElem?_eq_getElem hlt
    obtain ⟨go, yl⟩ := j1 _ ed
    rw [List.drop_eq_getElem_cons hlt] at q
    have q' : Ok K g (bnd (bnd (tg p.1[i] s) fun s'' => body s'') fun f => match f with
      | .rt r => ret (.rt r)
      | .nx s' => bnd (stands p.1 p.2) fun _ => forL p.1 p.2 (fun d s' => bnd (tg d s') fun s'' => body s'') (p.1.drop (i + 1)) s') (FlP K D0) := q
    refine .inr ⟨go, fun σ' H' => ∃ (g2 : G) (s2 : St), g2.H = H' ∧ Rel K g2 ∧ Ext g0 g2 ∧ Slots K g2 s2 σ' ∧ Ok K g2 (bnd (stands p.1 p.2) fun _ => forL p.1 p.2 (fun d s' => bnd (tg d s') fun s'' => body s'') (p.1.drop (i + 1)) s2) (FlP K D0), ?_, ?_⟩
    · rintro σ' H' ⟨g2, s2, rfl, r2, x2, sl2, q2⟩
      refine ⟨p.1.length - (i + 1), by omega, rfl, hlt, g2, s2, rfl, r2, x2, sl2, ?_⟩
      obtain ⟨f, h2, e, fin⟩ := q2
      simp only [bnd] at e
      split at e
      · rename_i u h1 e1
        unfold stands at e1
        have hp' : p.2 = none ∨ ∃ n, p.2 = some n := by cases p.2 <;> simp
        rcases hp' with hp | ⟨n, hp⟩
        · rw [hp] at e1
          simp only [Option.some.injEq, Prod.mk.injEq] at e1
          obtain ⟨_, rfl⟩ := e1
          exact ⟨by unfold Stands; rw [hp]; trivial, f, h2, e, fin⟩
        · rw [hp] at e1
          dsimp only at e1
          split at e1
          · rename_i es hes
            split at e1
            · rename_i hbq
              simp only [Option.some.injEq, Prod.mk.injEq] at e1
              obtain ⟨_, rfl⟩ := e1
              exact ⟨by unfold Stands; rw [hp]; rw [← D.beqs_eq hbq]; exact hes, f, h2, e, fin⟩
            · cases e1
          · cases e1
      · cases e
    · intro y H' hy
      obtain ⟨w', r', x', hd⟩ := yl y H' hy
      refine ⟨⟨w', g.h, H'⟩, s, p.1[i], rfl, r', sl.ext r x', hd, ?_⟩
      have q2 : Ok K ⟨w', g.h, H'⟩ (bnd (bnd (tg p.1[i] s) fun s'' => body s'') fun f => match f with
        | .rt r => ret (.rt r)
        | .nx s' => bnd (stands p.1 p.2) fun _ => forL p.1 p.2 (fun d s' => bnd (tg d s') fun s'' => body s'') (p.1.drop (i + 1)) s') (FlP K D0) := by
        obtain ⟨f, h2, e, fin⟩ := q'
        exact ⟨f, h2, e, fun w2 H2 r2 x2 => fin w2 H2 r2 (x'.trans x2)⟩
      refine q2.bnd.bnd.mono fun g3 s3 r3 x3 q3 σ3 sl3 => hb _ _ _ ?_
      refine ⟨g3, s3, rfl, r3, sl3, q3.mono fun g4 f r4 x4 q4 => ?_⟩
      cases f with
      | rt d =>
        have z : FlP K D0 g4 (.rt d) := Ok.ret r4 q4
        exact z
      | nx s4 =>
        intro σ4 sl4
        exact ⟨g4, s4, rfl, r4, ((x.trans x').trans x3).trans x4, sl4, q4⟩
  · have hz : p.1.drop i = [] := List.drop_eq_nil_of_le (by omega)
    rw [hz] at q
    exact .inl ⟨j2 (by omega), Ok.ret r q σ sl⟩
theorem semIt_stands {C : Cal} {it : It} {s : St} {h h' : AH} {p : List D × Option Nat} (e : semIt C it s h = some (p, h')) : Stands p h' := by
  cases it with
  | range1 a =>
    simp only [semIt, bnd] at e
    split at e
    · split at e
      · split at e
        · simp only [ret, Option.some.injEq, Prod.mk.injEq] at e
          rw [← e.1]; trivial
        · cases e
      · cases e
    · cases e
  | range2 a b =>
    simp only [semIt, bnd] at e
    split at e
    · split at e
      · split at e
        · split at e
          · simp only [ret, Option.some.injEq, Prod.mk.injEq] at e
            rw [← e.1]; trivial
          · cases e
        · cases e
      · cases e
    · cases e
  | seq a =>
    simp only [semIt, bnd, Iv.ask] at e
    split at e
    · rename_i d h1 e1
      cases z : seqOf h1 d with
      | none => rw [z] at e; cases e
      | some ds =>
        rw [z] at e
        simp only [ret, Option.some.injEq, Prod.mk.injEq] at e
        obtain ⟨rfl, rfl⟩ := e
        unfold Stands
        cases d with
        | ref n =>
          simp only [seqOf] at z
          split at z
          · rename_i es hes
            cases z
            exact hes
          · cases z
        | _ => trivial
    · cases e
theorem whileW_some {test : St → M Bool} {body : St → M Fl} {s : St} {h : AH} {r : Fl × AH} (e : whileW test body s h = some r) : ∃ n, whileN test body n s h = some r := by
  unfold whileW at e
  split at e
  · rename_i ex
    refine ⟨Classical.choose ex, ?_⟩
    rw [← e]
    exact Classical.choose_spec (Classical.choose_spec ex)
  · cases e
mutual
theorem ckS_ok (L : Lk X tx T k) (A : AtS X tx sc) : ∀ (c : S) (st : Stmt), ckS tx sc c st = true → PS X st (tS X.K (semS (run T k) c))
  | .asg t e, st, h => by
    simp only [ckS] at h
    split at h
    · rename_i y x hx
      obtain ⟨p, rfl⟩ := asAssign_eq hx
      simp only [Bool.and_eq_true, Bool.not_eq_true'] at h
      refine PS_imp (ps_asg (ckE_ok L A.toAt e x h.1.1.1.2).val (ckT_ok L A t y h.1.1.1.1) (swapsS_ok h.1.1.2) (noSwap_ok h.1.2) (by rw [assignEach_cons h.2]; rfl)) fun D σ H q => ?_
      obtain ⟨g, s, rfl, r0, sl, q⟩ := q
      refine tE_use r0 sl q.bnd fun g' d v r' x' p hv => ?_
      refine ⟨g', s, d, rfl, r', sl.ext r0 x', hv, p.bnd.mono fun g2 s2 r2 x2 p2 σ2 sl2 => ?_⟩
      exact Ok.ret r2 p2 σ2 sl2
    · cases h
  | .aug i op e, st, h => by
    simp only [ckS] at h
    split at h
    · rename_i n o x hx
      obtain ⟨q, p, rfl⟩ := asAug_eq hx
      simp only [Bool.and_eq_true, Bool.or_eq_true, decide_eq_true_eq] at h
      obtain ⟨⟨⟨⟨h1, h2⟩, h3⟩, h4⟩, h5⟩ := h
      have hr : ∃ f : Int → Int → Int, PIp X o (ipI f) ∧ ∀ a b d, binD op a b = some d → ∃ i j, a = .int i ∧ b = .int j ∧ d = .int (f i j) := by
        rcases h4 with ⟨rfl, rfl⟩ | ⟨rfl, rfl⟩
        · refine ⟨_, ip_add, fun a b d e => ?_⟩
          cases a <;> cases b <;> simp only [binD, Option.some.injEq] at e <;> first | (cases e; done) | exact ⟨_, _, rfl, rfl, e.symm⟩
        · refine ⟨_, ip_sub, fun a b d e => ?_⟩
          cases a <;> cases b <;> simp only [binD, Option.some.injEq] at e <;> first | (cases e; done) | exact ⟨_, _, rfl, rfl, e.symm⟩
      obtain ⟨f, hp, hf⟩ := hr
      refine PS_imp (ps_aug A.toAt.nd (by rw [A.toAt.hn]; exact h1) (loc_at A h2) (ckE_ok L A.toAt e x h5).val hp (fn_at A h2)) fun D σ H q => ?_
      obtain ⟨g, s, rfl, r0, sl, q⟩ := q
      obtain ⟨a, e1, q⟩ := Ok.optb q
      have e2 : s[i]? = some (some a) := by
        cases z : s[i]? with
        | none => rw [z] at e1; cases e1
        | some o => rw [z] at e1; exact congrArg some e1
      obtain ⟨v, e3, hv⟩ := sl.get i a e2
      refine ⟨v, e3, tE_use r0 sl q.bnd fun g' d w r' x' p hw => ?_⟩
      obtain ⟨z, e4, p⟩ := p.optb
      obtain ⟨ii, jj, rfl, rfl, rfl⟩ := hf a d z e4
      refine ⟨ii, jj, rep_int.mp (Rep.ext r0 x' _ hv), rep_int.mp hw, ?_⟩
      exact Ok.ret r' p _ ((sl.ext r0 x').set (rep_int.mpr rfl))
    · cases h
  | .expr e, st, h => by
    simp only [ckS] at h
    split at h
    · rename_i x hx
      obtain ⟨p, rfl⟩ := asExpr_eq hx
      simp only [Bool.and_eq_true, Bool.not_eq_true'] at h
      refine PS_imp (ps_expr (ckE_ok L A.toAt e x h.1).val (swaps_ok h.2)) fun D σ H q => ?_
      obtain ⟨g, s, rfl, r0, sl, q⟩ := q
      exact tE_use r0 sl q.bnd fun g' d v r' x' p hv => Ok.ret r' p _ (sl.ext r0 x')
    · cases h
  | .ret e, st, h => by
    simp only [ckS] at h
    split at h
    · rename_i x hx
      obtain ⟨p, rfl⟩ := asRet_eq hx
      refine PS_imp (ps_ret (ckE_ok L A.toAt e x h).val) fun D σ H q => ?_
      obtain ⟨g, s, rfl, r0, sl, q⟩ := q
      exact tE_use r0 sl q.bnd fun g' d v r' x' p hv => Ok.ret r' p v hv
    · cases h
  | .retN, st, h => by
    simp only [ckS] at h
    split at h
    · rename_i hx
      obtain ⟨p, rfl⟩ := asRet_eq hx
      refine PS_imp ps_retN fun D σ H q => ?_
      obtain ⟨g, s, rfl, r0, sl, q⟩ := q
      exact Ok.ret r0 q _ (rep_non.mpr rfl)
    · cases h
  | .ite t a b, st, h => by
    simp only [ckS] at h
    split at h
    · rename_i c y z hx
      obtain ⟨p, rfl⟩ := asIfS_eq hx
      simp only [Bool.and_eq_true] at h
      refine PS_imp (ps_if ((ckE_ok L A.toAt t c h.1.1.1).tst h.1.1.2) (ckSs_ok L A a y h.1.2) (ckSs_ok L A b z h.2)) fun D σ H q => ?_
      obtain ⟨g, s, rfl, r0, sl, q⟩ := q
      have e0 : semS (run T k) (.ite t a b) s = bnd (semB (run T k) t s) fun c => if c = true then semSs (run T k) a s else semSs (run T k) b s := by
        funext h0
        simp only [semB, semS, bnd, opt]
        cases semE (run T k) t s h0 with
        | none => rfl
        | some p =>
          obtain ⟨d, h1⟩ := p
          rfl
      rw [e0] at q
      refine tT_use r0 sl q.bnd fun g' c r' x' p => ?_
      split
      · rename_i hc
        rw [if_pos hc] at p
        exact ⟨g', s, rfl, r', sl.ext r0 x', p⟩
      · rename_i hc
        rw [if_neg hc] at p
        exact ⟨g', s, rfl, r', sl.ext r0 x', p⟩
    · cases h
  | .for t it body, st, h => by
    simp only [ckS] at h
    split at h
    · rename_i y i b hx
      obtain ⟨p, rfl⟩ := asFor_eq hx
      simp only [Bool.and_eq_true, Bool.not_eq_true'] at h
      have hfold : ∀ x, foldedSetIterable i X.env x = pure x := fun x => by
        have := h.2
        cases i <;> first | rfl | simp [isSet] at this
      refine PS_imp (ps_for (by rw [A.xe]; exact PassesOwn.never) L.calm (ckIt_ok L A y it i h.1.1.2) (ckT_ok L A t y h.1.1.1) (ckSs_ok L A body b h.1.2) hfold) fun D σ H q => ?_
      obtain ⟨g, s, rfl, r0, sl, q⟩ := q
      have q' : Ok X.K g (bnd (semIt (run T k) it s) fun p => forL p.1 p.2 (fun d s' => bnd (semT (run T k) t d s') fun s'' => semSs (run T k) body s'') p.1 s) (FlP X.K D) := q
      obtain ⟨pp, h1, e1, fin⟩ := q'.bnd
      refine ⟨g, s, rfl, r0, sl, pp, h1, e1, fun w' H' r' x' => ⟨?_, fun J hJ => ?_⟩⟩
      · -- the walked list stands where it was evaluated
        exact semIt_stands e1
      · exact forL_ok (P := fun _ => True) hJ (fun D σ H q => q) r' (sl.ext r0 x') (semIt_stands e1) (fin w' H' r' x')
    · cases h
  | .while t body, st, h => by
    simp only [ckS] at h
    split at h
    · rename_i c b hx
      obtain ⟨p, rfl⟩ := asWhile_eq hx
      simp only [Bool.and_eq_true] at h
      refine PS_imp (ps_while (by rw [A.xe]; exact PassesOwn.never) ((ckE_ok L A.toAt t c h.1.1).tst h.1.2) (ckSs_ok L A body b h.2)) fun D σ H q => ?_
      obtain ⟨g, s, rfl, r0, sl, q⟩ := q
      have q' : Ok X.K g (whileW (fun s' => semB (run T k) t s') (fun s' => semSs (run T k) body s') s) (FlP X.K D) := q
      obtain ⟨f, h1, e1, fin⟩ := q'
      obtain ⟨n, en⟩ := whileW_some e1
      refine ⟨fun m σ H => ∃ (g : G) (s : St), g.H = H ∧ Rel X.K g ∧ Slots X.K g s σ ∧ Ok X.K g (whileN (fun s' => semB (run T k) t s') (fun s' => semSs (run T k) body s') m s) (FlP X.K D),
        ⟨n, g, s, rfl, r0, sl, f, h1, en, fin⟩, ?_⟩
      rintro m σ1 H1 ⟨g1, s1, rfl, r1, sl1, q1⟩
      cases m with
      | zero => exact (Ok.bad q1).elim
      | succ m =>
        have q2 : Ok X.K g1 (bnd (semB (run T k) t s1) fun k0 => if k0 = true then bnd (semSs (run T k) body s1) fun f => match f with
          | .rt r => ret (.rt r)
          | .nx s' => whileN (fun s' => semB (run T k) t s') (fun s' => semSs (run T k) body s') m s'
          else ret (.nx s1)) (FlP X.K D) := q1
        refine tT_use r1 sl1 q2.bnd fun g2 c r2 x2 p2 => ?_
        split
        · rename_i hc
          rw [if_pos hc] at p2
          refine ⟨fun σ' H' => ∃ (g : G) (s : St), g.H = H' ∧ Rel X.K g ∧ Slots X.K g s σ' ∧ Ok X.K g (whileN (fun s' => semB (run T k) t s') (fun s' => semSs (run T k) body s') m s) (FlP X.K D), fun σ' H' z => ⟨m, Nat.lt_succ_self m, z⟩, ?_⟩
          refine ⟨g2, s1, rfl, r2, sl1.ext r1 x2, p2.bnd.mono fun g3 f r3 x3 p3 => ?_⟩
          cases f with
          | rt d =>
            have z : FlP X.K D g3 (.rt d) := Ok.ret r3 p3
            exact z
          | nx s3 => exact fun σ3 sl3 => ⟨g3, s3, rfl, r3, sl3, p3⟩
        · rename_i hc
          rw [if_neg hc] at p2
          exact Ok.ret r2 p2 _ (sl1.ext r1 x2)
    · cases h
  | .pass, st, h => by
    simp only [ckS] at h
    obtain ⟨p, rfl⟩ := asPass_eq h
    refine PS_imp ps_pass fun D σ H q => ?_
    obtain ⟨g, s, rfl, r0, sl, q⟩ := q
    exact Ok.ret r0 q _ sl
theorem ckSs_ok (L : Lk X tx T k) (A : AtS X tx sc) : ∀ (cs : List S) (sts : List Stmt), ckSs tx sc cs sts = true → PSs X sts (tS X.K (semSs (run T k) cs))
  | [], [], _ => PSs_imp pss_nil fun D σ H q => by
    obtain ⟨g, s, rfl, r0, sl, q⟩ := q
    exact Ok.ret r0 q _ sl
  | [], s :: ss, h => by simp [ckSs] at h
  | c :: cs, [], h => by simp [ckSs] at h
  | c :: cs, st :: sts, h => by
    simp only [ckSs, Bool.and_eq_true] at h
    refine PSs_imp (pss_cons (ckS_ok L A c st h.1) (ckSs_ok L A cs sts h.2)) fun D σ H q => ?_
    obtain ⟨g, s, rfl, r0, sl, q⟩ := q
    have q' : Ok X.K g (bnd (semS (run T k) c s) fun f => match f with
      | .rt r => ret (.rt r)
      | .nx s' => semSs (run T k) cs s') (FlP X.K D) := q
    refine ⟨g, s, rfl, r0, sl, q'.bnd.mono fun g' f r' x' p => ?_⟩
    cases f with
    | rt d =>
      have z : FlP X.K D g' (.rt d) := Ok.ret r' p
      exact z
    | nx s' => exact fun σ' sl' => ⟨g', s', rfl, r', sl', p⟩
end
end
end Iv

set_option maxHeartbeats 4000000
/-! Fn: defs, and the whole text. -/
namespace Iv
open PySem L2 PySem.Spec PyProof.Rows
section
variable {K : PySem.W.Frag} {g g1 : G}
/-- what was made behind n is let go -/
def cutW (g1 : G) (n : Nat) : W := ⟨g1.w.ι, fun a => g1.w.T a ∧ ¬ ∃ k, n ≤ k ∧ k < g1.h.length ∧ g1.w.ι k = a⟩
theorem take_get {h : AH} {n m : Nat} {o : AO} (e : (h.take n)[m]? = some o) : m < n ∧ h[m]? = some o := by
  rw [List.getElem?_take] at e
  split at e
  · exact ⟨by assumption, e⟩
  · cases e
theorem gone (r : Rel K g) (x : Ext g g1) (r1 : Rel K g1) {k : Nat} (h0 : g.h.length ≤ k) (h1 : k < g1.h.length) : ¬ Img g (g1.w.ι k) ∧ g.H (g1.w.ι k) = none := by
  have ni : ¬ Img g (g1.w.ι k) := by
    rintro ⟨m, o, hm, e⟩
    have lm : m < g.h.length := (List.getElem?_eq_some_iff.mp hm).1
    rw [← x.ids m lm] at e
    have := r1.inj m k (Nat.lt_of_lt_of_le lm x.len) h1 e
    omega
  refine ⟨ni, ?_⟩
  rcases x.inew _ ⟨k, _, List.getElem?_eq_getElem h1, rfl⟩ with z | z
  · exact absurd z ni
  · exact z
theorem cut_ok (r : Rel K g) (x : Ext g g1) (r1 : Rel K g1) : Rel K ⟨cutW g1 g.h.length, g1.h.take g.h.length, g1.H⟩ ∧ Ext g ⟨cutW g1 g.h.length, g1.h.take g.h.length, g1.H⟩ := by
  have hl : (g1.h.take g.h.length).length = g.h.length := by rw [List.length_take]; exact Nat.min_eq_left x.len
  have noDrop : ∀ {m : Nat}, m < g.h.length → ¬ ∃ k, g.h.length ≤ k ∧ k < g1.h.length ∧ g1.w.ι k = g1.w.ι m := by
    rintro m hm ⟨k, h1, h2, h3⟩
    have := r1.inj k m h2 (Nat.lt_of_lt_of_le hm x.len) h3
    omega
  refine ⟨⟨?_, ?_, ?_, ?_⟩, ⟨?_, ?_, x.keep, x.there, ?_, ?_, ?_⟩⟩
  · rintro a ⟨m, o, hm, e⟩
    obtain ⟨lm, hm'⟩ := take_get hm
    have e' : g1.w.ι m = a := e
    subst e'
    exact ⟨r1.img _ ⟨m, o, hm', rfl⟩, noDrop lm⟩
  · intro m n hm hn e
    have hm' : m < (g1.h.take g.h.length).length := hm
    have hn' : n < (g1.h.take g.h.length).length := hn
    rw [hl] at hm' hn'
    exact r1.inj m n (Nat.lt_of_lt_of_le hm' x.len) (Nat.lt_of_lt_of_le hn' x.len) e
  · intro m o hm
    obtain ⟨lm, hm'⟩ := take_get hm
    have q := r1.obj m o hm'
    cases o with
    | lst ds =>
      obtain ⟨q1, xs, e, q2⟩ := q
      exact ⟨q1, xs, e, Reps.plain (w := g1.w) (w' := cutW g1 g.h.length) (h := g1.h) (H := g1.H) (fun b hb => hb.1) ds q1 q2⟩
  · rintro a ⟨ht, _⟩
    exact r1.dom a ht
  · show g.h.length ≤ (g1.h.take g.h.length).length
    rw [hl]
    exact Nat.le_refl _
  · exact x.ids
  · rintro a ⟨ht, _⟩
    exact x.tnew a ht
  · intro a ht
    refine ⟨x.told a ht, ?_⟩
    rintro ⟨k, h1, h2, rfl⟩
    obtain ⟨o, e⟩ := r.dom _ ht
    rw [(gone r x r1 h1 h2).2] at e
    cases e
  · rintro a ⟨m, o, hm, e⟩
    obtain ⟨lm, hm'⟩ := take_get hm
    exact x.inew a ⟨m, o, hm', e⟩
mutual
theorem snap_ok {n : Nat} (r1 : Rel K g1) (hn : n ≤ g1.h.length) : ∀ (d : D) {b : D} {v : V}, snap n g1.h d = some b → Rep K g1 d v → Rep K ⟨cutW g1 n, g1.h.take n, g1.H⟩ b v
  | .non, b, v, e, q => by simp only [snap, Option.some.injEq] at e; subst e; exact rep_non.mpr (rep_non.mp q)
  | .bl _, b, v, e, q => by simp only [snap, Option.some.injEq] at e; subst e; exact rep_bl.mpr (rep_bl.mp q)
  | .int _, b, v, e, q => by simp only [snap, Option.some.injEq] at e; subst e; exact rep_int.mpr (rep_int.mp q)
  | .str _, b, v, e, q => by simp only [snap, Option.some.injEq] at e; subst e; exact rep_str.mpr (rep_str.mp q)
  | .ref k, b, v, e, q => by
    obtain ⟨hk, rfl⟩ := rep_ref.mp q
    simp only [snap] at e
    split at e
    · rename_i hlt
      cases e
      refine rep_ref.mpr ⟨?_, rfl⟩
      show k < (g1.h.take n).length
      rw [List.length_take]
      omega
    · rename_i hlt
      split at e
      · rename_i ds hds
        cases e
        obtain ⟨q1, xs, e1, q2⟩ := r1.obj k _ hds
        refine rep_lst.mpr ⟨_, xs, rfl, .inl ⟨.inl e1, fun z => z.2 ⟨k, by omega, hk, rfl⟩⟩, ?_⟩
        exact Reps.plain (w := g1.w) (w' := cutW g1 n) (h := g1.h) (H := g1.H) (fun b hb => hb.1) ds q1 q2
      · cases e
  | .tup ds, b, v, e, q => by
    simp only [snap, Option.map_eq_some_iff] at e
    obtain ⟨es, e1, rfl⟩ := e
    obtain ⟨a, xs, rfl, hq, rs⟩ := rep_tup.mp q
    exact rep_tup.mpr ⟨a, xs, rfl, hq, snaps_ok r1 hn ds e1 rs⟩
  | .lst ds, b, v, e, q => by
    simp only [snap] at e
    split at e
    · rename_i hr
      cases e
      exact Rep.plain (w := g1.w) (w' := cutW g1 n) (h := g1.h) (H := g1.H) (fun b hb => hb.1) (.lst ds) (by simpa only [D.rf] using hr) q
    · cases e
  | .dct _ _, b, v, e, q => by simp only [Rep] at q
theorem snaps_ok {n : Nat} (r1 : Rel K g1) (hn : n ≤ g1.h.length) : ∀ (ds : List D) {bs : List D} {vs : List V}, snaps n g1.h ds = some bs → Reps K g1 ds vs → Reps K ⟨cutW g1 n, g1.h.take n, g1.H⟩ bs vs
  | [], bs, vs, e, q => by
    simp only [snaps, Option.some.injEq] at e
    subst e
    simp only [Reps] at q
    subst q
    exact Reps.nil
  | d :: ds, bs, vs, e, q => by
    simp only [snaps] at e
    split at e
    · rename_i p ps e1 e2
      cases e
      simp only [Reps] at q
      obtain ⟨y, ys, rfl, h1, h2⟩ := q
      exact Reps.cons (snap_ok r1 hn d e1 h1) (snaps_ok r1 hn ds e2 h2)
    · cases e
end
theorem fin_ok (r : Rel K g) (x : Ext g g1) (r1 : Rel K g1) {own : Bool} {d b : D} {v : V} {h2 : AH} (q : Rep K g1 d v) (e : fin own g.h.length d g1.h = some (b, h2)) :
    ∃ w2, Rel K ⟨w2, h2, g1.H⟩ ∧ Ext g ⟨w2, h2, g1.H⟩ ∧ Rep K ⟨w2, h2, g1.H⟩ b v := by
  obtain ⟨rc, xc⟩ := cut_ok r x r1
  unfold fin at e
  split at e
  · unfold owned at e
    split at e
    · rename_i k
      split at e
      · cases e
      · rename_i hlt
        split at e
        · rename_i o ho
          simp only [Option.some.injEq, Prod.mk.injEq] at e
          obtain ⟨rfl, rfl⟩ := e
          obtain ⟨hk, rfl⟩ := rep_ref.mp q
          have hge : g.h.length ≤ k := by omega
          cases o with
          | lst ds =>
            obtain ⟨q1, xs, e1, q2⟩ := r1.obj k _ ho
            have fresh := (gone r x r1 hge hk).2
            let gc : G := ⟨cutW g1 g.h.length, g1.h.take g.h.length, g1.H⟩
            have hT : ∀ b, (gc.mark (g1.w.ι k)).w.T b → g1.w.T b := fun b hb => hb.elim (fun z => z.1) fun z => by rw [z]; exact r1.img _ ⟨k, _, ho, rfl⟩
            have rm : Rel K (gc.mark (g1.w.ι k)) := by
              refine ⟨fun a i => .inl (rc.img a i), rc.inj, fun m o hm => ?_, fun a ha => r1.dom a (hT a ha)⟩
              obtain ⟨lm, hm'⟩ := take_get hm
              have z := r1.obj m o hm'
              cases o with
              | lst es =>
                obtain ⟨z1, ys, z2, z3⟩ := z
                exact ⟨z1, ys, z2, Reps.plain (w := g1.w) (w' := (gc.mark (g1.w.ι k)).w) (h := g1.h) (H := g1.H) hT es z1 z3⟩
            have ht : ¬ gc.w.T (g1.w.ι k) := fun z => z.2 ⟨k, hge, hk, rfl⟩
            obtain ⟨w', x', r', e'⟩ := Ext.track (g := gc) xc rc fresh ht e1 rm (Reps.plain (w := g1.w) (w' := (gc.mark (g1.w.ι k)).w) (h := g1.h) (H := g1.H) hT ds q1 q2) q1
            have hl : (g1.h.take g.h.length).length = g.h.length := by rw [List.length_take]; exact Nat.min_eq_left x.len
            refine ⟨w', r', x', rep_ref.mpr ⟨?_, ?_⟩⟩
            · show g.h.length < (g1.h.take g.h.length ++ [AO.lst ds]).length
              rw [List.length_append, hl]
              exact Nat.lt_succ_self _
            · have e2 : w'.ι (g1.h.take g.h.length).length = g1.w.ι k := e'
              rw [hl] at e2
              show V.ref _ = V.ref (w'.ι g.h.length)
              rw [e2]
        · cases e
    · cases e
  · split at e
    · rename_i b' hb
      simp only [Option.some.injEq, Prod.mk.injEq] at e
      obtain ⟨rfl, rfl⟩ := e
      exact ⟨_, rc, xc, snap_ok r1 x.len d hb q⟩
    · cases e
end

/-! ### the text's defs -/
structure FnT where
  name : Str
  st : Stmt
  N : List Str
  ps : List Str
  fn : Fn
def scB (N ps : List Str) (sc : Scope) : Bool := decide (sc.kind = .function) && decide (sc.isCoroutine = false) && decide (sc.isGenerator = false) && decide N.Nodup && decide (N.take ps.length = ps) &&
  ps.all (fun x => locB sc x) && sc.names.all fun y => decide (y.2 ≠ .free)
theorem scB_ok {N ps : List Str} {sc : Scope} (h : scB N ps sc = true) : FnScope N ps sc := by
  simp only [scB, Bool.and_eq_true, decide_eq_true_eq, List.all_eq_true] at h
  obtain ⟨⟨⟨⟨⟨⟨h1, h2⟩, h3⟩, h4⟩, h5⟩, h6⟩, h7⟩ := h
  exact ⟨h1, h2, h3, h4, h5, fun x hx => locB_ok (h6 x hx), fun y hy => h7 y hy⟩
def ckFn (tx : Tx) (t : FnT) : Bool := scB t.N t.ps (defScope t.st) && decide (t.fn.np = t.ps.length) && decide (t.fn.ns = t.N.length) && ckSs { tx with N := t.N } (defScope t.st) t.fn.body (defBody t.st)
/-- a def of the text as it stands behind the top (defaults allowed) -/
structure FunG (K : PySem.W.Frag) (x qual : Str) (st : Stmt) (f : Addr) (fd : FuncData) : Prop where
  ex : ∃ (oc : Value) (od : Option Addr) (dV kV doc pm : Value) (an : Option Addr) (cdv ct : Value) (osl : Array (Option Value)),
    fd = PySem.W.fnOf x qual (defArgs st) (defBody st) (defScope st) dV kV doc pm an cdv ct ∧ K.lookup f = some ⟨oc, od, .func fd, osl⟩ ∧ PySem.W.codeIn K cdv qual = true
  kp : PySem.W.keepIn K (.ref f) = true
structure Hd (K : PySem.W.Frag) (mg : Str → Option Value) (tx : Tx) (tbl : List FnT) : Prop where
  fn : ∀ t ∈ tbl, ∃ a fd, mg t.name = some (.ref a) ∧ FunG K t.name t.name t.st a fd
  sh : ∀ sh ∈ tx.shapes, ∃ t a fd, tbl[sh.f]? = some t ∧ mg t.name = some (.ref a) ∧ FunG K t.name t.name t.st a fd ∧ ShOk K fd t.ps sh
  fns : tx.fns = tbl.map fun t => (t.name, t.ps)
  gl : ∀ p ∈ tx.gl, ∃ u v, mg p.1 = some u ∧ RelV v u ∧ ∀ g, Rep K g p.2 v
  blt : ∀ x ∈ tx.blt, mg x = none
  ck : tbl.all (ckFn tx) = true
theorem start_slots {K : PySem.W.Frag} {g : G} {N : List Str} {fn : Fn} {ds : List D} {vs : List V} (rs : Reps K g ds vs) (hn : fn.ns = N.length) : Slots K g (start fn ds) (L2.start N vs) := by
  have hl := rs.length
  refine ⟨by simp [start, L2.start, hl, hn], fun i d e => ?_⟩
  unfold start at e
  by_cases hi : i < ds.length
  · rw [List.getElem?_append_left (by simpa using hi), List.getElem?_map, Option.map_eq_some_iff] at e
    obtain ⟨d', e1, e2⟩ := e
    cases e2
    obtain ⟨v, e3, q⟩ := rs.get e1
    refine ⟨v, ?_, q⟩
    unfold L2.start
    rw [List.getElem?_append_left (by simpa [← hl] using hi), List.getElem?_map, e3]
    rfl
  · rw [List.getElem?_append_right (by simpa using Nat.le_of_not_lt hi), List.getElem?_replicate] at e
    split at e
    · cases e
    · cases e
section
variable {P : Program} {w : World} {K : PySem.W.Frag} {mg : Str → Option Value} {base : Heap} {tx : Tx} {tbl : List FnT}
theorem T_get {f : Nat} {t : FnT} (e : tbl[f]? = some t) : (tbl.map (·.fn))[f]? = some t.fn := by rw [List.getElem?_map, e]; rfl
theorem T_getD {f : Nat} {t : FnT} (e : tbl[f]? = some t) : (tbl.map (·.fn)).getD f default = t.fn := by rw [List.getD_eq_getElem?_getD, T_get e]; rfl
/-- every def does what its table says, at any depth for which there is room -/
theorem all_ok (h : Hd K mg tx tbl) : ∀ (k f : Nat) (t : FnT) (a : Addr) (fd : FuncData), tbl[f]? = some t → mg t.name = some (.ref a) → FunG K t.name t.name t.st a fd → FnOk P w K mg base CX0 k a fd t.ps (spOf K (tbl.map (·.fn)) k f) := by
  intro k
  have ckf : ∀ {f : Nat} {t : FnT}, tbl[f]? = some t → ckFn tx t = true := fun {f t} e => List.all_eq_true.mp h.ck t (List.mem_of_getElem? e)
  have lens : ∀ {k f : Nat} {t : FnT}, tbl[f]? = some t → ∀ vs H Q E, spOf K (tbl.map (·.fn)) k f vs H Q E → vs.length = t.ps.length := by
    intro k f t e vs H Q E q
    obtain ⟨g, ds, _, _, _, hl, _⟩ := q
    have c := ckf e
    simp only [ckFn, Bool.and_eq_true, decide_eq_true_eq] at c
    rw [hl, T_getD e, c.1.1.2]
  induction k with
  | zero =>
    intro f t a fd e hm F
    refine ⟨lens e, fun A outer s H args us vs Q E hr he hb hv q => ?_⟩
    obtain ⟨g, ds, _, _, _, _, q⟩ := q
    exact (Ok.bad (show Ok K g Iv.bad _ from q)).elim
  | succ k ih =>
    intro f t a fd e hm F
    have c := ckf e
    simp only [ckFn, Bool.and_eq_true, decide_eq_true_eq] at c
    obtain ⟨⟨⟨c1, c2⟩, c3⟩, c4⟩ := c
    obtain ⟨oc, od, dV, kV, doc, pm, an, cdv, ct, osl, rfl, lk, hcd⟩ := F.ex
    have S := scB_ok c1
    refine fn_of lk hcd S (lens e) fun A outer s H vs Q E hr q => ?_
    obtain ⟨g, ds, rfl, r, rs, hl, q⟩ := q
    refine ⟨_, (ckSs_ok (X := (cxOf CX0 P w K mg base t.N t.name (defScope t.st) a cdv A outer s g.H E).nox) (tx := { tx with N := t.N }) (sc := defScope t.st) (T := tbl.map (·.fn)) (k := k) ?_ ?_ t.fn.body (defBody t.st) c4).nox, ?_⟩
    · refine ⟨hr, rfl, fun f' x' ps' e' => ?_, h.gl, h.blt⟩
      have e1 : tx.fns[f']? = some (x', ps') := e'
      rw [h.fns, List.getElem?_map, Option.map_eq_some_iff] at e1
      obtain ⟨t', e2, e3⟩ := e1
      simp only [Prod.mk.injEq] at e3
      obtain ⟨rfl, rfl⟩ := e3
      obtain ⟨a', fd', m', F'⟩ := h.fn t' (List.mem_of_getElem? e2)
      have sh' : ∀ sh ∈ tx.shapes, sh.f = f' → ShOk K fd' t'.ps sh := fun sh hsh hf => by
        obtain ⟨t2, a2, fd2, q1, q2, q3, q4⟩ := h.sh sh hsh
        rw [hf, e2] at q1
        cases q1
        rw [m'] at q2
        cases q2
        obtain ⟨_, _, _, _, _, _, _, _, _, _, _, l1, _⟩ := F'.ex
        obtain ⟨_, _, _, _, _, _, _, _, _, _, _, l2, _⟩ := q3.ex
        rw [l1] at l2
        cases l2
        exact q4
      have c' := ckf e2
      simp only [ckFn, Bool.and_eq_true, decide_eq_true_eq] at c'
      exact ⟨a', fd', m', F'.kp, ih f' t' a' fd' e2 m' F', by rw [T_getD e2, c'.1.1.2], sh'⟩
    · exact ⟨⟨rfl, S.nd, rfl⟩, rfl, fun _ _ => rfl⟩
    · obtain ⟨b, h2, e1, fq⟩ := q
      have e2 : (if ds.length = t.fn.np then (bnd (semSs (run (tbl.map (·.fn)) k) t.fn.body (start t.fn ds)) fun fl => match fl with
          | .rt d => fin t.fn.own g.h.length d
          | .nx _ => fin t.fn.own g.h.length .non) g.h else none) = some (b, h2) := by
        have z : run (tbl.map (·.fn)) (k + 1) f ds g.h = some (b, h2) := e1
        simp only [run, T_get e] at z
        exact z
      split at e2
      · unfold bnd at e2
        split at e2
        · rename_i fl h1 e3
          refine ⟨g, start t.fn ds, rfl, r, start_slots rs c3, fl, h1, e3, fun w1 H1 r1 x1 => ?_⟩
          have last : ∀ (d : D) (v : V), Rep K ⟨w1, h1, H1⟩ d v → fin t.fn.own g.h.length d h1 = some (b, h2) → Q v H1 := by
            intro d v hv e4
            obtain ⟨w2, r2, x2, q2⟩ := fin_ok r x1 r1 hv e4
            exact fq w2 H1 r2 x2 v q2
          cases fl with
          | rt d => exact fun v hv => last d v hv e2
          | nx s' => exact fun σ' _ => last .non .non (rep_non.mpr rfl) e2
        · cases e2
      · cases e2
end

/-! ### how arguments come to parameters -/
theorem shOk_mk {K : PySem.W.Frag} {fd : FuncData} {ps : List Str} {sh : Shape} (hd : sh.dfs = [])
    (h : ∀ us ws : List Value, us.length = sh.np → ws.length = sh.ks.length → bindArgs fd ⟨us, sh.ks.zip ws⟩ = pure (ps.zip (sh.perm.map fun i => (us ++ ws ++ []).getD i .none)))
    (len : sh.perm.length = ps.length) (lt : ∀ i ∈ sh.perm, i < sh.np + sh.ks.length + sh.dfs.length) : ShOk K fd ps sh :=
  ⟨⟨[], [], fun g => by rw [hd]; exact Reps.nil, .nil, fun s us ws _ h1 h2 => .of_eq (h us ws h1 h2)⟩, len, lt⟩
theorem funG_mk {K : PySem.W.Frag} {x qual : Str} {st : Stmt} {f : Addr} {oc : Value} {od an : Option Addr} {osl : Array (Option Value)} {dV kV doc pm cdv ct : Value} (l : K.lookup f = some ⟨oc, od, .func (PySem.W.fnOf x qual (defArgs st) (defBody st) (defScope st) dV kV doc pm an cdv ct), osl⟩)
    (c : PySem.W.codeIn K cdv qual = true) (k : PySem.W.keepIn K (.ref f) = true) : FunG K x qual st f (PySem.W.fnOf x qual (defArgs st) (defBody st) (defScope st) dV kV doc pm an cdv ct) := ⟨⟨oc, od, dV, kV, doc, pm, an, cdv, ct, osl, rfl, l, c⟩, k⟩
theorem all_nil {α : Type} {P : α → Prop} : ∀ x ∈ ([] : List α), P x := fun _ h => nomatch h
theorem all_cons {α : Type} {P : α → Prop} {x : α} {xs : List α} (h : P x) (t : ∀ y ∈ xs, P y) : ∀ y ∈ x :: xs, P y := fun y hy => (List.mem_cons.mp hy).elim (fun e => e ▸ h) (t y)
theorem gl_int {K : PySem.W.Frag} {mg : Str → Option Value} {p : Str × D} {i : Int} {t : Tok} (hp : p.2 = .int i) (h : mg p.1 = some (.int i t)) : ∃ u v, mg p.1 = some u ∧ RelV v u ∧ ∀ g, Rep K g p.2 v :=
  ⟨_, .int i, h, ⟨t, rfl⟩, fun g => by rw [hp]; exact rep_int.mpr rfl⟩
theorem gl_str {K : PySem.W.Frag} {mg : Str → Option Value} {p : Str × D} {i : Str} {t : Tok} (hp : p.2 = .str i) (h : mg p.1 = some (.str i t)) : ∃ u v, mg p.1 = some u ∧ RelV v u ∧ ∀ g, Rep K g p.2 v :=
  ⟨_, .str i, h, ⟨t, rfl⟩, fun g => by rw [hp]; exact rep_str.mpr rfl⟩
theorem reps_ints {K : PySem.W.Frag} {g : G} : ∀ ns : List Int, Reps K g (ns.map .int) (ns.map V.int)
  | [] => Reps.nil
  | n :: ns => Reps.cons (rep_int.mpr rfl) (reps_ints ns)
/-- the law's promise from the plain law -/
theorem sp_law {K : PySem.W.Frag} {T : List Fn} {k f : Nat} {H : Hp} {a : Addr} {ns : List Int} {E : XK} (hS : SqL K H a (ns.map V.int)) (hn : (T.getD f default).np = 1)
    (h : ∃ h', run T k f [.lst (ns.map .int)] [] = some (.bl true, h')) : spOf K T k f [.ref a] H (fun v _ => v = .bl true) E := by
  obtain ⟨h', e⟩ := h
  refine ⟨⟨⟨fun _ => 0, fun _ => False⟩, [], H⟩, [.lst (ns.map .int)], rfl, ⟨?_, ?_, ?_, ?_⟩, Reps.cons (rep_lst.mpr ⟨a, ns.map V.int, rfl, ?_, ?_⟩) Reps.nil, by rw [hn]; rfl, .bl true, h', e, fun w' H' r x v hv => rep_bl.mp hv⟩
  · rintro b ⟨n, o, hn, _⟩
    simp at hn
  · intro m n hm
    simp at hm
  · intro n o hn
    simp at hn
  · intro b hb
    exact hb.elim
  · rcases hS with q | q
    · exact .inl ⟨q, fun z => z⟩
    · exact .inr q
  · exact reps_ints ns
end Iv

/-! Ev: how the language is run by rewriting, always at the head. -/
namespace Iv
open PySem L2
section
variable {α β γ : Type}
def slotK : St → Nat → (D → M β) → M β
  | some d :: _, 0, κ => κ d
  | _ :: s, i + 1, κ => slotK s i κ
  | _, _, _ => bad
def setK : St → Nat → D → (St → M β) → M β
  | _ :: s, 0, d, κ => κ (some d :: s)
  | x :: s, i + 1, d, κ => setK s i d fun s' => κ (x :: s')
  | [], _, _, _ => bad
def binK (op : Bop) (x y : D) (κ : D → M β) : M β := bnd (opt (binD op x y)) κ
def cmpK (op : Cop) (x y : D) (κ : Bool → M β) : M β := bnd (opt (cmpD op x y)) κ
def idxK (x y : D) (κ : D → M β) : M β := bnd (ask fun h => idxD h x y) κ
def biK (b : Bi) (ds : List D) (κ : D → M β) : M β := bnd (ask fun h => biD h b ds) κ
def blK (x : D) (κ : Bool → M β) : M β := bnd (opt (tBl x)) κ
def nthK : List D → Nat → (D → M β) → M β
  | d :: _, 0, κ => κ d
  | _ :: ds, i + 1, κ => nthK ds i κ
  | [], _, κ => κ .non
def permK : List Nat → List D → (List D → M β) → M β
  | [], _, κ => κ []
  | p :: ps, ds, κ => nthK ds p fun d => permK ps ds fun as => κ (d :: as)
def sizeK (ds : List D) (κ : M β) : M β := fun h => if ds.length ≤ sizeMax then κ h else none
def storeK (o i v : D) (κ : M β) : M β := bnd (setItem o i v) fun _ => κ
def negK (x : D) (κ : D → M β) : M β := match x with
  | .int i => κ (.int (-i))
  | _ => bad
def iteB (b : Bool) (x y : M β) : M β := fun h => if b = true then x h else y h
noncomputable def seqK (C : Cal) (cs : List S) (κ : Fl → M β) : Fl → M β
  | .rt r => κ (.rt r)
  | .nx s => bnd (semSs C cs s) κ
def itK (x : D) (κ : List D × Option Nat → M β) : M β := bnd (ask fun h => seqOf h x) fun ds => κ (ds, match x with
    | .ref n => some n
    | _ => none)
variable {C : Cal} {s : St} {h h' : AH} {κ : D → M β} {κl : List D → M β} {κs : St → M β} {κf : Fl → M β} {κb : Bool → M β}
theorem bnd_assoc {m : M α} {f : α → M γ} {g : γ → M β} : bnd (bnd m f) g = bnd m fun x => bnd (f x) g := by
  funext h
  simp only [bnd]
  cases m h with
  | none => rfl
  | some p => rfl
theorem bnd_congr {m : M α} {f g : α → M β} (e : ∀ a, f a = g a) : bnd m f = bnd m g := by rw [show f = g from funext e]
theorem bnd_ret {a : α} {f : α → M β} : bnd (ret a) f = f a := rfl
theorem bnd_bad {f : α → M β} : bnd bad f = bad := rfl
theorem bnd_of {m : M α} {f : α → M β} {a : α} (e : m h = some (a, h')) : bnd m f h = f a h' := by simp only [bnd, e]
theorem bnd_ite {b : Bool} {x y : M α} {f : α → M β} : bnd (if b = true then x else y) f = iteB b (bnd x f) (bnd y f) := by
  funext h
  cases b <;> rfl
theorem iteB_T {x y : M β} : iteB true x y h = x h := rfl
theorem iteB_F {x y : M β} : iteB false x y h = y h := rfl
theorem iteB_is {b : Bool} {x y : M β} : iteB b x y h = if b = true then x h else y h := rfl
theorem iteB_t {b : Bool} {x y : M β} (e : b = true) : iteB b x y h = x h := by rw [e]; rfl
theorem iteB_f {b : Bool} {x y : M β} (e : b = false) : iteB b x y h = y h := by rw [e]; rfl

/-! the head's steps -/
theorem slotK_0 {d : D} : slotK (some d :: s) 0 κ h = κ d h := rfl
theorem slotK_s {x : Option D} {i : Nat} : slotK (x :: s) (i + 1) κ h = slotK s i κ h := by cases x <;> rfl
theorem setK_0 {x : Option D} {d : D} : setK (x :: s) 0 d κs h = κs (some d :: s) h := by cases x <;> rfl
theorem setK_s {x : Option D} {i : Nat} {d : D} : setK (x :: s) (i + 1) d κs h = setK s i d (fun s' => κs (x :: s')) h := by cases x <;> rfl
theorem slotK_is : ∀ (s : St) (i : Nat) (κ : D → M β), bnd (opt (s[i]?.join)) κ = slotK s i κ
  | [], i, κ => by cases i <;> rfl
  | none :: s, 0, κ => rfl
  | some d :: s, 0, κ => rfl
  | x :: s, i + 1, κ => by
    have := slotK_is s i κ
    cases x <;> (simp only [List.getElem?_cons_succ, this]; rfl)
theorem setK_is : ∀ (s : St) (i : Nat) (d : D) (κs : St → M β), bnd (if i < s.length then ret (s.set i (some d)) else bad) κs = setK s i d κs
  | [], i, d, κs => by cases i <;> rfl
  | x :: s, 0, d, κs => by cases x <;> rfl
  | x :: s, i + 1, d, κs => by
    have q := setK_is s i d fun s' => κs (x :: s')
    have e : setK (x :: s) (i + 1) d κs = setK s i d fun s' => κs (x :: s') := by cases x <;> rfl
    rw [e, ← q]
    simp only [List.length_cons, Nat.add_lt_add_iff_right, List.set_cons_succ]
    split <;> rfl
theorem nthK_0 {d : D} {ds : List D} : nthK (d :: ds) 0 κ h = κ d h := rfl
theorem nthK_s {d : D} {ds : List D} {i : Nat} : nthK (d :: ds) (i + 1) κ h = nthK ds i κ h := rfl
theorem nthK_is : ∀ (ds : List D) (i : Nat), κ (ds.getD i .non) = nthK ds i κ
  | [], i => by simp [nthK]
  | d :: ds, 0 => rfl
  | d :: ds, i + 1 => by
    rw [List.getD_cons_succ, nthK_is ds i]
    rfl
theorem permK_0 {ds : List D} : permK [] ds κl h = κl [] h := rfl
theorem permK_s {p : Nat} {ps : List Nat} {ds : List D} : permK (p :: ps) ds κl h = nthK ds p (fun d => permK ps ds fun as => κl (d :: as)) h := rfl
theorem permK_is : ∀ (ps : List Nat) (ds : List D) (κl : List D → M β), κl (ps.map fun k => ds.getD k .non) = permK ps ds κl
  | [], ds, κl => rfl
  | p :: ps, ds, κl => by
    rw [List.map_cons, permK_is ps ds fun as => κl (ds.getD p .non :: as)]
    show _ = nthK ds p fun d => permK ps ds fun as => κl (d :: as)
    rw [← nthK_is]
theorem bnd_size {ds : List D} {d : α} {f : α → M β} : bnd (if ds.length ≤ sizeMax then ret d else bad) f = sizeK ds (f d) := by
  funext h
  unfold sizeK
  split <;> rfl
theorem sizeK_is {ds : List D} {m : M β} (e : ds.length ≤ sizeMax) : sizeK ds m h = m h := if_pos e
theorem sz_0 {m : M β} : sizeK [] m h = m h := if_pos (by simp only [List.length_cons, List.length_nil]; decide +kernel)
theorem sz_1 {d0 : D} {m : M β} : sizeK [d0] m h = m h := if_pos (by simp only [List.length_cons, List.length_nil]; decide +kernel)
theorem sz_2 {d0 d1 : D} {m : M β} : sizeK [d0, d1] m h = m h := if_pos (by simp only [List.length_cons, List.length_nil]; decide +kernel)
theorem sz_3 {d0 d1 d2 : D} {m : M β} : sizeK [d0, d1, d2] m h = m h := if_pos (by simp only [List.length_cons, List.length_nil]; decide +kernel)
theorem sz_4 {d0 d1 d2 d3 : D} {m : M β} : sizeK [d0, d1, d2, d3] m h = m h := if_pos (by simp only [List.length_cons, List.length_nil]; decide +kernel)
theorem sz_5 {d0 d1 d2 d3 d4 : D} {m : M β} : sizeK [d0, d1, d2, d3, d4] m h = m h := if_pos (by simp only [List.length_cons, List.length_nil]; decide +kernel)
theorem sz_6 {d0 d1 d2 d3 d4 d5 : D} {m : M β} : sizeK [d0, d1, d2, d3, d4, d5] m h = m h := if_pos (by simp only [List.length_cons, List.length_nil]; decide +kernel)
theorem sz_7 {d0 d1 d2 d3 d4 d5 d6 : D} {m : M β} : sizeK [d0, d1, d2, d3, d4, d5, d6] m h = m h := if_pos (by simp only [List.length_cons, List.length_nil]; decide +kernel)
theorem sz_8 {d0 d1 d2 d3 d4 d5 d6 d7 : D} {m : M β} : sizeK [d0, d1, d2, d3, d4, d5, d6, d7] m h = m h := if_pos (by simp only [List.length_cons, List.length_nil]; decide +kernel)
theorem sz_9 {d0 d1 d2 d3 d4 d5 d6 d7 d8 : D} {m : M β} : sizeK [d0, d1, d2, d3, d4, d5, d6, d7, d8] m h = m h := if_pos (by simp only [List.length_cons, List.length_nil]; decide +kernel)
theorem sz_10 {d0 d1 d2 d3 d4 d5 d6 d7 d8 d9 : D} {m : M β} : sizeK [d0, d1, d2, d3, d4, d5, d6, d7, d8, d9] m h = m h := if_pos (by simp only [List.length_cons, List.length_nil]; decide +kernel)
theorem sz_11 {d0 d1 d2 d3 d4 d5 d6 d7 d8 d9 d10 : D} {m : M β} : sizeK [d0, d1, d2, d3, d4, d5, d6, d7, d8, d9, d10] m h = m h := if_pos (by simp only [List.length_cons, List.length_nil]; decide +kernel)
theorem sz_12 {d0 d1 d2 d3 d4 d5 d6 d7 d8 d9 d10 d11 : D} {m : M β} : sizeK [d0, d1, d2, d3, d4, d5, d6, d7, d8, d9, d10, d11] m h = m h := if_pos (by simp only [List.length_cons, List.length_nil]; decide +kernel)
theorem sz_13 {d0 d1 d2 d3 d4 d5 d6 d7 d8 d9 d10 d11 d12 : D} {m : M β} : sizeK [d0, d1, d2, d3, d4, d5, d6, d7, d8, d9, d10, d11, d12] m h = m h := if_pos (by simp only [List.length_cons, List.length_nil]; decide +kernel)
theorem sz_14 {d0 d1 d2 d3 d4 d5 d6 d7 d8 d9 d10 d11 d12 d13 : D} {m : M β} : sizeK [d0, d1, d2, d3, d4, d5, d6, d7, d8, d9, d10, d11, d12, d13] m h = m h := if_pos (by simp only [List.length_cons, List.length_nil]; decide +kernel)
theorem e_v {i : Nat} : bnd (semE C (.v i) s) κ h = slotK s i κ h := by
  show bnd (opt (s[i]?.join)) κ h = _
  rw [slotK_is]
theorem e_c {d : D} : bnd (semE C (.c d) s) κ h = κ d h := rfl
theorem e_tup {es : List E} : bnd (semE C (.tup es) s) κ h = bnd (semEs C es s) (fun ds => sizeK ds (κ (.tup ds))) h := by
  show bnd (bnd (semEs C es s) fun ds => if ds.length ≤ sizeMax then ret (.tup ds) else bad) κ h = _
  rw [bnd_assoc, bnd_congr fun ds => bnd_size]
theorem e_lstv {f : F} : bnd (semE C (.lstv f) s) κ h = bnd (semF C f s) (fun ds => κ (.lst ds)) h := by
  show bnd (bnd (semF C f s) fun ds => ret (.lst ds)) κ h = _
  rw [bnd_assoc]; rfl
theorem e_alloc {f : F} : bnd (semE C (.alloc f) s) κ h = bnd (semF C f s) (fun ds => bnd (newLst ds) κ) h := by
  show bnd (bnd (semF C f s) newLst) κ h = _
  rw [bnd_assoc]
theorem e_bin {op : Bop} {a b : E} : bnd (semE C (.bin op a b) s) κ h = bnd (semE C a s) (fun x => bnd (semE C b s) fun y => binK op x y κ) h := by
  show bnd (bnd (semE C a s) fun x => bnd (semE C b s) fun y => opt (binD op x y)) κ h = _
  rw [bnd_assoc, bnd_congr fun x => bnd_assoc]; rfl
theorem e_neg {a : E} : bnd (semE C (.neg a) s) κ h = bnd (semE C a s) (fun x => negK x κ) h := by
  show bnd (bnd (semE C a s) fun x => match x with
    | .int i => ret (.int (-i))
    | _ => bad) κ h = _
  rw [bnd_assoc]
  congr 1
  funext x
  cases x <;> rfl
theorem e_cmp {op : Cop} {a b : E} : bnd (semE C (.cmp op a b) s) κ h = bnd (semE C a s) (fun x => bnd (semE C b s) fun y => cmpK op x y fun k => κ (.bl k)) h := by
  show bnd (bnd (semE C a s) fun x => bnd (semE C b s) fun y => bnd (opt (cmpD op x y)) fun k => ret (.bl k)) κ h = _
  rw [bnd_assoc, bnd_congr fun x => bnd_assoc]
  rw [bnd_congr fun x => bnd_congr fun y => bnd_assoc]; rfl
theorem e_chain {op op' : Cop} {a b c : E} : bnd (semE C (.chain op op' a b c) s) κ h = bnd (semE C a s) (fun x => bnd (semE C b s) fun y => cmpK op x y fun k =>
    iteB k (bnd (semE C c s) fun z => cmpK op' y z fun k' => κ (.bl k')) (κ (.bl false))) h := by
  show bnd (bnd (semE C a s) fun x => bnd (semE C b s) fun y => bnd (opt (cmpD op x y)) fun k =>
      if k = true then bnd (semE C c s) fun z => bnd (opt (cmpD op' y z)) fun k' => ret (.bl k') else ret (.bl false)) κ h = _
  rw [bnd_assoc, bnd_congr fun x => bnd_assoc]
  rw [bnd_congr fun x => bnd_congr fun y => bnd_assoc]
  rw [bnd_congr fun x => bnd_congr fun y => bnd_congr fun k => bnd_ite]
  rw [bnd_congr fun x => bnd_congr fun y => bnd_congr fun k => congrArg (fun z => iteB k z _) bnd_assoc]
  rw [bnd_congr fun x => bnd_congr fun y => bnd_congr fun k => congrArg (fun z => iteB k z _) (bnd_congr fun z => bnd_assoc)]
  rfl
theorem e_and {a b : E} : bnd (semE C (.and a b) s) κ h = bnd (semE C a s) (fun x => blK x fun k => iteB k (bnd (semE C b s) κ) (κ (.bl false))) h := by
  show bnd (bnd (semE C a s) fun x => bnd (opt (tBl x)) fun k => if k = true then semE C b s else ret (.bl false)) κ h = _
  rw [bnd_assoc, bnd_congr fun x => bnd_assoc]
  rw [bnd_congr fun x => bnd_congr fun y => bnd_ite]; rfl
theorem e_or {a b : E} : bnd (semE C (.or a b) s) κ h = bnd (semE C a s) (fun x => blK x fun k => iteB k (κ (.bl true)) (bnd (semE C b s) κ)) h := by
  show bnd (bnd (semE C a s) fun x => bnd (opt (tBl x)) fun k => if k = true then ret (.bl true) else semE C b s) κ h = _
  rw [bnd_assoc, bnd_congr fun x => bnd_assoc]
  rw [bnd_congr fun x => bnd_congr fun y => bnd_ite]; rfl
theorem e_not {a : E} : bnd (semE C (.not a) s) κ h = bnd (semE C a s) (fun x => blK x fun k => κ (.bl (!k))) h := by
  show bnd (bnd (semE C a s) fun x => bnd (opt (tBl x)) fun k => ret (.bl (!k))) κ h = _
  rw [bnd_assoc, bnd_congr fun x => bnd_assoc]; rfl
theorem e_ite {t a b : E} : bnd (semE C (.ite t a b) s) κ h = bnd (semE C t s) (fun x => blK x fun k => iteB k (bnd (semE C a s) κ) (bnd (semE C b s) κ)) h := by
  show bnd (bnd (semE C t s) fun x => bnd (opt (tBl x)) fun k => if k = true then semE C a s else semE C b s) κ h = _
  rw [bnd_assoc, bnd_congr fun x => bnd_assoc]
  rw [bnd_congr fun x => bnd_congr fun y => bnd_ite]; rfl
theorem e_idx {a i : E} : bnd (semE C (.idx a i) s) κ h = bnd (semE C a s) (fun x => bnd (semE C i s) fun y => idxK x y κ) h := by
  show bnd (bnd (semE C a s) fun x => bnd (semE C i s) fun y => ask fun h => idxD h x y) κ h = _
  rw [bnd_assoc, bnd_congr fun x => bnd_assoc]; rfl
theorem e_call {f : Nat} {perm : List Nat} {es : List E} : bnd (semE C (.call f perm es) s) κ h = bnd (semEs C es s) (fun ds => permK perm ds fun as => bnd (C f as) κ) h := by
  show bnd (bnd (semEs C es s) fun ds => C f (perm.map fun k => ds.getD k .non)) κ h = _
  rw [bnd_assoc]
  congr 1
  funext ds
  exact permK_is perm ds fun as => bnd (C f as) κ
theorem e_bi {b : Bi} {es : List E} : bnd (semE C (.bi b es) s) κ h = bnd (semEs C es s) (fun ds => biK b ds κ) h := by
  show bnd (bnd (semEs C es s) fun ds => ask fun h => biD h b ds) κ h = _
  rw [bnd_assoc]; rfl
theorem es_nil : bnd (semEs C [] s) κl h = κl [] h := rfl
theorem es_cons {e : E} {es : List E} : bnd (semEs C (e :: es) s) κl h = bnd (semE C e s) (fun d => bnd (semEs C es s) fun ds => κl (d :: ds)) h := by
  show bnd (bnd (semE C e s) fun d => bnd (semEs C es s) fun ds => ret (d :: ds)) κl h = _
  rw [bnd_assoc, bnd_congr fun x => bnd_assoc]; rfl
theorem f_disp {es : List E} : bnd (semF C (.disp es) s) κl h = bnd (semEs C es s) (fun ds => sizeK ds (κl ds)) h := by
  show bnd (bnd (semEs C es s) fun ds => if ds.length ≤ sizeMax then ret ds else bad) κl h = _
  rw [bnd_assoc, bnd_congr fun ds => bnd_size]
theorem new_lst {ds : List D} (e : D.rfs ds = true) : bnd (newLst ds) κ h = κ (.ref h.length) (h ++ [.lst ds]) := bnd_of (by unfold newLst; rw [if_pos e])
theorem new_3 {a b c : Int} : bnd (newLst [.int a, .int b, .int c]) κ h = κ (.ref h.length) (h ++ [.lst [.int a, .int b, .int c]]) := new_lst rfl
theorem new_0 : bnd (newLst []) κ h = κ (.ref h.length) (h ++ [.lst []]) := new_lst rfl
theorem t_nm {i : Nat} {d : D} : bnd (semT C (.nm i) d s) κs h = setK s i d κs h := by
  show bnd (if i < s.length then ret (s.set i (some d)) else bad) κs h = _
  rw [setK_is]
theorem t_tup {ts : List Tg} {ds : List D} : bnd (semT C (.tup ts) (.tup ds) s) κs h = bnd (semTs C ts ds s) κs h := rfl
theorem t_sub {a i : E} {d : D} : bnd (semT C (.sub a i) d s) κs h = bnd (semE C a s) (fun o => bnd (semE C i s) fun k => storeK o k d (κs s)) h := by
  show bnd (bnd (semE C a s) fun o => bnd (semE C i s) fun k => bnd (setItem o k d) fun _ => ret s) κs h = _
  rw [bnd_assoc, bnd_congr fun x => bnd_assoc]
  rw [bnd_congr fun x => bnd_congr fun y => bnd_assoc]; rfl
theorem ts_nil : bnd (semTs C [] [] s) κs h = κs s h := rfl
theorem ts_cons {t : Tg} {ts : List Tg} {d : D} {ds : List D} : bnd (semTs C (t :: ts) (d :: ds) s) κs h = bnd (semT C t d s) (fun s' => bnd (semTs C ts ds s') κs) h := by
  show bnd (bnd (semT C t d s) fun s' => semTs C ts ds s') κs h = _
  rw [bnd_assoc]
/-! statements -/
theorem ss_nil : bnd (semSs C [] s) κf h = κf (.nx s) h := rfl
theorem ss_cons {c : S} {cs : List S} : bnd (semSs C (c :: cs) s) κf h = bnd (semS C c s) (seqK C cs κf) h := by
  show bnd (bnd (semS C c s) fun f => match f with
    | .rt r => ret (.rt r)
    | .nx s' => semSs C cs s') κf h = _
  rw [bnd_assoc]
  congr 1
  funext f
  cases f <;> rfl
theorem seqK_rt {cs : List S} {r : D} : seqK C cs κf (.rt r) h = κf (.rt r) h := rfl
theorem seqK_nx {cs : List S} : seqK C cs κf (.nx s) h = bnd (semSs C cs s) κf h := rfl
theorem s_asg {t : Tg} {e : E} : bnd (semS C (.asg t e) s) κf h = bnd (semE C e s) (fun d => bnd (semT C t d s) fun s' => κf (.nx s')) h := by
  show bnd (bnd (semE C e s) fun d => bnd (semT C t d s) fun s' => ret (.nx s')) κf h = _
  rw [bnd_assoc, bnd_congr fun x => bnd_assoc]; rfl
theorem s_aug {i : Nat} {op : Bop} {e : E} : bnd (semS C (.aug i op e) s) κf h = slotK s i (fun x => bnd (semE C e s) fun y => binK op x y fun z => κf (.nx (s.set i (some z)))) h := by
  show bnd (bnd (opt (s[i]?.join)) fun x => bnd (semE C e s) fun y => bnd (opt (binD op x y)) fun z => ret (.nx (s.set i (some z)))) κf h = _
  rw [bnd_assoc, bnd_congr fun x => bnd_assoc]
  rw [bnd_congr fun x => bnd_congr fun y => bnd_assoc, slotK_is]; rfl
theorem s_expr {e : E} : bnd (semS C (.expr e) s) κf h = bnd (semE C e s) (fun _ => κf (.nx s)) h := by
  show bnd (bnd (semE C e s) fun _ => ret (.nx s)) κf h = _
  rw [bnd_assoc]; rfl
theorem s_ret {e : E} : bnd (semS C (.ret e) s) κf h = bnd (semE C e s) (fun d => κf (.rt d)) h := by
  show bnd (bnd (semE C e s) fun d => ret (.rt d)) κf h = _
  rw [bnd_assoc]; rfl
theorem s_retN : bnd (semS C .retN s) κf h = κf (.rt .non) h := rfl
theorem s_pass : bnd (semS C .pass s) κf h = κf (.nx s) h := rfl
theorem s_ite {t : E} {a b : List S} : bnd (semS C (.ite t a b) s) κf h = bnd (semE C t s) (fun x => blK x fun k => iteB k (bnd (semSs C a s) κf) (bnd (semSs C b s) κf)) h := by
  show bnd (bnd (semE C t s) fun x => bnd (opt (tBl x)) fun k => if k = true then semSs C a s else semSs C b s) κf h = _
  rw [bnd_assoc, bnd_congr fun x => bnd_assoc]
  rw [bnd_congr fun x => bnd_congr fun y => bnd_ite]; rfl
/-- one turn of a for -/
noncomputable def bodyF (C : Cal) (t : Tg) (body : List S) (d : D) (s : St) : M Fl := bnd (semT C t d s) fun s' => semSs C body s'
theorem s_for {t : Tg} {it : It} {body : List S} : bnd (semS C (.for t it body) s) κf h = bnd (semIt C it s) (fun p => bnd (forL p.1 p.2 (bodyF C t body) p.1 s) κf) h := by
  show bnd (bnd (semIt C it s) fun p => forL p.1 p.2 (fun d s' => bnd (semT C t d s') fun s'' => semSs C body s'') p.1 s) κf h = _
  rw [bnd_assoc]; rfl
theorem bodyF_is {t : Tg} {body : List S} {d : D} {s : St} {κ : Fl → M β} : bnd (bodyF C t body d s) κ h = bnd (semT C t d s) (fun s' => bnd (semSs C body s') κ) h := by
  show bnd (bnd (semT C t d s) fun s' => semSs C body s') κ h = _
  rw [bnd_assoc]
def rgK (x : D) (κ : List D × Option Nat → M β) : M β := match x with
  | .int i => fun h => if rgOk i = true then κ (rangeL 0 i.toNat, none) h else none
  | _ => bad
def rgK2 (x y : D) (κ : List D × Option Nat → M β) : M β := match x, y with
  | .int i, .int j => fun h => if rgOk i = true ∧ rgOk j = true then κ (rangeL i (j - i).toNat, none) h else none
  | _, _ => bad
variable {κi : List D × Option Nat → M β}
theorem i_range1 {a : E} : bnd (semIt C (.range1 a) s) κi h = bnd (semE C a s) (fun x => rgK x κi) h := by
  show bnd (bnd (semE C a s) fun x => match x with
    | .int i => if rgOk i = true then ret (rangeL 0 i.toNat, none) else bad
    | _ => bad) κi h = _
  rw [bnd_assoc]
  congr 1
  funext x h
  cases x <;> first | rfl | skip
  simp only [rgK]
  split <;> rfl
theorem i_range2 {a b : E} : bnd (semIt C (.range2 a b) s) κi h = bnd (semE C a s) (fun x => bnd (semE C b s) fun y => rgK2 x y κi) h := by
  show bnd (bnd (semE C a s) fun x => bnd (semE C b s) fun y => match x, y with
    | .int i, .int j => if rgOk i = true ∧ rgOk j = true then ret (rangeL i (j - i).toNat, none) else bad
    | _, _ => bad) κi h = _
  rw [bnd_assoc, bnd_congr fun x => bnd_assoc]
  congr 1
  funext x
  congr 1
  funext y h
  cases x <;> cases y <;> first | rfl | skip
  simp only [rgK2]
  split <;> rfl
theorem i_seq {e : E} : bnd (semIt C (.seq e) s) κi h = bnd (semE C e s) (fun x => itK x κi) h := by
  show bnd (bnd (semE C e s) fun x => bnd (ask fun h => seqOf h x) fun ds => ret (ds, match x with
    | .ref n => some n
    | _ => none)) κi h = _
  rw [bnd_assoc, bnd_congr fun x => bnd_assoc]; rfl
theorem rgOk_is {i : Int} (h1 : -(2 ^ 62) ≤ i) (h2 : i < 2 ^ 62) : rgOk i = true := by simp only [rgOk, h1, h2, decide_true, Bool.and_self]
theorem rgK_is {i : Int} (h1 : -(2 ^ 62) ≤ i) (h2 : i < 2 ^ 62) : rgK (.int i) κi h = κi (rangeL 0 i.toNat, none) h := if_pos (rgOk_is h1 h2)
theorem rgK2_is {i j : Int} (h1 : -(2 ^ 62) ≤ i) (h2 : i < 2 ^ 62) (h3 : -(2 ^ 62) ≤ j) (h4 : j < 2 ^ 62) : rgK2 (.int i) (.int j) κi h = κi (rangeL i (j - i).toNat, none) h := if_pos ⟨rgOk_is h1 h2, rgOk_is h3 h4⟩
theorem itK_lst {ds : List D} : itK (.lst ds) κi h = κi (ds, none) h := rfl
theorem itK_tup {ds : List D} : itK (.tup ds) κi h = κi (ds, none) h := rfl
/-! operators -/
theorem mulOk_l {i j : Int} (h : i.natAbs < 2 ^ 64) : mulOk i j = true := by simp [mulOk, h]
theorem mulOk_r {i j : Int} (h : j.natAbs < 2 ^ 64) : mulOk i j = true := by simp [mulOk, h]
theorem mulOk_w {i j : Int} (h : i.natAbs < 2 ^ 250) (h' : j.natAbs < 2 ^ 250) : mulOk i j = true := by simp [mulOk, h, h']
theorem o_add {i j : Int} : binK .add (.int i) (.int j) κ h = κ (.int (i + j)) h := rfl
theorem o_sub {i j : Int} : binK .sub (.int i) (.int j) κ h = κ (.int (i - j)) h := rfl
theorem o_mul {i j : Int} (e : mulOk i j = true) : binK .mul (.int i) (.int j) κ h = κ (.int (i * j)) h := bnd_of (by simp only [opt, binD, e, if_true])
theorem o_mul_l {i j : Int} (e : i.natAbs < 2 ^ 64) : binK .mul (.int i) (.int j) κ h = κ (.int (i * j)) h := o_mul (mulOk_l e)
theorem o_mul_r {i j : Int} (e : j.natAbs < 2 ^ 64) : binK .mul (.int i) (.int j) κ h = κ (.int (i * j)) h := o_mul (mulOk_r e)
theorem o_mod {i j : Int} (e : 0 < j) : binK .mod (.int i) (.int j) κ h = κ (.int (i % j)) h := bnd_of (by simp only [opt, binD, e, decide_true, if_true])
theorem o_fdiv {i j : Int} (e : 0 < j) (e' : j.natAbs < 2 ^ 250) : binK .fdiv (.int i) (.int j) κ h = κ (.int (i / j)) h := bnd_of (by simp only [opt, binD, divOk, e, e', decide_true, Bool.and_self, if_true])
theorem o_fdiv_s {i j : Int} (e : 0 < j) (e' : j.natAbs < 2 ^ 64) : binK .fdiv (.int i) (.int j) κ h = κ (.int (i / j)) h := o_fdiv e (Nat.lt_trans e' (by decide))
theorem o_pow {i j : Int} (e : 0 ≤ j) (e' : j ≤ 100000) (e2 : i.natAbs < 2 ^ 250) : binK .pow (.int i) (.int j) κ h = κ (.int (i ^ j.toNat)) h := bnd_of (by simp only [opt, binD, powOk, e, e', e2, decide_true, Bool.and_self, if_true])
theorem o_shl {i j : Int} (e : 0 ≤ j) (e' : j ≤ 100000) (e2 : i.natAbs < 2 ^ 64) : binK .shl (.int i) (.int j) κ h = κ (.int (i * 2 ^ j.toNat)) h := bnd_of (by simp only [opt, binD, shlOk, e, e', e2, decide_true, Bool.and_self, if_true])
theorem o_neg {i : Int} : negK (.int i) κ h = κ (.int (-i)) h := rfl
theorem c_lt {i j : Int} : cmpK .lt (.int i) (.int j) κb h = κb (decide (i < j)) h := rfl
theorem c_le {i j : Int} : cmpK .le (.int i) (.int j) κb h = κb (decide (i ≤ j)) h := rfl
theorem c_gt {i j : Int} : cmpK .gt (.int i) (.int j) κb h = κb (decide (j < i)) h := rfl
theorem c_ge {i j : Int} : cmpK .ge (.int i) (.int j) κb h = κb (decide (j ≤ i)) h := rfl
theorem c_eqI {i j : Int} : cmpK .eq (.int i) (.int j) κb h = κb (decide (i = j)) h := rfl
theorem c_neI {i j : Int} : cmpK .ne (.int i) (.int j) κb h = κb (!decide (i = j)) h := rfl
theorem bl_K {b : Bool} : blK (.bl b) κb h = κb b h := rfl
theorem b_len {x : D} {ds : List D} (e : seqOf h x = some ds) : biK .len [x] κ h = κ (.int ds.length) h := bnd_of (by simp only [ask, biD, e, Option.map_some])
theorem b_lenL {ds : List D} : biK .len [.lst ds] κ h = κ (.int ds.length) h := rfl
theorem b_lenT {ds : List D} : biK .len [.tup ds] κ h = κ (.int ds.length) h := rfl
theorem b_abs {i : Int} : biK .abs [.int i] κ h = κ (.int (if i < 0 then -i else i)) h := rfl
theorem b_min2 {i j : Int} : biK .min2 [.int i, .int j] κ h = κ (.int (if j < i then j else i)) h := rfl
theorem b_max2 {i j : Int} : biK .max2 [.int i, .int j] κ h = κ (.int (if j > i then j else i)) h := rfl
theorem b_bits {i : Int} : biK .bitlen [.int i] κ h = κ (.int (Builtin.Int.intBits i : Nat)) h := rfl
theorem b_isaI {i : Int} {t : Ty} : biK (.isa t) [.int i] κ h = κ (.bl (isaB .int t)) h := rfl
theorem b_isaB {i : Bool} {t : Ty} : biK (.isa t) [.bl i] κ h = κ (.bl (isaB .bool t)) h := rfl
theorem b_isaI_i {i : Int} : biK (.isa .int) [.int i] κ h = κ (.bl true) h := rfl
theorem b_isaI_b {i : Int} : biK (.isa .bool) [.int i] κ h = κ (.bl false) h := rfl
theorem b_isaB_i {i : Bool} : biK (.isa .int) [.bl i] κ h = κ (.bl true) h := rfl
theorem b_isaB_b {i : Bool} : biK (.isa .bool) [.bl i] κ h = κ (.bl true) h := rfl
/-! lists -/
theorem x_lst {ds : List D} {i : Nat} {d : D} (e : ds[i]? = some d) : idxK (.lst ds) (.int i) κ h = κ d h := bnd_of (by simp only [ask, idxD, seqOf, L2.atI_nat e])
theorem x_set {n i : Nat} {ds : List D} {d : D} {h : AH} (hn : n < h.length) (e : ds[i]? = some d) : idxK (.ref n) (.int i) κ (h.set n (.lst ds)) = κ d (h.set n (.lst ds)) :=
  bnd_of (by simp only [ask, idxD, seqOf, List.getElem?_set_self hn, L2.atI_nat e])
theorem ixN_nat {n j : Nat} (h : j < n) : L2.ixN n (j : Int) = some j := by
  unfold L2.ixN
  rw [if_pos (by omega), if_pos (by omega)]; simp
theorem st_set {n i : Nat} {ds : List D} {v : D} {h : AH} {κm : M β} (hn : n < h.length) (e : i < ds.length) (hv : D.rf v = true) : storeK (.ref n) (.int i) v κm (h.set n (.lst ds)) = κm (h.set n (.lst (ds.set i v))) :=
  bnd_of (a := ()) (by simp only [setItem, List.getElem?_set_self hn, ixN_nat e, hv, if_true, List.set_set])
/-- an item of a written list of ints at a reckoned place -/
def pick (l : List Int) (i : Int) : Int := l.getD i.toNat 0
theorem x_pick {l : List Int} {i : Int} (h0 : 0 ≤ i) (h1 : i < l.length) : idxK (.lst (l.map .int)) (.int i) κ h = κ (.int (pick l i)) h := by
  have e : ((i.toNat : Nat) : Int) = i := by omega
  have hl : i.toNat < l.length := by omega
  rw [← e]
  refine (x_lst (d := .int (pick l i)) ?_).trans ?_
  · rw [List.getElem?_map, List.getElem?_eq_getElem hl]
    simp [pick, List.getD_eq_getElem?_getD, hl]
  · rw [e]
theorem x_pick2 {a b i : Int} (h0 : 0 ≤ i) (h1 : i < 2) : idxK (.lst [.int a, .int b]) (.int i) κ h = κ (.int (pick [a, b] i)) h := x_pick (l := [a, b]) h0 h1
theorem x_pick3 {a b c i : Int} (h0 : 0 ≤ i) (h1 : i < 3) : idxK (.lst [.int a, .int b, .int c]) (.int i) κ h = κ (.int (pick [a, b, c] i)) h := x_pick (l := [a, b, c]) h0 h1
theorem x_pick4 {a b c d i : Int} (h0 : 0 ≤ i) (h1 : i < 4) : idxK (.lst [.int a, .int b, .int c, .int d]) (.int i) κ h = κ (.int (pick [a, b, c, d] i)) h := x_pick (l := [a, b, c, d]) h0 h1
theorem x_pick5 {a b c d e i : Int} (h0 : 0 ≤ i) (h1 : i < 5) : idxK (.lst [.int a, .int b, .int c, .int d, .int e]) (.int i) κ h = κ (.int (pick [a, b, c, d, e] i)) h := x_pick (l := [a, b, c, d, e]) h0 h1
theorem pick_le {l : List Int} {i m : Int} (h : ∀ x ∈ l, x ≤ m) (h0 : 0 ≤ m) : pick l i ≤ m := by
  unfold pick
  rw [List.getD_eq_getElem?_getD]
  cases e : l[i.toNat]? with
  | none => exact h0
  | some x => exact h x (List.mem_of_getElem? e)
theorem pick_ge {l : List Int} {i m : Int} (h : ∀ x ∈ l, m ≤ x) (h0 : m ≤ 0) : m ≤ pick l i := by
  unfold pick
  rw [List.getD_eq_getElem?_getD]
  cases e : l[i.toNat]? with
  | none => exact h0
  | some x => exact h x (List.mem_of_getElem? e)
/-! defs -/
noncomputable def endK (own : Bool) (n : Nat) : Fl → M D
  | .rt d => fin own n d
  | .nx _ => fin own n .non
theorem run_eq {T : List Fn} {k f : Nat} {fn : Fn} {ds : List D} (e : T[f]? = some fn) (hl : ds.length = fn.np) :
    run T (k + 1) f ds h = bnd (semSs (run T k) fn.body (start fn ds)) (endK fn.own h.length) h := by
  simp only [run, e, hl, if_true]
  rfl
theorem end_int {n : Nat} {i : Int} (hl : n ≤ h.length) (e : h.take n = h') : endK false n (.rt (.int i)) h = some (.int i, h') := by
  simp only [endK, fin, snap, if_neg Bool.false_ne_true, e]
theorem end_bl {n : Nat} {i : Bool} (e : h.take n = h') : endK false n (.rt (.bl i)) h = some (.bl i, h') := by
  simp only [endK, fin, snap, if_neg Bool.false_ne_true, e]
/-- nothing was made: the heap is as it was -/
theorem end_i {i : Int} : endK false h.length (.rt (.int i)) h = some (.int i, h) := end_int (Nat.le_refl _) List.take_length
theorem end_b {i : Bool} : endK false h.length (.rt (.bl i)) h = some (.bl i, h) := end_bl List.take_length
theorem end_iS {i : Int} {n : Nat} {o : AO} : endK false (h.set n o).length (.rt (.int i)) (h.set n o) = some (.int i, h.set n o) := end_i
theorem end_iL {i : Int} {n : Nat} {o : AO} : endK false h.length (.rt (.int i)) (h.set n o) = some (.int i, h.set n o) := by
  have e : h.length = (h.set n o).length := by simp
  rw [e]; exact end_i
/-! loops -/
theorem for_nil {all : List D} {g : Option Nat} {body : D → St → M Fl} {κ : Fl → M β} : bnd (forL all g body [] s) κ h = κ (.nx s) h := rfl
theorem for_cons {all : List D} {body : D → St → M Fl} {d : D} {ds : List D} {κ : Fl → M β} : bnd (forL all none body (d :: ds) s) κ h = bnd (body d s) (fun f => match f with
    | .rt r => κ (.rt r)
    | .nx s' => bnd (forL all none body ds s') κ) h := by
  show bnd (bnd (body d s) fun f => match f with
    | .rt r => ret (.rt r)
    | .nx s' => bnd (stands all none) fun _ => forL all none body ds s') κ h = _
  rw [bnd_assoc]
  congr 1
  funext f
  cases f <;> rfl
theorem for_inv {all : List D} {body : D → St → M Fl} (I : List D → St → AH → Prop) (step : ∀ d ds s h, I (d :: ds) s h → ∃ s' h', body d s h = some (.nx s', h') ∧ I ds s' h') :
    ∀ ds s h, I ds s h → ∃ s' h', I [] s' h' ∧ forL all none body ds s h = some (.nx s', h')
  | [], s, h, hI => ⟨s, h, hI, rfl⟩
  | d :: ds, s, h, hI => by
    obtain ⟨s1, h1, e, hI1⟩ := step d ds s h hI
    obtain ⟨s2, h2, hI2, e2⟩ := for_inv I step ds s1 h1 hI1
    refine ⟨s2, h2, hI2, ?_⟩
    show bnd (body d s) _ h = _
    rw [bnd_of e]
    exact e2
theorem bnd_end {m : M α} : m h = bnd m ret h := by
  simp only [bnd]
  cases m h with
  | none => rfl
  | some p => rfl
theorem for_use {all : List D} {body : D → St → M Fl} {Q : Option (β × AH) → Prop} {ds : List D} {κ : Fl → M β} (I : List D → St → AH → Prop) (h0 : I ds s h)
    (step : ∀ d ds s h, I (d :: ds) s h → ∃ s' h', bnd (body d s) ret h = some (.nx s', h') ∧ I ds s' h') (rest : ∀ s' h', I [] s' h' → Q (κ (.nx s') h')) : Q (bnd (forL all none body ds s) κ h) := by
  obtain ⟨s', h', hI, e⟩ := for_inv (all := all) I (fun d ds s h hI => by
    obtain ⟨s', h', e, hI'⟩ := step d ds s h hI
    exact ⟨s', h', bnd_end.trans e, hI'⟩) ds s h h0
  rw [bnd_of e]
  exact rest s' h' hI
theorem for_step {all : List D} {body : D → St → M Fl} {J : St → AH → Prop} {ds : List D} {κ : Fl → M Fl} (I : List D → St → AH → Prop) (h0 : I ds s h)
    (step : ∀ d ds s h, I (d :: ds) s h → ∃ s' h', bnd (body d s) ret h = some (.nx s', h') ∧ I ds s' h') (rest : ∀ s' h', I [] s' h' → ∃ s2 h2, κ (.nx s') h' = some (.nx s2, h2) ∧ J s2 h2) :
    ∃ s2 h2, bnd (forL all none body ds s) κ h = some (.nx s2, h2) ∧ J s2 h2 := for_use (Q := fun x => ∃ s2 h2, x = some (Fl.nx s2, h2) ∧ J s2 h2) I h0 step rest
theorem for_law {all : List D} {body : D → St → M Fl} {d : D} {ds : List D} {κ : Fl → M D} (I : List D → St → AH → Prop) (h0 : I ds s h)
    (step : ∀ d ds s h, I (d :: ds) s h → ∃ s' h', bnd (body d s) ret h = some (.nx s', h') ∧ I ds s' h') (rest : ∀ s' h', I [] s' h' → ∃ h2, κ (.nx s') h' = some (d, h2)) :
    ∃ h2, bnd (forL all none body ds s) κ h = some (d, h2) := for_use (Q := fun x => ∃ h2, x = some (d, h2)) I h0 step rest
theorem end_b0 {n : Nat} {i : Bool} : endK false n (.rt (.bl i)) h = some (.bl i, h.take n) := end_bl rfl
theorem pick_mem {l : List Int} {i : Int} (h0 : 0 ≤ i) (h1 : i < l.length) : pick l i ∈ l := by
  have hl : i.toNat < l.length := by omega
  unfold pick
  rw [List.getD_eq_getElem?_getD, List.getElem?_eq_getElem hl]
  exact List.getElem_mem hl
theorem rangeL_nat {n : Nat} {d : D} (h : d ∈ rangeL 0 n) : ∃ k : Nat, k < n ∧ d = .int k := by
  obtain ⟨k, hk, rfl⟩ := List.mem_map.1 h
  exact ⟨k, List.mem_range.1 hk, by rw [Int.zero_add]⟩
theorem rangeL_len {a : Int} {n : Nat} : (rangeL a n).length = n := by simp [rangeL]
end
end Iv

/-! Purse: what the laws drawP from. -/
namespace Iv
open PySem L2
structure P where
  a : Int
  b : Int
  c : Int
def purseO (p : P) : AO := .lst [.int p.a, .int p.b, .int p.c]
section
variable {β : Type} {κ : D → M β} {κm : M β} {n : Nat} {h : AH} {p : P}
theorem x_p0 (hn : n < h.length) : idxK (.ref n) (.int 0) κ (h.set n (purseO p)) = κ (.int p.a) (h.set n (purseO p)) := x_set (i := 0) hn rfl
theorem x_p1 (hn : n < h.length) : idxK (.ref n) (.int 1) κ (h.set n (purseO p)) = κ (.int p.b) (h.set n (purseO p)) := x_set (i := 1) hn rfl
theorem x_p2 (hn : n < h.length) : idxK (.ref n) (.int 2) κ (h.set n (purseO p)) = κ (.int p.c) (h.set n (purseO p)) := x_set (i := 2) hn rfl
theorem st_p0 {v : Int} (hn : n < h.length) : storeK (.ref n) (.int 0) (.int v) κm (h.set n (purseO p)) = κm (h.set n (purseO ⟨v, p.b, p.c⟩)) := st_set (i := 0) hn (by simp) rfl
theorem st_p2 {v : Int} (hn : n < h.length) : storeK (.ref n) (.int 2) (.int v) κm (h.set n (purseO p)) = κm (h.set n (purseO ⟨p.a, p.b, v⟩)) := st_set (i := 2) hn (by simp) rfl
theorem end_own {o : AO} : endK true h.length (.rt (.ref h.length)) (h ++ [o]) = some (.ref h.length, h ++ [o]) := by
  simp [endK, fin, owned]
theorem app_set {o : AO} : h ++ [o] = (h ++ [AO.lst []]).set h.length o := by
  simp
theorem pw {β : Type} {κ : D → M β} {h : AH} {i j r : Int} (e : powOk i j = true) (e2 : i ^ j.toNat = r) : binK .pow (.int i) (.int j) κ h = κ (.int r) h := bnd_of (by simp only [opt, binD, e, e2, if_true])
theorem pw6 {β : Type} {κ : D → M β} {h : AH} : binK .pow (.int 10) (.int 6) κ h = κ (.int 1000000) h := pw (by decide +kernel) (by decide +kernel)
theorem pw9 {β : Type} {κ : D → M β} {h : AH} : binK .pow (.int 10) (.int 9) κ h = κ (.int 1000000000) h := pw (by decide +kernel) (by decide +kernel)
theorem pw12 {β : Type} {κ : D → M β} {h : AH} : binK .pow (.int 10) (.int 12) κ h = κ (.int 1000000000000) h := pw (by decide +kernel) (by decide +kernel)
theorem pw18 {β : Type} {κ : D → M β} {h : AH} : binK .pow (.int 10) (.int 18) κ h = κ (.int 1000000000000000000) h := pw (by decide +kernel) (by decide +kernel)
theorem pw24 {β : Type} {κ : D → M β} {h : AH} : binK .pow (.int 10) (.int 24) κ h = κ (.int 1000000000000000000000000) h := pw (by decide +kernel) (by decide +kernel)
theorem pw30 {β : Type} {κ : D → M β} {h : AH} : binK .pow (.int 10) (.int 30) κ h = κ (.int 1000000000000000000000000000000) h := pw (by decide +kernel) (by decide +kernel)
theorem pw60 {β : Type} {κ : D → M β} {h : AH} : binK .pow (.int 10) (.int 60) κ h = κ (.int 1000000000000000000000000000000000000000000000000000000000000) h := pw (by decide +kernel) (by decide +kernel)
/-- 10 ** 600 -/
def M600 : Int := 1000000000000000000000000000000000000000000000000000000000000 ^ 10
theorem M600_pos : 0 < M600 := by decide +kernel
theorem pw600 {β : Type} {κ : D → M β} {h : AH} : binK .pow (.int 1000000000000000000000000000000000000000000000000000000000000) (.int 10) κ h = κ (.int M600) h := pw (by decide +kernel) rfl
theorem md600 {β : Type} {κ : D → M β} {h : AH} {i : Int} : binK .mod (.int i) (.int M600) κ h = κ (.int (i % M600)) h := o_mod M600_pos
end
def mixed (cell k : Int) : Int :=
  ((((cell * 1103515245 + 7919 * k * k + k + 1) % 2147483647) * ((cell * 1103515245 + 7919 * k * k + k + 1) % 2147483647) + 69621) % 2147483629) * 48271 % 2147483587
/-- a turn of the loop that mixes -/
def turn (p : P) (z : Int) : P × Int := (⟨p.a, p.b, p.c + 1⟩, z * 2147483587 + mixed p.b (p.c + 1))
def turns : Nat → P → Int → P × Int
  | 0, p, z => (p, z)
  | t + 1, p, z => turns t (turn p z).1 (turn p z).2
def many (m : Int) : Nat := 1 + Builtin.Int.intBits m / 30
/-- a drawn number, and the purse behind it -/
def drawP (p : P) (m : Int) : Int × P := if 0 < p.a then (p.a % m, ⟨p.a / m, p.b, p.c⟩) else ((turns (many m) p 0).2 % m, (turns (many m) p 0).1)
theorem draw_lo (p : P) {m : Int} (h : 0 < m) : 0 ≤ (drawP p m).1 := by
  unfold drawP
  split <;> exact Int.emod_nonneg _ (by omega)
theorem draw_hi (p : P) {m : Int} (h : 0 < m) : (drawP p m).1 < m := by
  unfold drawP
  split <;> exact Int.emod_lt_of_pos _ h
theorem turns_c : ∀ (t : Nat) (p : P) (z : Int), (turns t p z).1.c = p.c + t
  | 0, p, z => by simp [turns]
  | t + 1, p, z => by
    rw [turns, turns_c t]
    simp only [turn]
    omega
theorem many_le {m : Int} (h : m.natAbs < 2 ^ 62) : many m ≤ 9 := by
  have := intBits_lt h (by decide)
  unfold many
  omega
theorem rng_draw {m : Int} {α : Type} {κ : List D × Option Nat → M α} {h : AH} (hm : m.natAbs < 2 ^ 62) : rgK (.int (1 + (Builtin.Int.intBits m : Nat) / 30)) κ h = κ (rangeL 0 (many m), none) h := by
  have hb := intBits_lt hm (by decide)
  rw [rgK_is (by omega) (by omega), show (1 + ((Builtin.Int.intBits m : Nat) : Int) / 30).toNat = many m by unfold many; omega]
/-- how often one may drawP yet -/
def P.ok (p : P) (k : Nat) : Prop := 0 ≤ p.c ∧ p.c + 9 * k < 2 ^ 60
theorem P.ok.weak {p : P} {k l : Nat} (h : p.ok l) (hk : k ≤ l) : p.ok k := ⟨h.1, by have := h.2; omega⟩
theorem draw_ok {p : P} {m : Int} {k : Nat} (h : p.ok (k + 1)) (hm : m.natAbs < 2 ^ 62) : (drawP p m).2.ok k := by
  obtain ⟨h0, h1⟩ := h
  unfold drawP
  split
  · exact ⟨h0, by show p.c + _ < _; omega⟩
  · have := many_le hm
    refine ⟨?_, ?_⟩
    · show 0 ≤ (turns (many m) p 0).1.c
      rw [turns_c]; omega
    · show (turns (many m) p 0).1.c + _ < _
      rw [turns_c]; omega
/-- the purse of the n-th number -/
def purse0 (ns : List Int) (n : Nat) : P := ⟨(if 0 > ns.getD n 0 - 1000000000000000000 then 0 else ns.getD n 0 - 1000000000000000000) % M600, ns.getD n 0 % 2147483647, 1000 * n⟩
theorem purse0_ok {ns : List Int} {n k : Nat} (h : n ≤ 100) (hk : k ≤ 10 ^ 12) : (purse0 ns n).ok k := ⟨by simp only [purse0]; omega, by simp only [purse0]; omega⟩
end Iv

namespace Law
open PySem L2 Iv
/-! ### the text -/
def topS (i : Nat) : Stmt := PySem.Challenge.pw_landweave_k01_knots.main.body.getD i (.Pass ⟨0, 0, 0, 0⟩)
abbrev f_knot : Nat := 0
abbrev fL_at : Nat := 1
abbrev fL_mixed : Nat := 2
abbrev fL_purse : Nat := 3
abbrev fL_draw : Nat := 4
abbrev fL_whole : Nat := 5
abbrev fL_knot : Nat := 6
abbrev fL_grain : Nat := 7
abbrev fL_far : Nat := 8
abbrev f_law : Nat := 9
def b_knot : List S := [(.asg (.nm 4) (.bin .mod (.bin .add (.bin .add (.v 0) (.bin .mul (.c (.int 48271)) (.v 1))) (.c (.int 7))) (.c (.int 2147483647)))), (.asg (.nm 5) (.bin .mod (.bin .add (.bin .add (.bin .mul (.v 4) (.v 4)) (.bin .mul (.c (.int 69621)) (.v 2))) (.c (.int 1))) (.c (.int 2147483629)))), (.asg (.nm 6) (.bin .mod (.bin .add (.bin .add (.bin .mul (.v 5) (.v 5)) (.bin .mul (.c (.int 16807)) (.v 3))) (.c (.int 1))) (.c (.int 2147483587)))), (.ret (.bin .mod (.bin .mod (.bin .add (.bin .mul (.v 6) (.v 6)) (.v 6)) (.c (.int 2147483579))) (.c (.int 65536))))]
def t_knot : FnT := { name := "knot", st := topS 6, N := ["seed", "salt", "i", "j", "one", "two", "three"], ps := ["seed", "salt", "i", "j"], fn := { np := 4, ns := 7, own := false, body := b_knot } }
def bL_at : List S := [(.ite (.cmp .lt (.v 1) (.bi .len [(.v 0)])) [(.ret (.idx (.v 0) (.v 1)))] []), (.ret (.c (.int 0)))]
def tL_at : FnT := { name := "_law_at", st := topS 8, N := ["_law_script", "_law_k"], ps := ["_law_script", "_law_k"], fn := { np := 2, ns := 2, own := false, body := bL_at } }
def bL_mixed : List S := [(.asg (.nm 2) (.bin .mod (.bin .add (.bin .add (.bin .add (.bin .mul (.v 0) (.c (.int 1103515245))) (.bin .mul (.bin .mul (.c (.int 7919)) (.v 1)) (.v 1))) (.v 1)) (.c (.int 1))) (.c (.int 2147483647)))), (.asg (.nm 2) (.bin .mod (.bin .add (.bin .mul (.v 2) (.v 2)) (.c (.int 69621))) (.c (.int 2147483629)))), (.ret (.bin .mod (.bin .mul (.v 2) (.c (.int 48271))) (.c (.int 2147483587))))]
def tL_mixed : FnT := { name := "_law_mixed", st := topS 9, N := ["_law_cell", "_law_k", "_law_number"], ps := ["_law_cell", "_law_k"], fn := { np := 2, ns := 3, own := false, body := bL_mixed } }
def bL_purse : List S := [(.asg (.nm 2) (.call 1 [0, 1] [(.v 0), (.v 1)])), (.ret (.alloc (.disp [(.bin .mod (.bi .max2 [(.bin .sub (.v 2) (.bin .pow (.c (.int 10)) (.c (.int 18)))), (.c (.int 0))]) (.bin .pow (.bin .pow (.c (.int 10)) (.c (.int 60))) (.c (.int 10)))), (.bin .mod (.v 2) (.c (.int 2147483647))), (.bin .mul (.c (.int 1000)) (.v 1))])))]
def tL_purse : FnT := { name := "_law_purse", st := topS 10, N := ["_law_script", "_law_at_here", "_law_cell"], ps := ["_law_script", "_law_at_here"], fn := { np := 2, ns := 3, own := true, body := bL_purse } }
def bL_draw : List S := [(.ite (.cmp .gt (.idx (.v 0) (.c (.int 0))) (.c (.int 0))) [(.asg (.nm 4) (.bin .mod (.idx (.v 0) (.c (.int 0))) (.v 1))), (.asg (.sub (.v 0) (.c (.int 0))) (.bin .fdiv (.idx (.v 0) (.c (.int 0))) (.v 1))), (.ret (.v 4))] []), (.asg (.nm 2) (.c (.int 0))), (.for (.nm 3) (.range1 (.bin .add (.c (.int 1)) (.bin .fdiv (.bi .bitlen [(.v 1)]) (.c (.int 30))))) [(.asg (.sub (.v 0) (.c (.int 2))) (.bin .add (.idx (.v 0) (.c (.int 2))) (.c (.int 1)))), (.asg (.nm 2) (.bin .add (.bin .mul (.v 2) (.c (.int 2147483587))) (.call 2 [0, 1] [(.idx (.v 0) (.c (.int 1))), (.idx (.v 0) (.c (.int 2)))])))]), (.ret (.bin .mod (.v 2) (.v 1)))]
def tL_draw : FnT := { name := "_law_draw", st := topS 11, N := ["_law_purse_here", "_law_out_of", "_law_number", "_law_k", "_law_drawn"], ps := ["_law_purse_here", "_law_out_of"], fn := { np := 2, ns := 5, own := false, body := bL_draw } }
def bL_whole : List S := [(.ret (.and (.bi (.isa .int) [(.v 0)]) (.not (.bi (.isa .bool) [(.v 0)]))))]
def tL_whole : FnT := { name := "_law_whole", st := topS 12, N := ["_law_found"], ps := ["_law_found"], fn := { np := 1, ns := 1, own := false, body := bL_whole } }
def bL_knot : List S := [(.asg (.nm 4) (.bin .mod (.bin .add (.bin .add (.v 0) (.bin .mul (.c (.int 48271)) (.v 1))) (.c (.int 7))) (.c (.int 2147483647)))), (.asg (.nm 5) (.bin .mod (.bin .add (.bin .add (.bin .mul (.v 4) (.v 4)) (.bin .mul (.c (.int 69621)) (.v 2))) (.c (.int 1))) (.c (.int 2147483629)))), (.asg (.nm 6) (.bin .mod (.bin .add (.bin .add (.bin .mul (.v 5) (.v 5)) (.bin .mul (.c (.int 16807)) (.v 3))) (.c (.int 1))) (.c (.int 2147483587)))), (.ret (.bin .mod (.bin .mod (.bin .add (.bin .mul (.v 6) (.v 6)) (.v 6)) (.c (.int 2147483579))) (.c (.int 65536))))]
def tL_knot : FnT := { name := "_law_knot", st := topS 13, N := ["_law_grain_here", "_law_salted", "_law_left", "_law_right", "_law_one", "_law_two", "_law_three"], ps := ["_law_grain_here", "_law_salted", "_law_left", "_law_right"], fn := { np := 4, ns := 7, own := false, body := bL_knot } }
def bL_grain : List S := [(.ret (.idx (.lstv (.disp [(.c (.int 0)), (.c (.int 1)), (.bin .pow (.c (.int 10)) (.c (.int 9))), (.call 4 [0, 1] [(.v 0), (.bin .pow (.c (.int 10)) (.c (.int 9)))])])) (.call 4 [0, 1] [(.v 0), (.c (.int 4))])))]
def tL_grain : FnT := { name := "_law_grain", st := topS 14, N := ["_law_purse_here"], ps := ["_law_purse_here"], fn := { np := 1, ns := 1, own := false, body := bL_grain } }
def bL_far : List S := [(.asg (.nm 1) (.idx (.lstv (.disp [(.c (.int 1)), (.c (.int 10)), (.c (.int 1000)), (.c (.int 100000000))])) (.call 4 [0, 1] [(.v 0), (.c (.int 4))]))), (.ret (.bin .mul (.call 4 [0, 1] [(.v 0), (.v 1)]) (.bin .sub (.c (.int 1)) (.bin .mul (.c (.int 2)) (.call 4 [0, 1] [(.v 0), (.c (.int 2))])))))]
def tL_far : FnT := { name := "_law_far", st := topS 15, N := ["_law_purse_here", "_law_most"], ps := ["_law_purse_here"], fn := { np := 1, ns := 2, own := false, body := bL_far } }
def b_law : List S := [(.for (.nm 1) (.range1 (.c (.int 12))) [(.asg (.nm 2) (.call 3 [0, 1] [(.v 0), (.v 1)])), (.asg (.nm 3) (.call 7 [0] [(.v 2)])), (.asg (.nm 4) (.call 7 [0] [(.v 2)])), (.for (.nm 5) (.range1 (.c (.int 4))) [(.asg (.nm 6) (.call 8 [0] [(.v 2)])), (.asg (.nm 7) (.call 8 [0] [(.v 2)])), (.asg (.nm 8) (.call 0 [0, 1, 2, 3] [(.v 3), (.v 4), (.v 6), (.v 7)])), (.ite (.or (.not (.call 5 [0] [(.v 8)])) (.or (.cmp .ne (.v 8) (.call 6 [0, 1, 2, 3] [(.v 3), (.v 4), (.v 6), (.v 7)])) (.not (.chain .le .lt (.c (.int 0)) (.v 8) (.c (.int 65536)))))) [(.ret (.c (.bl false)))] []), (.ite (.or (.cmp .ne (.call 0 [3, 2, 1, 0] [(.v 7), (.v 6), (.v 4), (.v 3)]) (.v 8)) (.cmp .ne (.call 0 [0, 1, 2, 3] [(.v 3), (.v 4), (.v 6), (.v 7)]) (.v 8))) [(.ret (.c (.bl false)))] [])])]), (.ret (.and (.cmp .eq (.call 0 [0, 1, 2, 3] [(.c (.int 0)), (.c (.int 0)), (.c (.int 0)), (.c (.int 0))]) (.call 6 [0, 1, 2, 3] [(.c (.int 0)), (.c (.int 0)), (.c (.int 0)), (.c (.int 0))])) (.cmp .lt (.call 0 [0, 1, 2, 3] [(.bin .pow (.c (.int 10)) (.c (.int 9))), (.bin .pow (.c (.int 10)) (.c (.int 9))), (.c (.int 99999999)), (.neg (.c (.int 99999999)))]) (.c (.int 65536)))))]
def t_law : FnT := { name := "law", st := topS 16, N := ["_law_script", "_law_cell", "_law_purse_here", "_law_grain_here", "_law_salted", "_law_turn", "_law_first", "_law_second", "_law_found"], ps := ["_law_script"], fn := { np := 1, ns := 9, own := false, body := b_law } }
def tbl : List FnT := [t_knot, tL_at, tL_mixed, tL_purse, tL_draw, tL_whole, tL_knot, tL_grain, tL_far, t_law]
abbrev T : List Fn := tbl.map (·.fn)
def gls : List (Str × D) := [("FIRST", (.int 2147483647)), ("SECOND", (.int 2147483629)), ("THIRD", (.int 2147483587)), ("LAST", (.int 2147483579)), ("MOST", (.int 65536))]
def shs : List Shape := [⟨1, 2, [], [], [0, 1]⟩, ⟨2, 2, [], [], [0, 1]⟩, ⟨4, 2, [], [], [0, 1]⟩, ⟨3, 2, [], [], [0, 1]⟩, ⟨7, 1, [], [], [0]⟩, ⟨8, 1, [], [], [0]⟩, ⟨0, 4, [], [], [0, 1, 2, 3]⟩, ⟨5, 1, [], [], [0]⟩, ⟨6, 4, [], [], [0, 1, 2, 3]⟩, ⟨0, 0, ["j", "i", "salt", "seed"], [], [3, 2, 1, 0]⟩]
def blts : List Str := ["len", "max", "range", "isinstance", "int", "bool"]
def tx : Tx := { N := [], fns := tbl.map fun t => (t.name, t.ps), gl := gls, shapes := shs, blt := blts }
theorem ck_all : tbl.all (ckFn tx) = true := by decide +kernel
end Law

namespace Law
open PySem L2 Iv
theorem run_mixed {k : Nat} {c j : Int} {h : AH} (hj : j.natAbs < 2 ^ 64) : run T (k + 1) fL_mixed [.int c, .int j] h = some (.int (mixed c j), h) := by
  rw [run_eq (fn := tL_mixed.fn) rfl rfl]
  show bnd (semSs _ bL_mixed [some (.int c), some (.int j), none]) (endK false h.length) h = _
  unfold bL_mixed
  simp -implicitDefEqProofs (disch := omega) only [↓Iv.slotK_0, ↓Iv.slotK_s, ↓Iv.setK_0, ↓Iv.setK_s, ↓Iv.nthK_0, ↓Iv.nthK_s, ↓Iv.permK_0, ↓Iv.permK_s, ↓Iv.e_v, ↓Iv.e_c, ↓Iv.e_tup, ↓Iv.e_lstv, ↓Iv.e_alloc, ↓Iv.e_bin, ↓Iv.e_neg, ↓Iv.e_cmp, ↓Iv.e_chain, ↓Iv.e_and, ↓Iv.e_or, ↓Iv.e_not, ↓Iv.e_ite, ↓Iv.e_idx, ↓Iv.e_call, ↓Iv.e_bi, ↓Iv.es_nil, ↓Iv.es_cons, ↓Iv.f_disp, ↓Iv.new_3, ↓Iv.new_0, ↓Iv.sz_0, ↓Iv.sz_1, ↓Iv.sz_2, ↓Iv.sz_3, ↓Iv.sz_4, ↓Iv.sz_5, ↓Iv.sz_6, ↓Iv.sz_7, ↓Iv.sz_8, ↓Iv.sz_9, ↓Iv.sz_10, ↓Iv.sz_11, ↓Iv.sz_12, ↓Iv.sz_13, ↓Iv.sz_14, ↓Iv.t_nm, ↓Iv.t_tup, ↓Iv.t_sub, ↓Iv.ts_nil, ↓Iv.ts_cons, ↓Iv.ss_nil, ↓Iv.ss_cons, ↓Iv.seqK_rt, ↓Iv.seqK_nx, ↓Iv.s_asg, ↓Iv.s_aug, ↓Iv.s_expr, ↓Iv.s_ret, ↓Iv.s_retN, ↓Iv.s_pass, ↓Iv.s_ite, ↓Iv.s_for, ↓Iv.i_range1, ↓Iv.i_range2, ↓Iv.i_seq, ↓Iv.rgK_is, ↓Iv.rgK2_is, ↓Iv.itK_lst, ↓Iv.itK_tup, ↓Iv.o_add, ↓Iv.o_sub, ↓Iv.o_mul_l, ↓Iv.o_mul_r, ↓Iv.md600, ↓Iv.o_mod, ↓Iv.o_fdiv_s, ↓Iv.o_shl, ↓Iv.o_neg, ↓Iv.c_lt, ↓Iv.c_le, ↓Iv.c_gt, ↓Iv.c_ge, ↓Iv.c_eqI, ↓Iv.c_neI, ↓Iv.bl_K, ↓Iv.b_lenL, ↓Iv.b_lenT, ↓Iv.b_abs, ↓Iv.b_min2, ↓Iv.b_max2, ↓Iv.b_bits, ↓Iv.b_isaI_i, ↓Iv.b_isaI_b, ↓Iv.b_isaB_i, ↓Iv.b_isaB_b, ↓Iv.x_pick2, ↓Iv.x_pick3, ↓Iv.x_pick4, ↓Iv.x_pick5, ↓Iv.iteB_T, ↓Iv.iteB_F, ↓Iv.bodyF_is, ↓Iv.end_i, ↓Iv.end_b, ↓Iv.end_iS, ↓Iv.end_iL, ↓Iv.end_own, ↓Iv.pw6, ↓Iv.pw9, ↓Iv.pw12, ↓Iv.pw18, ↓Iv.pw24, ↓Iv.pw30, ↓Iv.pw60, ↓Iv.pw600, ↓Iv.md600, ↓Iv.x_p0, ↓Iv.x_p1, ↓Iv.x_p2, ↓Iv.st_p0, ↓Iv.st_p2, Bool.not_true, Bool.not_false, decide_true, decide_false, eq_self]
  rfl
theorem run_at {k : Nat} {ns : List Int} {n : Nat} {h : AH} : run T (k + 1) fL_at [.lst (ns.map .int), .int n] h = some (.int (ns.getD n 0), h) := by
  rw [run_eq (fn := tL_at.fn) rfl rfl]
  show bnd (semSs _ bL_at [some (.lst (ns.map .int)), some (.int n)]) (endK false h.length) h = _
  unfold bL_at
  simp -implicitDefEqProofs (disch := omega) only [↓Iv.slotK_0, ↓Iv.slotK_s, ↓Iv.setK_0, ↓Iv.setK_s, ↓Iv.nthK_0, ↓Iv.nthK_s, ↓Iv.permK_0, ↓Iv.permK_s, ↓Iv.e_v, ↓Iv.e_c, ↓Iv.e_tup, ↓Iv.e_lstv, ↓Iv.e_alloc, ↓Iv.e_bin, ↓Iv.e_neg, ↓Iv.e_cmp, ↓Iv.e_chain, ↓Iv.e_and, ↓Iv.e_or, ↓Iv.e_not, ↓Iv.e_ite, ↓Iv.e_idx, ↓Iv.e_call, ↓Iv.e_bi, ↓Iv.es_nil, ↓Iv.es_cons, ↓Iv.f_disp, ↓Iv.new_3, ↓Iv.new_0, ↓Iv.sz_0, ↓Iv.sz_1, ↓Iv.sz_2, ↓Iv.sz_3, ↓Iv.sz_4, ↓Iv.sz_5, ↓Iv.sz_6, ↓Iv.sz_7, ↓Iv.sz_8, ↓Iv.sz_9, ↓Iv.sz_10, ↓Iv.sz_11, ↓Iv.sz_12, ↓Iv.sz_13, ↓Iv.sz_14, ↓Iv.t_nm, ↓Iv.t_tup, ↓Iv.t_sub, ↓Iv.ts_nil, ↓Iv.ts_cons, ↓Iv.ss_nil, ↓Iv.ss_cons, ↓Iv.seqK_rt, ↓Iv.seqK_nx, ↓Iv.s_asg, ↓Iv.s_aug, ↓Iv.s_expr, ↓Iv.s_ret, ↓Iv.s_retN, ↓Iv.s_pass, ↓Iv.s_ite, ↓Iv.s_for, ↓Iv.i_range1, ↓Iv.i_range2, ↓Iv.i_seq, ↓Iv.rgK_is, ↓Iv.rgK2_is, ↓Iv.itK_lst, ↓Iv.itK_tup, ↓Iv.o_add, ↓Iv.o_sub, ↓Iv.o_mul_l, ↓Iv.o_mul_r, ↓Iv.md600, ↓Iv.o_mod, ↓Iv.o_fdiv_s, ↓Iv.o_shl, ↓Iv.o_neg, ↓Iv.c_lt, ↓Iv.c_le, ↓Iv.c_gt, ↓Iv.c_ge, ↓Iv.c_eqI, ↓Iv.c_neI, ↓Iv.bl_K, ↓Iv.b_lenL, ↓Iv.b_lenT, ↓Iv.b_abs, ↓Iv.b_min2, ↓Iv.b_max2, ↓Iv.b_bits, ↓Iv.b_isaI_i, ↓Iv.b_isaI_b, ↓Iv.b_isaB_i, ↓Iv.b_isaB_b, ↓Iv.x_pick2, ↓Iv.x_pick3, ↓Iv.x_pick4, ↓Iv.x_pick5, ↓Iv.iteB_T, ↓Iv.iteB_F, ↓Iv.bodyF_is, ↓Iv.end_i, ↓Iv.end_b, ↓Iv.end_iS, ↓Iv.end_iL, ↓Iv.end_own, ↓Iv.pw6, ↓Iv.pw9, ↓Iv.pw12, ↓Iv.pw18, ↓Iv.pw24, ↓Iv.pw30, ↓Iv.pw60, ↓Iv.pw600, ↓Iv.md600, ↓Iv.x_p0, ↓Iv.x_p1, ↓Iv.x_p2, ↓Iv.st_p0, ↓Iv.st_p2, Bool.not_true, Bool.not_false, decide_true, decide_false, eq_self]
  by_cases hc : n < ns.length
  · rw [iteB_t (by simpa using hc)]
    simp -implicitDefEqProofs (disch := omega) only [↓Iv.slotK_0, ↓Iv.slotK_s, ↓Iv.setK_0, ↓Iv.setK_s, ↓Iv.nthK_0, ↓Iv.nthK_s, ↓Iv.permK_0, ↓Iv.permK_s, ↓Iv.e_v, ↓Iv.e_c, ↓Iv.e_tup, ↓Iv.e_lstv, ↓Iv.e_alloc, ↓Iv.e_bin, ↓Iv.e_neg, ↓Iv.e_cmp, ↓Iv.e_chain, ↓Iv.e_and, ↓Iv.e_or, ↓Iv.e_not, ↓Iv.e_ite, ↓Iv.e_idx, ↓Iv.e_call, ↓Iv.e_bi, ↓Iv.es_nil, ↓Iv.es_cons, ↓Iv.f_disp, ↓Iv.new_3, ↓Iv.new_0, ↓Iv.sz_0, ↓Iv.sz_1, ↓Iv.sz_2, ↓Iv.sz_3, ↓Iv.sz_4, ↓Iv.sz_5, ↓Iv.sz_6, ↓Iv.sz_7, ↓Iv.sz_8, ↓Iv.sz_9, ↓Iv.sz_10, ↓Iv.sz_11, ↓Iv.sz_12, ↓Iv.sz_13, ↓Iv.sz_14, ↓Iv.t_nm, ↓Iv.t_tup, ↓Iv.t_sub, ↓Iv.ts_nil, ↓Iv.ts_cons, ↓Iv.ss_nil, ↓Iv.ss_cons, ↓Iv.seqK_rt, ↓Iv.seqK_nx, ↓Iv.s_asg, ↓Iv.s_aug, ↓Iv.s_expr, ↓Iv.s_ret, ↓Iv.s_retN, ↓Iv.s_pass, ↓Iv.s_ite, ↓Iv.s_for, ↓Iv.i_range1, ↓Iv.i_range2, ↓Iv.i_seq, ↓Iv.rgK_is, ↓Iv.rgK2_is, ↓Iv.itK_lst, ↓Iv.itK_tup, ↓Iv.o_add, ↓Iv.o_sub, ↓Iv.o_mul_l, ↓Iv.o_mul_r, ↓Iv.md600, ↓Iv.o_mod, ↓Iv.o_fdiv_s, ↓Iv.o_shl, ↓Iv.o_neg, ↓Iv.c_lt, ↓Iv.c_le, ↓Iv.c_gt, ↓Iv.c_ge, ↓Iv.c_eqI, ↓Iv.c_neI, ↓Iv.bl_K, ↓Iv.b_lenL, ↓Iv.b_lenT, ↓Iv.b_abs, ↓Iv.b_min2, ↓Iv.b_max2, ↓Iv.b_bits, ↓Iv.b_isaI_i, ↓Iv.b_isaI_b, ↓Iv.b_isaB_i, ↓Iv.b_isaB_b, ↓Iv.x_pick2, ↓Iv.x_pick3, ↓Iv.x_pick4, ↓Iv.x_pick5, ↓Iv.iteB_T, ↓Iv.iteB_F, ↓Iv.bodyF_is, ↓Iv.end_i, ↓Iv.end_b, ↓Iv.end_iS, ↓Iv.end_iL, ↓Iv.end_own, ↓Iv.pw6, ↓Iv.pw9, ↓Iv.pw12, ↓Iv.pw18, ↓Iv.pw24, ↓Iv.pw30, ↓Iv.pw60, ↓Iv.pw600, ↓Iv.md600, ↓Iv.x_p0, ↓Iv.x_p1, ↓Iv.x_p2, ↓Iv.st_p0, ↓Iv.st_p2, Bool.not_true, Bool.not_false, decide_true, decide_false, eq_self]
    rw [x_lst (d := .int (ns.getD n 0)) (by rw [List.getElem?_map, List.getElem?_eq_getElem hc]; simp [List.getD_eq_getElem?_getD, hc])]
    simp -implicitDefEqProofs (disch := omega) only [↓Iv.slotK_0, ↓Iv.slotK_s, ↓Iv.setK_0, ↓Iv.setK_s, ↓Iv.nthK_0, ↓Iv.nthK_s, ↓Iv.permK_0, ↓Iv.permK_s, ↓Iv.e_v, ↓Iv.e_c, ↓Iv.e_tup, ↓Iv.e_lstv, ↓Iv.e_alloc, ↓Iv.e_bin, ↓Iv.e_neg, ↓Iv.e_cmp, ↓Iv.e_chain, ↓Iv.e_and, ↓Iv.e_or, ↓Iv.e_not, ↓Iv.e_ite, ↓Iv.e_idx, ↓Iv.e_call, ↓Iv.e_bi, ↓Iv.es_nil, ↓Iv.es_cons, ↓Iv.f_disp, ↓Iv.new_3, ↓Iv.new_0, ↓Iv.sz_0, ↓Iv.sz_1, ↓Iv.sz_2, ↓Iv.sz_3, ↓Iv.sz_4, ↓Iv.sz_5, ↓Iv.sz_6, ↓Iv.sz_7, ↓Iv.sz_8, ↓Iv.sz_9, ↓Iv.sz_10, ↓Iv.sz_11, ↓Iv.sz_12, ↓Iv.sz_13, ↓Iv.sz_14, ↓Iv.t_nm, ↓Iv.t_tup, ↓Iv.t_sub, ↓Iv.ts_nil, ↓Iv.ts_cons, ↓Iv.ss_nil, ↓Iv.ss_cons, ↓Iv.seqK_rt, ↓Iv.seqK_nx, ↓Iv.s_asg, ↓Iv.s_aug, ↓Iv.s_expr, ↓Iv.s_ret, ↓Iv.s_retN, ↓Iv.s_pass, ↓Iv.s_ite, ↓Iv.s_for, ↓Iv.i_range1, ↓Iv.i_range2, ↓Iv.i_seq, ↓Iv.rgK_is, ↓Iv.rgK2_is, ↓Iv.itK_lst, ↓Iv.itK_tup, ↓Iv.o_add, ↓Iv.o_sub, ↓Iv.o_mul_l, ↓Iv.o_mul_r, ↓Iv.md600, ↓Iv.o_mod, ↓Iv.o_fdiv_s, ↓Iv.o_shl, ↓Iv.o_neg, ↓Iv.c_lt, ↓Iv.c_le, ↓Iv.c_gt, ↓Iv.c_ge, ↓Iv.c_eqI, ↓Iv.c_neI, ↓Iv.bl_K, ↓Iv.b_lenL, ↓Iv.b_lenT, ↓Iv.b_abs, ↓Iv.b_min2, ↓Iv.b_max2, ↓Iv.b_bits, ↓Iv.b_isaI_i, ↓Iv.b_isaI_b, ↓Iv.b_isaB_i, ↓Iv.b_isaB_b, ↓Iv.x_pick2, ↓Iv.x_pick3, ↓Iv.x_pick4, ↓Iv.x_pick5, ↓Iv.iteB_T, ↓Iv.iteB_F, ↓Iv.bodyF_is, ↓Iv.end_i, ↓Iv.end_b, ↓Iv.end_iS, ↓Iv.end_iL, ↓Iv.end_own, ↓Iv.pw6, ↓Iv.pw9, ↓Iv.pw12, ↓Iv.pw18, ↓Iv.pw24, ↓Iv.pw30, ↓Iv.pw60, ↓Iv.pw600, ↓Iv.md600, ↓Iv.x_p0, ↓Iv.x_p1, ↓Iv.x_p2, ↓Iv.st_p0, ↓Iv.st_p2, Bool.not_true, Bool.not_false, decide_true, decide_false, eq_self]
  · rw [iteB_f (by simpa using hc)]
    simp -implicitDefEqProofs (disch := omega) only [↓Iv.slotK_0, ↓Iv.slotK_s, ↓Iv.setK_0, ↓Iv.setK_s, ↓Iv.nthK_0, ↓Iv.nthK_s, ↓Iv.permK_0, ↓Iv.permK_s, ↓Iv.e_v, ↓Iv.e_c, ↓Iv.e_tup, ↓Iv.e_lstv, ↓Iv.e_alloc, ↓Iv.e_bin, ↓Iv.e_neg, ↓Iv.e_cmp, ↓Iv.e_chain, ↓Iv.e_and, ↓Iv.e_or, ↓Iv.e_not, ↓Iv.e_ite, ↓Iv.e_idx, ↓Iv.e_call, ↓Iv.e_bi, ↓Iv.es_nil, ↓Iv.es_cons, ↓Iv.f_disp, ↓Iv.new_3, ↓Iv.new_0, ↓Iv.sz_0, ↓Iv.sz_1, ↓Iv.sz_2, ↓Iv.sz_3, ↓Iv.sz_4, ↓Iv.sz_5, ↓Iv.sz_6, ↓Iv.sz_7, ↓Iv.sz_8, ↓Iv.sz_9, ↓Iv.sz_10, ↓Iv.sz_11, ↓Iv.sz_12, ↓Iv.sz_13, ↓Iv.sz_14, ↓Iv.t_nm, ↓Iv.t_tup, ↓Iv.t_sub, ↓Iv.ts_nil, ↓Iv.ts_cons, ↓Iv.ss_nil, ↓Iv.ss_cons, ↓Iv.seqK_rt, ↓Iv.seqK_nx, ↓Iv.s_asg, ↓Iv.s_aug, ↓Iv.s_expr, ↓Iv.s_ret, ↓Iv.s_retN, ↓Iv.s_pass, ↓Iv.s_ite, ↓Iv.s_for, ↓Iv.i_range1, ↓Iv.i_range2, ↓Iv.i_seq, ↓Iv.rgK_is, ↓Iv.rgK2_is, ↓Iv.itK_lst, ↓Iv.itK_tup, ↓Iv.o_add, ↓Iv.o_sub, ↓Iv.o_mul_l, ↓Iv.o_mul_r, ↓Iv.md600, ↓Iv.o_mod, ↓Iv.o_fdiv_s, ↓Iv.o_shl, ↓Iv.o_neg, ↓Iv.c_lt, ↓Iv.c_le, ↓Iv.c_gt, ↓Iv.c_ge, ↓Iv.c_eqI, ↓Iv.c_neI, ↓Iv.bl_K, ↓Iv.b_lenL, ↓Iv.b_lenT, ↓Iv.b_abs, ↓Iv.b_min2, ↓Iv.b_max2, ↓Iv.b_bits, ↓Iv.b_isaI_i, ↓Iv.b_isaI_b, ↓Iv.b_isaB_i, ↓Iv.b_isaB_b, ↓Iv.x_pick2, ↓Iv.x_pick3, ↓Iv.x_pick4, ↓Iv.x_pick5, ↓Iv.iteB_T, ↓Iv.iteB_F, ↓Iv.bodyF_is, ↓Iv.end_i, ↓Iv.end_b, ↓Iv.end_iS, ↓Iv.end_iL, ↓Iv.end_own, ↓Iv.pw6, ↓Iv.pw9, ↓Iv.pw12, ↓Iv.pw18, ↓Iv.pw24, ↓Iv.pw30, ↓Iv.pw60, ↓Iv.pw600, ↓Iv.md600, ↓Iv.x_p0, ↓Iv.x_p1, ↓Iv.x_p2, ↓Iv.st_p0, ↓Iv.st_p2, Bool.not_true, Bool.not_false, decide_true, decide_false, eq_self]
    rw [List.getD_eq_getElem?_getD, List.getElem?_eq_none (by omega)]
    rfl
theorem run_purse {k : Nat} (ns : List Int) (i : Nat) (h : AH) : ∃ (n : Nat) (h' : AH), n < h'.length ∧ run T (k + 2) fL_purse [.lst (ns.map .int), .int i] h = some (.ref n, h'.set n (purseO (purse0 ns i))) := by
  refine ⟨h.length, h ++ [AO.lst []], by simp, ?_⟩
  rw [run_eq (fn := tL_purse.fn) rfl rfl]
  show bnd (semSs _ bL_purse [some (.lst (ns.map .int)), some (.int i), none]) (endK true h.length) h = _
  unfold bL_purse
  simp -implicitDefEqProofs (disch := omega) only [↓Iv.slotK_0, ↓Iv.slotK_s, ↓Iv.setK_0, ↓Iv.setK_s, ↓Iv.nthK_0, ↓Iv.nthK_s, ↓Iv.permK_0, ↓Iv.permK_s, ↓Iv.e_v, ↓Iv.e_c, ↓Iv.e_tup, ↓Iv.e_lstv, ↓Iv.e_alloc, ↓Iv.e_bin, ↓Iv.e_neg, ↓Iv.e_cmp, ↓Iv.e_chain, ↓Iv.e_and, ↓Iv.e_or, ↓Iv.e_not, ↓Iv.e_ite, ↓Iv.e_idx, ↓Iv.e_call, ↓Iv.e_bi, ↓Iv.es_nil, ↓Iv.es_cons, ↓Iv.f_disp, ↓Iv.new_3, ↓Iv.new_0, ↓Iv.sz_0, ↓Iv.sz_1, ↓Iv.sz_2, ↓Iv.sz_3, ↓Iv.sz_4, ↓Iv.sz_5, ↓Iv.sz_6, ↓Iv.sz_7, ↓Iv.sz_8, ↓Iv.sz_9, ↓Iv.sz_10, ↓Iv.sz_11, ↓Iv.sz_12, ↓Iv.sz_13, ↓Iv.sz_14, ↓Iv.t_nm, ↓Iv.t_tup, ↓Iv.t_sub, ↓Iv.ts_nil, ↓Iv.ts_cons, ↓Iv.ss_nil, ↓Iv.ss_cons, ↓Iv.seqK_rt, ↓Iv.seqK_nx, ↓Iv.s_asg, ↓Iv.s_aug, ↓Iv.s_expr, ↓Iv.s_ret, ↓Iv.s_retN, ↓Iv.s_pass, ↓Iv.s_ite, ↓Iv.s_for, ↓Iv.i_range1, ↓Iv.i_range2, ↓Iv.i_seq, ↓Iv.rgK_is, ↓Iv.rgK2_is, ↓Iv.itK_lst, ↓Iv.itK_tup, ↓Iv.o_add, ↓Iv.o_sub, ↓Iv.o_mul_l, ↓Iv.o_mul_r, ↓Iv.md600, ↓Iv.o_mod, ↓Iv.o_fdiv_s, ↓Iv.o_shl, ↓Iv.o_neg, ↓Iv.c_lt, ↓Iv.c_le, ↓Iv.c_gt, ↓Iv.c_ge, ↓Iv.c_eqI, ↓Iv.c_neI, ↓Iv.bl_K, ↓Iv.b_lenL, ↓Iv.b_lenT, ↓Iv.b_abs, ↓Iv.b_min2, ↓Iv.b_max2, ↓Iv.b_bits, ↓Iv.b_isaI_i, ↓Iv.b_isaI_b, ↓Iv.b_isaB_i, ↓Iv.b_isaB_b, ↓Iv.x_pick2, ↓Iv.x_pick3, ↓Iv.x_pick4, ↓Iv.x_pick5, ↓Iv.iteB_T, ↓Iv.iteB_F, ↓Iv.bodyF_is, ↓Iv.end_i, ↓Iv.end_b, ↓Iv.end_iS, ↓Iv.end_iL, ↓Iv.end_own, ↓Iv.pw6, ↓Iv.pw9, ↓Iv.pw12, ↓Iv.pw18, ↓Iv.pw24, ↓Iv.pw30, ↓Iv.pw60, ↓Iv.pw600, ↓Iv.md600, ↓Iv.x_p0, ↓Iv.x_p1, ↓Iv.x_p2, ↓Iv.st_p0, ↓Iv.st_p2, ↓bnd_of run_at, Bool.not_true, Bool.not_false, decide_true, decide_false, eq_self]
  rw [app_set]
  rfl
theorem draw_loop {k : Nat} {n : Nat} {h : AH} {m : Int} {all : List D} {y : Option D} {κ : Fl → M D} (hn : n < h.length) : ∀ (ds : List D) (p : P) (z : Int) (x : Option D), (0 ≤ p.c ∧ p.c + ds.length < 2 ^ 61) →
    ∃ x', bnd (forL all none (bodyF (run T (k + 1)) (.nm 3) [(.asg (.sub (.v 0) (.c (.int 2))) (.bin .add (.idx (.v 0) (.c (.int 2))) (.c (.int 1)))), (.asg (.nm 2) (.bin .add (.bin .mul (.v 2) (.c (.int 2147483587))) (.call 2 [0, 1] [(.idx (.v 0) (.c (.int 1))), (.idx (.v 0) (.c (.int 2)))])))]) ds [some (.ref n), some (.int m), some (.int z), x, y]) κ (h.set n (purseO p)) =
      κ (.nx [some (.ref n), some (.int m), some (.int (turns ds.length p z).2), x', y]) (h.set n (purseO (turns ds.length p z).1))
  | [], p, z, x, _ => ⟨x, rfl⟩
  | d :: ds, p, z, x, hp => by
    obtain ⟨h0, h1⟩ := hp
    obtain ⟨x', e⟩ := draw_loop (κ := κ) (y := y) (m := m) (all := all) (k := k) hn ds (turn p z).1 (turn p z).2 (some d) ⟨by simp only [turn]; omega, by simp only [turn, List.length_cons] at *; omega⟩
    refine ⟨x', ?_⟩
    rw [for_cons]
    have hm : (p.c + 1).natAbs < 2 ^ 64 := by simp only [List.length_cons] at h1; omega
    simp -implicitDefEqProofs (disch := omega) only [↓Iv.slotK_0, ↓Iv.slotK_s, ↓Iv.setK_0, ↓Iv.setK_s, ↓Iv.nthK_0, ↓Iv.nthK_s, ↓Iv.permK_0, ↓Iv.permK_s, ↓Iv.e_v, ↓Iv.e_c, ↓Iv.e_tup, ↓Iv.e_lstv, ↓Iv.e_alloc, ↓Iv.e_bin, ↓Iv.e_neg, ↓Iv.e_cmp, ↓Iv.e_chain, ↓Iv.e_and, ↓Iv.e_or, ↓Iv.e_not, ↓Iv.e_ite, ↓Iv.e_idx, ↓Iv.e_call, ↓Iv.e_bi, ↓Iv.es_nil, ↓Iv.es_cons, ↓Iv.f_disp, ↓Iv.new_3, ↓Iv.new_0, ↓Iv.sz_0, ↓Iv.sz_1, ↓Iv.sz_2, ↓Iv.sz_3, ↓Iv.sz_4, ↓Iv.sz_5, ↓Iv.sz_6, ↓Iv.sz_7, ↓Iv.sz_8, ↓Iv.sz_9, ↓Iv.sz_10, ↓Iv.sz_11, ↓Iv.sz_12, ↓Iv.sz_13, ↓Iv.sz_14, ↓Iv.t_nm, ↓Iv.t_tup, ↓Iv.t_sub, ↓Iv.ts_nil, ↓Iv.ts_cons, ↓Iv.ss_nil, ↓Iv.ss_cons, ↓Iv.seqK_rt, ↓Iv.seqK_nx, ↓Iv.s_asg, ↓Iv.s_aug, ↓Iv.s_expr, ↓Iv.s_ret, ↓Iv.s_retN, ↓Iv.s_pass, ↓Iv.s_ite, ↓Iv.s_for, ↓Iv.i_range1, ↓Iv.i_range2, ↓Iv.i_seq, ↓Iv.rgK_is, ↓Iv.rgK2_is, ↓Iv.itK_lst, ↓Iv.itK_tup, ↓Iv.o_add, ↓Iv.o_sub, ↓Iv.o_mul_l, ↓Iv.o_mul_r, ↓Iv.md600, ↓Iv.o_mod, ↓Iv.o_fdiv_s, ↓Iv.o_shl, ↓Iv.o_neg, ↓Iv.c_lt, ↓Iv.c_le, ↓Iv.c_gt, ↓Iv.c_ge, ↓Iv.c_eqI, ↓Iv.c_neI, ↓Iv.bl_K, ↓Iv.b_lenL, ↓Iv.b_lenT, ↓Iv.b_abs, ↓Iv.b_min2, ↓Iv.b_max2, ↓Iv.b_bits, ↓Iv.b_isaI_i, ↓Iv.b_isaI_b, ↓Iv.b_isaB_i, ↓Iv.b_isaB_b, ↓Iv.x_pick2, ↓Iv.x_pick3, ↓Iv.x_pick4, ↓Iv.x_pick5, ↓Iv.iteB_T, ↓Iv.iteB_F, ↓Iv.bodyF_is, ↓Iv.end_i, ↓Iv.end_b, ↓Iv.end_iS, ↓Iv.end_iL, ↓Iv.end_own, ↓Iv.pw6, ↓Iv.pw9, ↓Iv.pw12, ↓Iv.pw18, ↓Iv.pw24, ↓Iv.pw30, ↓Iv.pw60, ↓Iv.pw600, ↓Iv.md600, ↓Iv.x_p0, ↓Iv.x_p1, ↓Iv.x_p2, ↓Iv.st_p0, ↓Iv.st_p2, ↓x_p0, ↓x_p1, ↓x_p2, ↓st_p0, ↓st_p2, ↓bnd_of (run_mixed hm), Bool.not_true, Bool.not_false, decide_true, decide_false, eq_self]
    exact e
theorem run_draw {k : Nat} {n : Nat} {p : P} {m : Int} {h : AH} (hn : n < h.length) (hp : p.ok 1) (h0 : 0 < m) (hm : m.natAbs < 2 ^ 62) :
    run T (k + 2) fL_draw [.ref n, .int m] (h.set n (purseO p)) = some (.int (drawP p m).1, h.set n (purseO (drawP p m).2)) := by
  rw [run_eq (fn := tL_draw.fn) rfl rfl]
  show bnd (semSs _ bL_draw [some (.ref n), some (.int m), none, none, none]) (endK false (h.set n (purseO p)).length) (h.set n (purseO p)) = _
  unfold bL_draw drawP
  rw [List.length_set]
  by_cases hc : 0 < p.a
  · rw [if_pos hc]
    simp -implicitDefEqProofs (disch := omega) only [↓Iv.slotK_0, ↓Iv.slotK_s, ↓Iv.setK_0, ↓Iv.setK_s, ↓Iv.nthK_0, ↓Iv.nthK_s, ↓Iv.permK_0, ↓Iv.permK_s, ↓Iv.e_v, ↓Iv.e_c, ↓Iv.e_tup, ↓Iv.e_lstv, ↓Iv.e_alloc, ↓Iv.e_bin, ↓Iv.e_neg, ↓Iv.e_cmp, ↓Iv.e_chain, ↓Iv.e_and, ↓Iv.e_or, ↓Iv.e_not, ↓Iv.e_ite, ↓Iv.e_idx, ↓Iv.e_call, ↓Iv.e_bi, ↓Iv.es_nil, ↓Iv.es_cons, ↓Iv.f_disp, ↓Iv.new_3, ↓Iv.new_0, ↓Iv.sz_0, ↓Iv.sz_1, ↓Iv.sz_2, ↓Iv.sz_3, ↓Iv.sz_4, ↓Iv.sz_5, ↓Iv.sz_6, ↓Iv.sz_7, ↓Iv.sz_8, ↓Iv.sz_9, ↓Iv.sz_10, ↓Iv.sz_11, ↓Iv.sz_12, ↓Iv.sz_13, ↓Iv.sz_14, ↓Iv.t_nm, ↓Iv.t_tup, ↓Iv.t_sub, ↓Iv.ts_nil, ↓Iv.ts_cons, ↓Iv.ss_nil, ↓Iv.ss_cons, ↓Iv.seqK_rt, ↓Iv.seqK_nx, ↓Iv.s_asg, ↓Iv.s_aug, ↓Iv.s_expr, ↓Iv.s_ret, ↓Iv.s_retN, ↓Iv.s_pass, ↓Iv.s_ite, ↓Iv.s_for, ↓Iv.i_range1, ↓Iv.i_range2, ↓Iv.i_seq, ↓Iv.rgK_is, ↓Iv.rgK2_is, ↓Iv.itK_lst, ↓Iv.itK_tup, ↓Iv.o_add, ↓Iv.o_sub, ↓Iv.o_mul_l, ↓Iv.o_mul_r, ↓Iv.md600, ↓Iv.o_mod, ↓Iv.o_fdiv_s, ↓Iv.o_shl, ↓Iv.o_neg, ↓Iv.c_lt, ↓Iv.c_le, ↓Iv.c_gt, ↓Iv.c_ge, ↓Iv.c_eqI, ↓Iv.c_neI, ↓Iv.bl_K, ↓Iv.b_lenL, ↓Iv.b_lenT, ↓Iv.b_abs, ↓Iv.b_min2, ↓Iv.b_max2, ↓Iv.b_bits, ↓Iv.b_isaI_i, ↓Iv.b_isaI_b, ↓Iv.b_isaB_i, ↓Iv.b_isaB_b, ↓Iv.x_pick2, ↓Iv.x_pick3, ↓Iv.x_pick4, ↓Iv.x_pick5, ↓Iv.iteB_T, ↓Iv.iteB_F, ↓Iv.bodyF_is, ↓Iv.end_i, ↓Iv.end_b, ↓Iv.end_iS, ↓Iv.end_iL, ↓Iv.end_own, ↓Iv.pw6, ↓Iv.pw9, ↓Iv.pw12, ↓Iv.pw18, ↓Iv.pw24, ↓Iv.pw30, ↓Iv.pw60, ↓Iv.pw600, ↓Iv.md600, ↓Iv.x_p0, ↓Iv.x_p1, ↓Iv.x_p2, ↓Iv.st_p0, ↓Iv.st_p2, ↓x_p0, ↓st_p0, ↓iteB_t (decide_eq_true hc), Bool.not_true, Bool.not_false, decide_true, decide_false, eq_self]
  · rw [if_neg hc]
    simp -implicitDefEqProofs (disch := omega) only [↓Iv.slotK_0, ↓Iv.slotK_s, ↓Iv.setK_0, ↓Iv.setK_s, ↓Iv.nthK_0, ↓Iv.nthK_s, ↓Iv.permK_0, ↓Iv.permK_s, ↓Iv.e_v, ↓Iv.e_c, ↓Iv.e_tup, ↓Iv.e_lstv, ↓Iv.e_alloc, ↓Iv.e_bin, ↓Iv.e_neg, ↓Iv.e_cmp, ↓Iv.e_chain, ↓Iv.e_and, ↓Iv.e_or, ↓Iv.e_not, ↓Iv.e_ite, ↓Iv.e_idx, ↓Iv.e_call, ↓Iv.e_bi, ↓Iv.es_nil, ↓Iv.es_cons, ↓Iv.f_disp, ↓Iv.new_3, ↓Iv.new_0, ↓Iv.sz_0, ↓Iv.sz_1, ↓Iv.sz_2, ↓Iv.sz_3, ↓Iv.sz_4, ↓Iv.sz_5, ↓Iv.sz_6, ↓Iv.sz_7, ↓Iv.sz_8, ↓Iv.sz_9, ↓Iv.sz_10, ↓Iv.sz_11, ↓Iv.sz_12, ↓Iv.sz_13, ↓Iv.sz_14, ↓Iv.t_nm, ↓Iv.t_tup, ↓Iv.t_sub, ↓Iv.ts_nil, ↓Iv.ts_cons, ↓Iv.ss_nil, ↓Iv.ss_cons, ↓Iv.seqK_rt, ↓Iv.seqK_nx, ↓Iv.s_asg, ↓Iv.s_aug, ↓Iv.s_expr, ↓Iv.s_ret, ↓Iv.s_retN, ↓Iv.s_pass, ↓Iv.s_ite, ↓Iv.s_for, ↓Iv.i_range1, ↓Iv.i_range2, ↓Iv.i_seq, ↓Iv.rgK_is, ↓Iv.rgK2_is, ↓Iv.itK_lst, ↓Iv.itK_tup, ↓Iv.o_add, ↓Iv.o_sub, ↓Iv.o_mul_l, ↓Iv.o_mul_r, ↓Iv.md600, ↓Iv.o_mod, ↓Iv.o_fdiv_s, ↓Iv.o_shl, ↓Iv.o_neg, ↓Iv.c_lt, ↓Iv.c_le, ↓Iv.c_gt, ↓Iv.c_ge, ↓Iv.c_eqI, ↓Iv.c_neI, ↓Iv.bl_K, ↓Iv.b_lenL, ↓Iv.b_lenT, ↓Iv.b_abs, ↓Iv.b_min2, ↓Iv.b_max2, ↓Iv.b_bits, ↓Iv.b_isaI_i, ↓Iv.b_isaI_b, ↓Iv.b_isaB_i, ↓Iv.b_isaB_b, ↓Iv.x_pick2, ↓Iv.x_pick3, ↓Iv.x_pick4, ↓Iv.x_pick5, ↓Iv.iteB_T, ↓Iv.iteB_F, ↓Iv.bodyF_is, ↓Iv.end_i, ↓Iv.end_b, ↓Iv.end_iS, ↓Iv.end_iL, ↓Iv.end_own, ↓Iv.pw6, ↓Iv.pw9, ↓Iv.pw12, ↓Iv.pw18, ↓Iv.pw24, ↓Iv.pw30, ↓Iv.pw60, ↓Iv.pw600, ↓Iv.md600, ↓Iv.x_p0, ↓Iv.x_p1, ↓Iv.x_p2, ↓Iv.st_p0, ↓Iv.st_p2, ↓x_p0, ↓st_p0, ↓iteB_f (decide_eq_false hc), ↓rng_draw hm, Bool.not_true, Bool.not_false, decide_true, decide_false, eq_self]
    obtain ⟨x', e⟩ := draw_loop (k := k) (m := m) (all := rangeL 0 (many m)) (y := none) (κ := seqK (run T (k + 1)) [S.ret (E.bin Bop.mod (E.v 2) (E.v 1))] (endK false h.length)) hn (rangeL 0 (many m)) p 0 none (by
      have := many_le hm
      exact ⟨hp.1, by have := hp.2; rw [rangeL_len]; omega⟩)
    refine Eq.trans e ?_
    simp -implicitDefEqProofs (disch := omega) only [↓Iv.slotK_0, ↓Iv.slotK_s, ↓Iv.setK_0, ↓Iv.setK_s, ↓Iv.nthK_0, ↓Iv.nthK_s, ↓Iv.permK_0, ↓Iv.permK_s, ↓Iv.e_v, ↓Iv.e_c, ↓Iv.e_tup, ↓Iv.e_lstv, ↓Iv.e_alloc, ↓Iv.e_bin, ↓Iv.e_neg, ↓Iv.e_cmp, ↓Iv.e_chain, ↓Iv.e_and, ↓Iv.e_or, ↓Iv.e_not, ↓Iv.e_ite, ↓Iv.e_idx, ↓Iv.e_call, ↓Iv.e_bi, ↓Iv.es_nil, ↓Iv.es_cons, ↓Iv.f_disp, ↓Iv.new_3, ↓Iv.new_0, ↓Iv.sz_0, ↓Iv.sz_1, ↓Iv.sz_2, ↓Iv.sz_3, ↓Iv.sz_4, ↓Iv.sz_5, ↓Iv.sz_6, ↓Iv.sz_7, ↓Iv.sz_8, ↓Iv.sz_9, ↓Iv.sz_10, ↓Iv.sz_11, ↓Iv.sz_12, ↓Iv.sz_13, ↓Iv.sz_14, ↓Iv.t_nm, ↓Iv.t_tup, ↓Iv.t_sub, ↓Iv.ts_nil, ↓Iv.ts_cons, ↓Iv.ss_nil, ↓Iv.ss_cons, ↓Iv.seqK_rt, ↓Iv.seqK_nx, ↓Iv.s_asg, ↓Iv.s_aug, ↓Iv.s_expr, ↓Iv.s_ret, ↓Iv.s_retN, ↓Iv.s_pass, ↓Iv.s_ite, ↓Iv.s_for, ↓Iv.i_range1, ↓Iv.i_range2, ↓Iv.i_seq, ↓Iv.rgK_is, ↓Iv.rgK2_is, ↓Iv.itK_lst, ↓Iv.itK_tup, ↓Iv.o_add, ↓Iv.o_sub, ↓Iv.o_mul_l, ↓Iv.o_mul_r, ↓Iv.md600, ↓Iv.o_mod, ↓Iv.o_fdiv_s, ↓Iv.o_shl, ↓Iv.o_neg, ↓Iv.c_lt, ↓Iv.c_le, ↓Iv.c_gt, ↓Iv.c_ge, ↓Iv.c_eqI, ↓Iv.c_neI, ↓Iv.bl_K, ↓Iv.b_lenL, ↓Iv.b_lenT, ↓Iv.b_abs, ↓Iv.b_min2, ↓Iv.b_max2, ↓Iv.b_bits, ↓Iv.b_isaI_i, ↓Iv.b_isaI_b, ↓Iv.b_isaB_i, ↓Iv.b_isaB_b, ↓Iv.x_pick2, ↓Iv.x_pick3, ↓Iv.x_pick4, ↓Iv.x_pick5, ↓Iv.iteB_T, ↓Iv.iteB_F, ↓Iv.bodyF_is, ↓Iv.end_i, ↓Iv.end_b, ↓Iv.end_iS, ↓Iv.end_iL, ↓Iv.end_own, ↓Iv.pw6, ↓Iv.pw9, ↓Iv.pw12, ↓Iv.pw18, ↓Iv.pw24, ↓Iv.pw30, ↓Iv.pw60, ↓Iv.pw600, ↓Iv.md600, ↓Iv.x_p0, ↓Iv.x_p1, ↓Iv.x_p2, ↓Iv.st_p0, ↓Iv.st_p2, Bool.not_true, Bool.not_false, decide_true, decide_false, eq_self]
    rw [rangeL_len]
theorem run_whole {k : Nat} {i : Int} {h : AH} : run T (k + 1) fL_whole [.int i] h = some (.bl true, h) := by
  rw [run_eq (fn := tL_whole.fn) rfl rfl]
  show bnd (semSs _ bL_whole [some (.int i)]) (endK false h.length) h = _
  unfold bL_whole
  simp -implicitDefEqProofs (disch := omega) only [↓Iv.slotK_0, ↓Iv.slotK_s, ↓Iv.setK_0, ↓Iv.setK_s, ↓Iv.nthK_0, ↓Iv.nthK_s, ↓Iv.permK_0, ↓Iv.permK_s, ↓Iv.e_v, ↓Iv.e_c, ↓Iv.e_tup, ↓Iv.e_lstv, ↓Iv.e_alloc, ↓Iv.e_bin, ↓Iv.e_neg, ↓Iv.e_cmp, ↓Iv.e_chain, ↓Iv.e_and, ↓Iv.e_or, ↓Iv.e_not, ↓Iv.e_ite, ↓Iv.e_idx, ↓Iv.e_call, ↓Iv.e_bi, ↓Iv.es_nil, ↓Iv.es_cons, ↓Iv.f_disp, ↓Iv.new_3, ↓Iv.new_0, ↓Iv.sz_0, ↓Iv.sz_1, ↓Iv.sz_2, ↓Iv.sz_3, ↓Iv.sz_4, ↓Iv.sz_5, ↓Iv.sz_6, ↓Iv.sz_7, ↓Iv.sz_8, ↓Iv.sz_9, ↓Iv.sz_10, ↓Iv.sz_11, ↓Iv.sz_12, ↓Iv.sz_13, ↓Iv.sz_14, ↓Iv.t_nm, ↓Iv.t_tup, ↓Iv.t_sub, ↓Iv.ts_nil, ↓Iv.ts_cons, ↓Iv.ss_nil, ↓Iv.ss_cons, ↓Iv.seqK_rt, ↓Iv.seqK_nx, ↓Iv.s_asg, ↓Iv.s_aug, ↓Iv.s_expr, ↓Iv.s_ret, ↓Iv.s_retN, ↓Iv.s_pass, ↓Iv.s_ite, ↓Iv.s_for, ↓Iv.i_range1, ↓Iv.i_range2, ↓Iv.i_seq, ↓Iv.rgK_is, ↓Iv.rgK2_is, ↓Iv.itK_lst, ↓Iv.itK_tup, ↓Iv.o_add, ↓Iv.o_sub, ↓Iv.o_mul_l, ↓Iv.o_mul_r, ↓Iv.md600, ↓Iv.o_mod, ↓Iv.o_fdiv_s, ↓Iv.o_shl, ↓Iv.o_neg, ↓Iv.c_lt, ↓Iv.c_le, ↓Iv.c_gt, ↓Iv.c_ge, ↓Iv.c_eqI, ↓Iv.c_neI, ↓Iv.bl_K, ↓Iv.b_lenL, ↓Iv.b_lenT, ↓Iv.b_abs, ↓Iv.b_min2, ↓Iv.b_max2, ↓Iv.b_bits, ↓Iv.b_isaI_i, ↓Iv.b_isaI_b, ↓Iv.b_isaB_i, ↓Iv.b_isaB_b, ↓Iv.x_pick2, ↓Iv.x_pick3, ↓Iv.x_pick4, ↓Iv.x_pick5, ↓Iv.iteB_T, ↓Iv.iteB_F, ↓Iv.bodyF_is, ↓Iv.end_i, ↓Iv.end_b, ↓Iv.end_iS, ↓Iv.end_iL, ↓Iv.end_own, ↓Iv.pw6, ↓Iv.pw9, ↓Iv.pw12, ↓Iv.pw18, ↓Iv.pw24, ↓Iv.pw30, ↓Iv.pw60, ↓Iv.pw600, ↓Iv.md600, ↓Iv.x_p0, ↓Iv.x_p1, ↓Iv.x_p2, ↓Iv.st_p0, ↓Iv.st_p2, Bool.not_true, Bool.not_false, decide_true, decide_false, eq_self]
/-! the law's own -/
def knot1 (s t : Int) : Int := (s + 48271 * t + 7) % 2147483647
def knot2 (x i : Int) : Int := (x * x + 69621 * i + 1) % 2147483629
def knot3 (x j : Int) : Int := (x * x + 16807 * j + 1) % 2147483587
def knotV (s t i j : Int) : Int := (knot3 (knot2 (knot1 s t) i) j * knot3 (knot2 (knot1 s t) i) j + knot3 (knot2 (knot1 s t) i) j) % 2147483579 % 65536
theorem knot_ge {s t i j : Int} : decide (0 ≤ knotV s t i j) = true := decide_eq_true (Int.emod_nonneg _ (by decide))
theorem knot_lt {s t i j : Int} : decide (knotV s t i j < 65536) = true := decide_eq_true (Int.emod_lt_of_pos _ (by decide))
theorem run_knot {k : Nat} {s t i j : Int} {h : AH} : run T (k + 1) f_knot [.int s, .int t, .int i, .int j] h = some (.int (knotV s t i j), h) := by
  rw [run_eq (fn := t_knot.fn) rfl rfl]
  show bnd (semSs _ b_knot [some (.int s), some (.int t), some (.int i), some (.int j), none, none, none]) (endK false h.length) h = _
  unfold b_knot
  simp -implicitDefEqProofs (disch := omega) only [↓Iv.slotK_0, ↓Iv.slotK_s, ↓Iv.setK_0, ↓Iv.setK_s, ↓Iv.nthK_0, ↓Iv.nthK_s, ↓Iv.permK_0, ↓Iv.permK_s, ↓Iv.e_v, ↓Iv.e_c, ↓Iv.e_tup, ↓Iv.e_lstv, ↓Iv.e_alloc, ↓Iv.e_bin, ↓Iv.e_neg, ↓Iv.e_cmp, ↓Iv.e_chain, ↓Iv.e_and, ↓Iv.e_or, ↓Iv.e_not, ↓Iv.e_ite, ↓Iv.e_idx, ↓Iv.e_call, ↓Iv.e_bi, ↓Iv.es_nil, ↓Iv.es_cons, ↓Iv.f_disp, ↓Iv.new_3, ↓Iv.new_0, ↓Iv.sz_0, ↓Iv.sz_1, ↓Iv.sz_2, ↓Iv.sz_3, ↓Iv.sz_4, ↓Iv.sz_5, ↓Iv.sz_6, ↓Iv.sz_7, ↓Iv.sz_8, ↓Iv.sz_9, ↓Iv.sz_10, ↓Iv.sz_11, ↓Iv.sz_12, ↓Iv.sz_13, ↓Iv.sz_14, ↓Iv.t_nm, ↓Iv.t_tup, ↓Iv.t_sub, ↓Iv.ts_nil, ↓Iv.ts_cons, ↓Iv.ss_nil, ↓Iv.ss_cons, ↓Iv.seqK_rt, ↓Iv.seqK_nx, ↓Iv.s_asg, ↓Iv.s_aug, ↓Iv.s_expr, ↓Iv.s_ret, ↓Iv.s_retN, ↓Iv.s_pass, ↓Iv.s_ite, ↓Iv.s_for, ↓Iv.i_range1, ↓Iv.i_range2, ↓Iv.i_seq, ↓Iv.rgK_is, ↓Iv.rgK2_is, ↓Iv.itK_lst, ↓Iv.itK_tup, ↓Iv.o_add, ↓Iv.o_sub, ↓Iv.o_mul_l, ↓Iv.o_mul_r, ↓Iv.md600, ↓Iv.o_mod, ↓Iv.o_fdiv_s, ↓Iv.o_shl, ↓Iv.o_neg, ↓Iv.c_lt, ↓Iv.c_le, ↓Iv.c_gt, ↓Iv.c_ge, ↓Iv.c_eqI, ↓Iv.c_neI, ↓Iv.bl_K, ↓Iv.b_lenL, ↓Iv.b_lenT, ↓Iv.b_abs, ↓Iv.b_min2, ↓Iv.b_max2, ↓Iv.b_bits, ↓Iv.b_isaI_i, ↓Iv.b_isaI_b, ↓Iv.b_isaB_i, ↓Iv.b_isaB_b, ↓Iv.x_pick2, ↓Iv.x_pick3, ↓Iv.x_pick4, ↓Iv.x_pick5, ↓Iv.iteB_T, ↓Iv.iteB_F, ↓Iv.bodyF_is, ↓Iv.end_i, ↓Iv.end_b, ↓Iv.end_iS, ↓Iv.end_iL, ↓Iv.end_own, ↓Iv.pw6, ↓Iv.pw9, ↓Iv.pw12, ↓Iv.pw18, ↓Iv.pw24, ↓Iv.pw30, ↓Iv.pw60, ↓Iv.pw600, ↓Iv.md600, ↓Iv.x_p0, ↓Iv.x_p1, ↓Iv.x_p2, ↓Iv.st_p0, ↓Iv.st_p2, Bool.not_true, Bool.not_false, decide_true, decide_false, eq_self]
  rfl
theorem run_lknot {k : Nat} {s t i j : Int} {h : AH} : run T (k + 1) fL_knot [.int s, .int t, .int i, .int j] h = some (.int (knotV s t i j), h) := by
  rw [run_eq (fn := tL_knot.fn) rfl rfl]
  show bnd (semSs _ bL_knot [some (.int s), some (.int t), some (.int i), some (.int j), none, none, none]) (endK false h.length) h = _
  unfold bL_knot
  simp -implicitDefEqProofs (disch := omega) only [↓Iv.slotK_0, ↓Iv.slotK_s, ↓Iv.setK_0, ↓Iv.setK_s, ↓Iv.nthK_0, ↓Iv.nthK_s, ↓Iv.permK_0, ↓Iv.permK_s, ↓Iv.e_v, ↓Iv.e_c, ↓Iv.e_tup, ↓Iv.e_lstv, ↓Iv.e_alloc, ↓Iv.e_bin, ↓Iv.e_neg, ↓Iv.e_cmp, ↓Iv.e_chain, ↓Iv.e_and, ↓Iv.e_or, ↓Iv.e_not, ↓Iv.e_ite, ↓Iv.e_idx, ↓Iv.e_call, ↓Iv.e_bi, ↓Iv.es_nil, ↓Iv.es_cons, ↓Iv.f_disp, ↓Iv.new_3, ↓Iv.new_0, ↓Iv.sz_0, ↓Iv.sz_1, ↓Iv.sz_2, ↓Iv.sz_3, ↓Iv.sz_4, ↓Iv.sz_5, ↓Iv.sz_6, ↓Iv.sz_7, ↓Iv.sz_8, ↓Iv.sz_9, ↓Iv.sz_10, ↓Iv.sz_11, ↓Iv.sz_12, ↓Iv.sz_13, ↓Iv.sz_14, ↓Iv.t_nm, ↓Iv.t_tup, ↓Iv.t_sub, ↓Iv.ts_nil, ↓Iv.ts_cons, ↓Iv.ss_nil, ↓Iv.ss_cons, ↓Iv.seqK_rt, ↓Iv.seqK_nx, ↓Iv.s_asg, ↓Iv.s_aug, ↓Iv.s_expr, ↓Iv.s_ret, ↓Iv.s_retN, ↓Iv.s_pass, ↓Iv.s_ite, ↓Iv.s_for, ↓Iv.i_range1, ↓Iv.i_range2, ↓Iv.i_seq, ↓Iv.rgK_is, ↓Iv.rgK2_is, ↓Iv.itK_lst, ↓Iv.itK_tup, ↓Iv.o_add, ↓Iv.o_sub, ↓Iv.o_mul_l, ↓Iv.o_mul_r, ↓Iv.md600, ↓Iv.o_mod, ↓Iv.o_fdiv_s, ↓Iv.o_shl, ↓Iv.o_neg, ↓Iv.c_lt, ↓Iv.c_le, ↓Iv.c_gt, ↓Iv.c_ge, ↓Iv.c_eqI, ↓Iv.c_neI, ↓Iv.bl_K, ↓Iv.b_lenL, ↓Iv.b_lenT, ↓Iv.b_abs, ↓Iv.b_min2, ↓Iv.b_max2, ↓Iv.b_bits, ↓Iv.b_isaI_i, ↓Iv.b_isaI_b, ↓Iv.b_isaB_i, ↓Iv.b_isaB_b, ↓Iv.x_pick2, ↓Iv.x_pick3, ↓Iv.x_pick4, ↓Iv.x_pick5, ↓Iv.iteB_T, ↓Iv.iteB_F, ↓Iv.bodyF_is, ↓Iv.end_i, ↓Iv.end_b, ↓Iv.end_iS, ↓Iv.end_iL, ↓Iv.end_own, ↓Iv.pw6, ↓Iv.pw9, ↓Iv.pw12, ↓Iv.pw18, ↓Iv.pw24, ↓Iv.pw30, ↓Iv.pw60, ↓Iv.pw600, ↓Iv.md600, ↓Iv.x_p0, ↓Iv.x_p1, ↓Iv.x_p2, ↓Iv.st_p0, ↓Iv.st_p2, Bool.not_true, Bool.not_false, decide_true, decide_false, eq_self]
  rfl
def grainV (p : P) : Int × P := (pick [0, 1, 1000000000, (drawP p 1000000000).1] (drawP (drawP p 1000000000).2 4).1, (drawP (drawP p 1000000000).2 4).2)
theorem run_grain {k : Nat} {n : Nat} {p : P} {h : AH} (hn : n < h.length) (hp : p.ok 2) :
    run T (k + 3) fL_grain [.ref n] (h.set n (purseO p)) = some (.int (grainV p).1, h.set n (purseO (grainV p).2)) := by
  rw [run_eq (fn := tL_grain.fn) rfl rfl]
  show bnd (semSs _ bL_grain [some (.ref n)]) (endK false (h.set n (purseO p)).length) (h.set n (purseO p)) = _
  unfold bL_grain
  rw [List.length_set]
  have e1 := run_draw (k := k) (h := h) hn (hp.weak (k := 1) (by decide)) (m := 1000000000) (by decide) (by decide)
  have e2 := run_draw (k := k) (h := h) hn (draw_ok hp (m := 1000000000) (by decide)) (m := 4) (by decide) (by decide)
  have b1 := draw_lo (drawP p 1000000000).2 (m := 4) (by decide)
  have b2 := draw_hi (drawP p 1000000000).2 (m := 4) (by decide)
  simp -implicitDefEqProofs (disch := omega) only [↓Iv.slotK_0, ↓Iv.slotK_s, ↓Iv.setK_0, ↓Iv.setK_s, ↓Iv.nthK_0, ↓Iv.nthK_s, ↓Iv.permK_0, ↓Iv.permK_s, ↓Iv.e_v, ↓Iv.e_c, ↓Iv.e_tup, ↓Iv.e_lstv, ↓Iv.e_alloc, ↓Iv.e_bin, ↓Iv.e_neg, ↓Iv.e_cmp, ↓Iv.e_chain, ↓Iv.e_and, ↓Iv.e_or, ↓Iv.e_not, ↓Iv.e_ite, ↓Iv.e_idx, ↓Iv.e_call, ↓Iv.e_bi, ↓Iv.es_nil, ↓Iv.es_cons, ↓Iv.f_disp, ↓Iv.new_3, ↓Iv.new_0, ↓Iv.sz_0, ↓Iv.sz_1, ↓Iv.sz_2, ↓Iv.sz_3, ↓Iv.sz_4, ↓Iv.sz_5, ↓Iv.sz_6, ↓Iv.sz_7, ↓Iv.sz_8, ↓Iv.sz_9, ↓Iv.sz_10, ↓Iv.sz_11, ↓Iv.sz_12, ↓Iv.sz_13, ↓Iv.sz_14, ↓Iv.t_nm, ↓Iv.t_tup, ↓Iv.t_sub, ↓Iv.ts_nil, ↓Iv.ts_cons, ↓Iv.ss_nil, ↓Iv.ss_cons, ↓Iv.seqK_rt, ↓Iv.seqK_nx, ↓Iv.s_asg, ↓Iv.s_aug, ↓Iv.s_expr, ↓Iv.s_ret, ↓Iv.s_retN, ↓Iv.s_pass, ↓Iv.s_ite, ↓Iv.s_for, ↓Iv.i_range1, ↓Iv.i_range2, ↓Iv.i_seq, ↓Iv.rgK_is, ↓Iv.rgK2_is, ↓Iv.itK_lst, ↓Iv.itK_tup, ↓Iv.o_add, ↓Iv.o_sub, ↓Iv.o_mul_l, ↓Iv.o_mul_r, ↓Iv.md600, ↓Iv.o_mod, ↓Iv.o_fdiv_s, ↓Iv.o_shl, ↓Iv.o_neg, ↓Iv.c_lt, ↓Iv.c_le, ↓Iv.c_gt, ↓Iv.c_ge, ↓Iv.c_eqI, ↓Iv.c_neI, ↓Iv.bl_K, ↓Iv.b_lenL, ↓Iv.b_lenT, ↓Iv.b_abs, ↓Iv.b_min2, ↓Iv.b_max2, ↓Iv.b_bits, ↓Iv.b_isaI_i, ↓Iv.b_isaI_b, ↓Iv.b_isaB_i, ↓Iv.b_isaB_b, ↓Iv.x_pick2, ↓Iv.x_pick3, ↓Iv.x_pick4, ↓Iv.x_pick5, ↓Iv.iteB_T, ↓Iv.iteB_F, ↓Iv.bodyF_is, ↓Iv.end_i, ↓Iv.end_b, ↓Iv.end_iS, ↓Iv.end_iL, ↓Iv.end_own, ↓Iv.pw6, ↓Iv.pw9, ↓Iv.pw12, ↓Iv.pw18, ↓Iv.pw24, ↓Iv.pw30, ↓Iv.pw60, ↓Iv.pw600, ↓Iv.md600, ↓Iv.x_p0, ↓Iv.x_p1, ↓Iv.x_p2, ↓Iv.st_p0, ↓Iv.st_p2, ↓bnd_of e1, ↓bnd_of e2, Bool.not_true, Bool.not_false, decide_true, decide_false, eq_self]
  rfl
theorem grain_ok {p : P} {k : Nat} (h : p.ok (k + 2)) : (grainV p).2.ok k := draw_ok (draw_ok h (m := 1000000000) (by decide)) (m := 4) (by decide)
def farM (p : P) : Int := pick [1, 10, 1000, 100000000] (drawP p 4).1
def farV (p : P) : Int × P := ((drawP (drawP p 4).2 (farM p)).1 * (1 - 2 * (drawP (drawP (drawP p 4).2 (farM p)).2 2).1), (drawP (drawP (drawP p 4).2 (farM p)).2 2).2)
theorem farM_b (p : P) : 0 < farM p ∧ (farM p).natAbs < 2 ^ 62 := by
  have : farM p ∈ [1, 10, 1000, 100000000] := pick_mem (draw_lo p (by decide)) (draw_hi p (by decide))
  simp only [List.mem_cons, List.not_mem_nil, or_false] at this
  omega
theorem run_far {k : Nat} {n : Nat} {p : P} {h : AH} (hn : n < h.length) (hp : p.ok 3) :
    run T (k + 3) fL_far [.ref n] (h.set n (purseO p)) = some (.int (farV p).1, h.set n (purseO (farV p).2)) := by
  rw [run_eq (fn := tL_far.fn) rfl rfl]
  show bnd (semSs _ bL_far [some (.ref n), none]) (endK false (h.set n (purseO p)).length) (h.set n (purseO p)) = _
  unfold bL_far
  rw [List.length_set]
  have hb := farM_b p
  have o1 := draw_ok hp (m := 4) (by decide)
  have o2 := draw_ok o1 hb.2
  have e1 := run_draw (k := k) (h := h) hn (hp.weak (k := 1) (by decide)) (m := 4) (by decide) (by decide)
  have e2 := run_draw (k := k) (h := h) hn (o1.weak (by decide)) hb.1 hb.2
  have e3 := run_draw (k := k) (h := h) hn o2 (m := 2) (by decide) (by decide)
  have b1 := draw_lo p (m := 4) (by decide)
  have b2 := draw_hi p (m := 4) (by decide)
  have b3 := draw_lo (drawP (drawP p 4).2 (farM p)).2 (m := 2) (by decide)
  have b4 := draw_hi (drawP (drawP p 4).2 (farM p)).2 (m := 2) (by decide)
  unfold farM at e2 e3 b3 b4
  simp -implicitDefEqProofs (disch := omega) only [↓Iv.slotK_0, ↓Iv.slotK_s, ↓Iv.setK_0, ↓Iv.setK_s, ↓Iv.nthK_0, ↓Iv.nthK_s, ↓Iv.permK_0, ↓Iv.permK_s, ↓Iv.e_v, ↓Iv.e_c, ↓Iv.e_tup, ↓Iv.e_lstv, ↓Iv.e_alloc, ↓Iv.e_bin, ↓Iv.e_neg, ↓Iv.e_cmp, ↓Iv.e_chain, ↓Iv.e_and, ↓Iv.e_or, ↓Iv.e_not, ↓Iv.e_ite, ↓Iv.e_idx, ↓Iv.e_call, ↓Iv.e_bi, ↓Iv.es_nil, ↓Iv.es_cons, ↓Iv.f_disp, ↓Iv.new_3, ↓Iv.new_0, ↓Iv.sz_0, ↓Iv.sz_1, ↓Iv.sz_2, ↓Iv.sz_3, ↓Iv.sz_4, ↓Iv.sz_5, ↓Iv.sz_6, ↓Iv.sz_7, ↓Iv.sz_8, ↓Iv.sz_9, ↓Iv.sz_10, ↓Iv.sz_11, ↓Iv.sz_12, ↓Iv.sz_13, ↓Iv.sz_14, ↓Iv.t_nm, ↓Iv.t_tup, ↓Iv.t_sub, ↓Iv.ts_nil, ↓Iv.ts_cons, ↓Iv.ss_nil, ↓Iv.ss_cons, ↓Iv.seqK_rt, ↓Iv.seqK_nx, ↓Iv.s_asg, ↓Iv.s_aug, ↓Iv.s_expr, ↓Iv.s_ret, ↓Iv.s_retN, ↓Iv.s_pass, ↓Iv.s_ite, ↓Iv.s_for, ↓Iv.i_range1, ↓Iv.i_range2, ↓Iv.i_seq, ↓Iv.rgK_is, ↓Iv.rgK2_is, ↓Iv.itK_lst, ↓Iv.itK_tup, ↓Iv.o_add, ↓Iv.o_sub, ↓Iv.o_mul_l, ↓Iv.o_mul_r, ↓Iv.md600, ↓Iv.o_mod, ↓Iv.o_fdiv_s, ↓Iv.o_shl, ↓Iv.o_neg, ↓Iv.c_lt, ↓Iv.c_le, ↓Iv.c_gt, ↓Iv.c_ge, ↓Iv.c_eqI, ↓Iv.c_neI, ↓Iv.bl_K, ↓Iv.b_lenL, ↓Iv.b_lenT, ↓Iv.b_abs, ↓Iv.b_min2, ↓Iv.b_max2, ↓Iv.b_bits, ↓Iv.b_isaI_i, ↓Iv.b_isaI_b, ↓Iv.b_isaB_i, ↓Iv.b_isaB_b, ↓Iv.x_pick2, ↓Iv.x_pick3, ↓Iv.x_pick4, ↓Iv.x_pick5, ↓Iv.iteB_T, ↓Iv.iteB_F, ↓Iv.bodyF_is, ↓Iv.end_i, ↓Iv.end_b, ↓Iv.end_iS, ↓Iv.end_iL, ↓Iv.end_own, ↓Iv.pw6, ↓Iv.pw9, ↓Iv.pw12, ↓Iv.pw18, ↓Iv.pw24, ↓Iv.pw30, ↓Iv.pw60, ↓Iv.pw600, ↓Iv.md600, ↓Iv.x_p0, ↓Iv.x_p1, ↓Iv.x_p2, ↓Iv.st_p0, ↓Iv.st_p2, ↓bnd_of e1, ↓bnd_of e2, ↓bnd_of e3, Bool.not_true, Bool.not_false, decide_true, decide_false, eq_self]
  rfl
theorem far_ok {p : P} {k : Nat} (h : p.ok (k + 3)) : (farV p).2.ok k := draw_ok (draw_ok (draw_ok h (m := 4) (by decide)) (farM_b p).2) (m := 2) (by decide)
theorem law_true (ns : List Int) (hlen : ns.length ≤ 63) : ∃ h', run T 9 9 [.lst (ns.map .int)] [] = some (.bl true, h') := by
  rw [run_eq (fn := t_law.fn) rfl rfl]
  show ∃ h', bnd (semSs _ b_law [some (.lst (ns.map .int)), none, none, none, none, none, none, none, none]) (endK false 0) [] = _
  unfold b_law
  simp -implicitDefEqProofs (disch := omega) only [↓Iv.slotK_0, ↓Iv.slotK_s, ↓Iv.setK_0, ↓Iv.setK_s, ↓Iv.nthK_0, ↓Iv.nthK_s, ↓Iv.permK_0, ↓Iv.permK_s, ↓Iv.e_v, ↓Iv.e_c, ↓Iv.e_tup, ↓Iv.e_lstv, ↓Iv.e_alloc, ↓Iv.e_bin, ↓Iv.e_neg, ↓Iv.e_cmp, ↓Iv.e_chain, ↓Iv.e_and, ↓Iv.e_or, ↓Iv.e_not, ↓Iv.e_ite, ↓Iv.e_idx, ↓Iv.e_call, ↓Iv.e_bi, ↓Iv.es_nil, ↓Iv.es_cons, ↓Iv.f_disp, ↓Iv.new_3, ↓Iv.new_0, ↓Iv.sz_0, ↓Iv.sz_1, ↓Iv.sz_2, ↓Iv.sz_3, ↓Iv.sz_4, ↓Iv.sz_5, ↓Iv.sz_6, ↓Iv.sz_7, ↓Iv.sz_8, ↓Iv.sz_9, ↓Iv.sz_10, ↓Iv.sz_11, ↓Iv.sz_12, ↓Iv.sz_13, ↓Iv.sz_14, ↓Iv.t_nm, ↓Iv.t_tup, ↓Iv.t_sub, ↓Iv.ts_nil, ↓Iv.ts_cons, ↓Iv.ss_nil, ↓Iv.ss_cons, ↓Iv.seqK_rt, ↓Iv.seqK_nx, ↓Iv.s_asg, ↓Iv.s_aug, ↓Iv.s_expr, ↓Iv.s_ret, ↓Iv.s_retN, ↓Iv.s_pass, ↓Iv.s_ite, ↓Iv.s_for, ↓Iv.i_range1, ↓Iv.i_range2, ↓Iv.i_seq, ↓Iv.rgK_is, ↓Iv.rgK2_is, ↓Iv.itK_lst, ↓Iv.itK_tup, ↓Iv.o_add, ↓Iv.o_sub, ↓Iv.o_mul_l, ↓Iv.o_mul_r, ↓Iv.md600, ↓Iv.o_mod, ↓Iv.o_fdiv_s, ↓Iv.o_shl, ↓Iv.o_neg, ↓Iv.c_lt, ↓Iv.c_le, ↓Iv.c_gt, ↓Iv.c_ge, ↓Iv.c_eqI, ↓Iv.c_neI, ↓Iv.bl_K, ↓Iv.b_lenL, ↓Iv.b_lenT, ↓Iv.b_abs, ↓Iv.b_min2, ↓Iv.b_max2, ↓Iv.b_bits, ↓Iv.b_isaI_i, ↓Iv.b_isaI_b, ↓Iv.b_isaB_i, ↓Iv.b_isaB_b, ↓Iv.x_pick2, ↓Iv.x_pick3, ↓Iv.x_pick4, ↓Iv.x_pick5, ↓Iv.iteB_T, ↓Iv.iteB_F, ↓Iv.bodyF_is, ↓Iv.end_i, ↓Iv.end_b, ↓Iv.end_iS, ↓Iv.end_iL, ↓Iv.end_own, ↓Iv.pw6, ↓Iv.pw9, ↓Iv.pw12, ↓Iv.pw18, ↓Iv.pw24, ↓Iv.pw30, ↓Iv.pw60, ↓Iv.pw600, ↓Iv.md600, ↓Iv.x_p0, ↓Iv.x_p1, ↓Iv.x_p2, ↓Iv.st_p0, ↓Iv.st_p2, Bool.not_true, Bool.not_false, decide_true, decide_false, eq_self]
  refine for_law (fun ds s h => (∀ d ∈ ds, ∃ n : Nat, n < 12 ∧ d = .int n) ∧ ∃ x1 x2 x3 x4 x5 x6 x7 x8, s = [some (.lst (ns.map .int)), x1, x2, x3, x4, x5, x6, x7, x8])
    ⟨fun d hd => rangeL_nat hd, _, _, _, _, _, _, _, _, rfl⟩ ?_ ?_
  · rintro d ds s h ⟨hd, x1, x2, x3, x4, x5, x6, x7, x8, rfl⟩
    obtain ⟨i, hi, rfl⟩ := hd _ (List.mem_cons_self ..)
    obtain ⟨n, h1, hn, e0⟩ := run_purse (k := 6) ns i h
    have o0 : (purse0 ns i).ok 100 := purse0_ok (by omega) (by decide)
    have o1 := grain_ok (k := 98) o0
    have o2 := grain_ok (k := 96) o1
    have e1 := run_grain (k := 5) hn (o0.weak (by decide))
    have e2 := run_grain (k := 5) hn (o1.weak (by decide))
    simp -implicitDefEqProofs (disch := omega) only [↓Iv.slotK_0, ↓Iv.slotK_s, ↓Iv.setK_0, ↓Iv.setK_s, ↓Iv.nthK_0, ↓Iv.nthK_s, ↓Iv.permK_0, ↓Iv.permK_s, ↓Iv.e_v, ↓Iv.e_c, ↓Iv.e_tup, ↓Iv.e_lstv, ↓Iv.e_alloc, ↓Iv.e_bin, ↓Iv.e_neg, ↓Iv.e_cmp, ↓Iv.e_chain, ↓Iv.e_and, ↓Iv.e_or, ↓Iv.e_not, ↓Iv.e_ite, ↓Iv.e_idx, ↓Iv.e_call, ↓Iv.e_bi, ↓Iv.es_nil, ↓Iv.es_cons, ↓Iv.f_disp, ↓Iv.new_3, ↓Iv.new_0, ↓Iv.sz_0, ↓Iv.sz_1, ↓Iv.sz_2, ↓Iv.sz_3, ↓Iv.sz_4, ↓Iv.sz_5, ↓Iv.sz_6, ↓Iv.sz_7, ↓Iv.sz_8, ↓Iv.sz_9, ↓Iv.sz_10, ↓Iv.sz_11, ↓Iv.sz_12, ↓Iv.sz_13, ↓Iv.sz_14, ↓Iv.t_nm, ↓Iv.t_tup, ↓Iv.t_sub, ↓Iv.ts_nil, ↓Iv.ts_cons, ↓Iv.ss_nil, ↓Iv.ss_cons, ↓Iv.seqK_rt, ↓Iv.seqK_nx, ↓Iv.s_asg, ↓Iv.s_aug, ↓Iv.s_expr, ↓Iv.s_ret, ↓Iv.s_retN, ↓Iv.s_pass, ↓Iv.s_ite, ↓Iv.s_for, ↓Iv.i_range1, ↓Iv.i_range2, ↓Iv.i_seq, ↓Iv.rgK_is, ↓Iv.rgK2_is, ↓Iv.itK_lst, ↓Iv.itK_tup, ↓Iv.o_add, ↓Iv.o_sub, ↓Iv.o_mul_l, ↓Iv.o_mul_r, ↓Iv.md600, ↓Iv.o_mod, ↓Iv.o_fdiv_s, ↓Iv.o_shl, ↓Iv.o_neg, ↓Iv.c_lt, ↓Iv.c_le, ↓Iv.c_gt, ↓Iv.c_ge, ↓Iv.c_eqI, ↓Iv.c_neI, ↓Iv.bl_K, ↓Iv.b_lenL, ↓Iv.b_lenT, ↓Iv.b_abs, ↓Iv.b_min2, ↓Iv.b_max2, ↓Iv.b_bits, ↓Iv.b_isaI_i, ↓Iv.b_isaI_b, ↓Iv.b_isaB_i, ↓Iv.b_isaB_b, ↓Iv.x_pick2, ↓Iv.x_pick3, ↓Iv.x_pick4, ↓Iv.x_pick5, ↓Iv.iteB_T, ↓Iv.iteB_F, ↓Iv.bodyF_is, ↓Iv.end_i, ↓Iv.end_b, ↓Iv.end_iS, ↓Iv.end_iL, ↓Iv.end_own, ↓Iv.pw6, ↓Iv.pw9, ↓Iv.pw12, ↓Iv.pw18, ↓Iv.pw24, ↓Iv.pw30, ↓Iv.pw60, ↓Iv.pw600, ↓Iv.md600, ↓Iv.x_p0, ↓Iv.x_p1, ↓Iv.x_p2, ↓Iv.st_p0, ↓Iv.st_p2, ↓bnd_of e0, ↓bnd_of e1, ↓bnd_of e2, Bool.not_true, Bool.not_false, decide_true, decide_false, eq_self]
    refine for_step (fun ds s h => ∃ p, p.ok (24 * ds.length) ∧ h = h1.set n (purseO p) ∧ ∃ y1 x5 x6 x7 x8, s = [some (.lst (ns.map .int)), y1, some (.ref n), some (.int (grainV (purse0 ns i)).1), some (.int (grainV (grainV (purse0 ns i)).2).1), x5, x6, x7, x8])
      ?_ ?_ ?_
    · exact ⟨_, o2.weak (by decide), rfl, _, _, _, _, _, rfl⟩
    · rintro d ds s h ⟨p, hp, rfl, y1, x5, x6, x7, x8, rfl⟩
      have e1 := run_far (k := 5) hn (hp.weak (by simp only [List.length_cons]; omega))
      have o1 := far_ok (k := 24 * ds.length + 21) hp
      have e2 := run_far (k := 5) hn (o1.weak (by omega))
      have o2 := far_ok (k := 24 * ds.length + 18) o1
      simp -implicitDefEqProofs (disch := omega) only [↓Iv.slotK_0, ↓Iv.slotK_s, ↓Iv.setK_0, ↓Iv.setK_s, ↓Iv.nthK_0, ↓Iv.nthK_s, ↓Iv.permK_0, ↓Iv.permK_s, ↓Iv.e_v, ↓Iv.e_c, ↓Iv.e_tup, ↓Iv.e_lstv, ↓Iv.e_alloc, ↓Iv.e_bin, ↓Iv.e_neg, ↓Iv.e_cmp, ↓Iv.e_chain, ↓Iv.e_and, ↓Iv.e_or, ↓Iv.e_not, ↓Iv.e_ite, ↓Iv.e_idx, ↓Iv.e_call, ↓Iv.e_bi, ↓Iv.es_nil, ↓Iv.es_cons, ↓Iv.f_disp, ↓Iv.new_3, ↓Iv.new_0, ↓Iv.sz_0, ↓Iv.sz_1, ↓Iv.sz_2, ↓Iv.sz_3, ↓Iv.sz_4, ↓Iv.sz_5, ↓Iv.sz_6, ↓Iv.sz_7, ↓Iv.sz_8, ↓Iv.sz_9, ↓Iv.sz_10, ↓Iv.sz_11, ↓Iv.sz_12, ↓Iv.sz_13, ↓Iv.sz_14, ↓Iv.t_nm, ↓Iv.t_tup, ↓Iv.t_sub, ↓Iv.ts_nil, ↓Iv.ts_cons, ↓Iv.ss_nil, ↓Iv.ss_cons, ↓Iv.seqK_rt, ↓Iv.seqK_nx, ↓Iv.s_asg, ↓Iv.s_aug, ↓Iv.s_expr, ↓Iv.s_ret, ↓Iv.s_retN, ↓Iv.s_pass, ↓Iv.s_ite, ↓Iv.s_for, ↓Iv.i_range1, ↓Iv.i_range2, ↓Iv.i_seq, ↓Iv.rgK_is, ↓Iv.rgK2_is, ↓Iv.itK_lst, ↓Iv.itK_tup, ↓Iv.o_add, ↓Iv.o_sub, ↓Iv.o_mul_l, ↓Iv.o_mul_r, ↓Iv.md600, ↓Iv.o_mod, ↓Iv.o_fdiv_s, ↓Iv.o_shl, ↓Iv.o_neg, ↓Iv.c_lt, ↓Iv.c_le, ↓Iv.c_gt, ↓Iv.c_ge, ↓Iv.c_eqI, ↓Iv.c_neI, ↓Iv.bl_K, ↓Iv.b_lenL, ↓Iv.b_lenT, ↓Iv.b_abs, ↓Iv.b_min2, ↓Iv.b_max2, ↓Iv.b_bits, ↓Iv.b_isaI_i, ↓Iv.b_isaI_b, ↓Iv.b_isaB_i, ↓Iv.b_isaB_b, ↓Iv.x_pick2, ↓Iv.x_pick3, ↓Iv.x_pick4, ↓Iv.x_pick5, ↓Iv.iteB_T, ↓Iv.iteB_F, ↓Iv.bodyF_is, ↓Iv.end_i, ↓Iv.end_b, ↓Iv.end_iS, ↓Iv.end_iL, ↓Iv.end_own, ↓Iv.pw6, ↓Iv.pw9, ↓Iv.pw12, ↓Iv.pw18, ↓Iv.pw24, ↓Iv.pw30, ↓Iv.pw60, ↓Iv.pw600, ↓Iv.md600, ↓Iv.x_p0, ↓Iv.x_p1, ↓Iv.x_p2, ↓Iv.st_p0, ↓Iv.st_p2, ↓bnd_of e1, ↓bnd_of e2, ↓bnd_of run_knot, ↓bnd_of run_lknot, ↓bnd_of run_whole, knot_ge, knot_lt, Bool.not_true, Bool.not_false, decide_true, decide_false, eq_self]
      exact ⟨_, _, rfl, _, o2.weak (by omega), rfl, _, _, _, _, _, rfl⟩
    · rintro s h ⟨p, hp, rfl, y1, x5, x6, x7, x8, rfl⟩
      simp -implicitDefEqProofs (disch := omega) only [↓Iv.slotK_0, ↓Iv.slotK_s, ↓Iv.setK_0, ↓Iv.setK_s, ↓Iv.nthK_0, ↓Iv.nthK_s, ↓Iv.permK_0, ↓Iv.permK_s, ↓Iv.e_v, ↓Iv.e_c, ↓Iv.e_tup, ↓Iv.e_lstv, ↓Iv.e_alloc, ↓Iv.e_bin, ↓Iv.e_neg, ↓Iv.e_cmp, ↓Iv.e_chain, ↓Iv.e_and, ↓Iv.e_or, ↓Iv.e_not, ↓Iv.e_ite, ↓Iv.e_idx, ↓Iv.e_call, ↓Iv.e_bi, ↓Iv.es_nil, ↓Iv.es_cons, ↓Iv.f_disp, ↓Iv.new_3, ↓Iv.new_0, ↓Iv.sz_0, ↓Iv.sz_1, ↓Iv.sz_2, ↓Iv.sz_3, ↓Iv.sz_4, ↓Iv.sz_5, ↓Iv.sz_6, ↓Iv.sz_7, ↓Iv.sz_8, ↓Iv.sz_9, ↓Iv.sz_10, ↓Iv.sz_11, ↓Iv.sz_12, ↓Iv.sz_13, ↓Iv.sz_14, ↓Iv.t_nm, ↓Iv.t_tup, ↓Iv.t_sub, ↓Iv.ts_nil, ↓Iv.ts_cons, ↓Iv.ss_nil, ↓Iv.ss_cons, ↓Iv.seqK_rt, ↓Iv.seqK_nx, ↓Iv.s_asg, ↓Iv.s_aug, ↓Iv.s_expr, ↓Iv.s_ret, ↓Iv.s_retN, ↓Iv.s_pass, ↓Iv.s_ite, ↓Iv.s_for, ↓Iv.i_range1, ↓Iv.i_range2, ↓Iv.i_seq, ↓Iv.rgK_is, ↓Iv.rgK2_is, ↓Iv.itK_lst, ↓Iv.itK_tup, ↓Iv.o_add, ↓Iv.o_sub, ↓Iv.o_mul_l, ↓Iv.o_mul_r, ↓Iv.md600, ↓Iv.o_mod, ↓Iv.o_fdiv_s, ↓Iv.o_shl, ↓Iv.o_neg, ↓Iv.c_lt, ↓Iv.c_le, ↓Iv.c_gt, ↓Iv.c_ge, ↓Iv.c_eqI, ↓Iv.c_neI, ↓Iv.bl_K, ↓Iv.b_lenL, ↓Iv.b_lenT, ↓Iv.b_abs, ↓Iv.b_min2, ↓Iv.b_max2, ↓Iv.b_bits, ↓Iv.b_isaI_i, ↓Iv.b_isaI_b, ↓Iv.b_isaB_i, ↓Iv.b_isaB_b, ↓Iv.x_pick2, ↓Iv.x_pick3, ↓Iv.x_pick4, ↓Iv.x_pick5, ↓Iv.iteB_T, ↓Iv.iteB_F, ↓Iv.bodyF_is, ↓Iv.end_i, ↓Iv.end_b, ↓Iv.end_iS, ↓Iv.end_iL, ↓Iv.end_own, ↓Iv.pw6, ↓Iv.pw9, ↓Iv.pw12, ↓Iv.pw18, ↓Iv.pw24, ↓Iv.pw30, ↓Iv.pw60, ↓Iv.pw600, ↓Iv.md600, ↓Iv.x_p0, ↓Iv.x_p1, ↓Iv.x_p2, ↓Iv.st_p0, ↓Iv.st_p2, Bool.not_true, Bool.not_false, decide_true, decide_false, eq_self]
      exact ⟨_, _, rfl, fun d hd' => hd d (List.mem_cons_of_mem _ hd'), _, _, _, _, _, _, _, _, rfl⟩
  · rintro s h ⟨_, x1, x2, x3, x4, x5, x6, x7, x8, rfl⟩
    simp -implicitDefEqProofs (disch := omega) only [↓Iv.slotK_0, ↓Iv.slotK_s, ↓Iv.setK_0, ↓Iv.setK_s, ↓Iv.nthK_0, ↓Iv.nthK_s, ↓Iv.permK_0, ↓Iv.permK_s, ↓Iv.e_v, ↓Iv.e_c, ↓Iv.e_tup, ↓Iv.e_lstv, ↓Iv.e_alloc, ↓Iv.e_bin, ↓Iv.e_neg, ↓Iv.e_cmp, ↓Iv.e_chain, ↓Iv.e_and, ↓Iv.e_or, ↓Iv.e_not, ↓Iv.e_ite, ↓Iv.e_idx, ↓Iv.e_call, ↓Iv.e_bi, ↓Iv.es_nil, ↓Iv.es_cons, ↓Iv.f_disp, ↓Iv.new_3, ↓Iv.new_0, ↓Iv.sz_0, ↓Iv.sz_1, ↓Iv.sz_2, ↓Iv.sz_3, ↓Iv.sz_4, ↓Iv.sz_5, ↓Iv.sz_6, ↓Iv.sz_7, ↓Iv.sz_8, ↓Iv.sz_9, ↓Iv.sz_10, ↓Iv.sz_11, ↓Iv.sz_12, ↓Iv.sz_13, ↓Iv.sz_14, ↓Iv.t_nm, ↓Iv.t_tup, ↓Iv.t_sub, ↓Iv.ts_nil, ↓Iv.ts_cons, ↓Iv.ss_nil, ↓Iv.ss_cons, ↓Iv.seqK_rt, ↓Iv.seqK_nx, ↓Iv.s_asg, ↓Iv.s_aug, ↓Iv.s_expr, ↓Iv.s_ret, ↓Iv.s_retN, ↓Iv.s_pass, ↓Iv.s_ite, ↓Iv.s_for, ↓Iv.i_range1, ↓Iv.i_range2, ↓Iv.i_seq, ↓Iv.rgK_is, ↓Iv.rgK2_is, ↓Iv.itK_lst, ↓Iv.itK_tup, ↓Iv.o_add, ↓Iv.o_sub, ↓Iv.o_mul_l, ↓Iv.o_mul_r, ↓Iv.md600, ↓Iv.o_mod, ↓Iv.o_fdiv_s, ↓Iv.o_shl, ↓Iv.o_neg, ↓Iv.c_lt, ↓Iv.c_le, ↓Iv.c_gt, ↓Iv.c_ge, ↓Iv.c_eqI, ↓Iv.c_neI, ↓Iv.bl_K, ↓Iv.b_lenL, ↓Iv.b_lenT, ↓Iv.b_abs, ↓Iv.b_min2, ↓Iv.b_max2, ↓Iv.b_bits, ↓Iv.b_isaI_i, ↓Iv.b_isaI_b, ↓Iv.b_isaB_i, ↓Iv.b_isaB_b, ↓Iv.x_pick2, ↓Iv.x_pick3, ↓Iv.x_pick4, ↓Iv.x_pick5, ↓Iv.iteB_T, ↓Iv.iteB_F, ↓Iv.bodyF_is, ↓Iv.end_i, ↓Iv.end_b, ↓Iv.end_iS, ↓Iv.end_iL, ↓Iv.end_own, ↓Iv.pw6, ↓Iv.pw9, ↓Iv.pw12, ↓Iv.pw18, ↓Iv.pw24, ↓Iv.pw30, ↓Iv.pw60, ↓Iv.pw600, ↓Iv.md600, ↓Iv.x_p0, ↓Iv.x_p1, ↓Iv.x_p2, ↓Iv.st_p0, ↓Iv.st_p2, ↓bnd_of run_knot, ↓bnd_of run_lknot, ↓end_b0, knot_lt, Bool.not_true, Bool.not_false, decide_true, decide_false, eq_self]
    exact ⟨_, rfl⟩
end Law

namespace Law
open PySem L2 Iv
open PySem.W in
theorem all_mk {l : PySem.W.OpenLaw} {w : World} {K : PySem.W.Frag} {h : Heap} {mg : Str → Option Value} {fa : Addr} {f0 f1 f2 f3 f4 f5 f6 f7 f8 f9 : Addr} (X : K.In h) (G : h.Ns mainGlobals mg) (hfa : mg "law" = some (.ref fa))
    {od0 an0 od1 an1 od2 an2 od3 an3 od4 an4 od5 an5 od6 an6 od7 an7 od8 an8 od9 an9 : Option Addr} {sl0 sl1 sl2 sl3 sl4 sl5 sl6 sl7 sl8 sl9 : Array (Option Value)} {oc0 kV0 dc0 pm0 cd0 ct0 oc1 kV1 dc1 pm1 cd1 ct1 oc2 kV2 dc2 pm2 cd2 ct2 oc3 kV3 dc3 pm3 cd3 ct3 oc4 kV4 dc4 pm4 cd4 ct4 oc5 kV5 dc5 pm5 cd5 ct5 oc6 kV6 dc6 pm6 cd6 ct6 oc7 kV7 dc7 pm7 cd7 ct7 oc8 kV8 dc8 pm8 cd8 ct8 oc9 kV9 dc9 pm9 cd9 ct9 : Value}
    {gt0 gt1 gt2 gt3 gt4 : Tok}
    (a0 : PySem.W.nsIn K mainGlobals "knot" = some (some (.ref f0))) (l0 : K.lookup f0 = some ⟨oc0, od0, .func (PySem.W.fnOf "knot" "knot" (defArgs (topS 6)) (defBody (topS 6)) (defScope (topS 6)) .none kV0 dc0 pm0 an0 cd0 ct0), sl0⟩) (c0 : PySem.W.codeIn K cd0 "knot" = true) (k0 : PySem.W.keepIn K (.ref f0) = true)
    (a1 : PySem.W.nsIn K mainGlobals "_law_at" = some (some (.ref f1))) (l1 : K.lookup f1 = some ⟨oc1, od1, .func (PySem.W.fnOf "_law_at" "_law_at" (defArgs (topS 8)) (defBody (topS 8)) (defScope (topS 8)) .none kV1 dc1 pm1 an1 cd1 ct1), sl1⟩) (c1 : PySem.W.codeIn K cd1 "_law_at" = true) (k1 : PySem.W.keepIn K (.ref f1) = true)
    (a2 : PySem.W.nsIn K mainGlobals "_law_mixed" = some (some (.ref f2))) (l2 : K.lookup f2 = some ⟨oc2, od2, .func (PySem.W.fnOf "_law_mixed" "_law_mixed" (defArgs (topS 9)) (defBody (topS 9)) (defScope (topS 9)) .none kV2 dc2 pm2 an2 cd2 ct2), sl2⟩) (c2 : PySem.W.codeIn K cd2 "_law_mixed" = true) (k2 : PySem.W.keepIn K (.ref f2) = true)
    (a3 : PySem.W.nsIn K mainGlobals "_law_purse" = some (some (.ref f3))) (l3 : K.lookup f3 = some ⟨oc3, od3, .func (PySem.W.fnOf "_law_purse" "_law_purse" (defArgs (topS 10)) (defBody (topS 10)) (defScope (topS 10)) .none kV3 dc3 pm3 an3 cd3 ct3), sl3⟩) (c3 : PySem.W.codeIn K cd3 "_law_purse" = true) (k3 : PySem.W.keepIn K (.ref f3) = true)
    (a4 : PySem.W.nsIn K mainGlobals "_law_draw" = some (some (.ref f4))) (l4 : K.lookup f4 = some ⟨oc4, od4, .func (PySem.W.fnOf "_law_draw" "_law_draw" (defArgs (topS 11)) (defBody (topS 11)) (defScope (topS 11)) .none kV4 dc4 pm4 an4 cd4 ct4), sl4⟩) (c4 : PySem.W.codeIn K cd4 "_law_draw" = true) (k4 : PySem.W.keepIn K (.ref f4) = true)
    (a5 : PySem.W.nsIn K mainGlobals "_law_whole" = some (some (.ref f5))) (l5 : K.lookup f5 = some ⟨oc5, od5, .func (PySem.W.fnOf "_law_whole" "_law_whole" (defArgs (topS 12)) (defBody (topS 12)) (defScope (topS 12)) .none kV5 dc5 pm5 an5 cd5 ct5), sl5⟩) (c5 : PySem.W.codeIn K cd5 "_law_whole" = true) (k5 : PySem.W.keepIn K (.ref f5) = true)
    (a6 : PySem.W.nsIn K mainGlobals "_law_knot" = some (some (.ref f6))) (l6 : K.lookup f6 = some ⟨oc6, od6, .func (PySem.W.fnOf "_law_knot" "_law_knot" (defArgs (topS 13)) (defBody (topS 13)) (defScope (topS 13)) .none kV6 dc6 pm6 an6 cd6 ct6), sl6⟩) (c6 : PySem.W.codeIn K cd6 "_law_knot" = true) (k6 : PySem.W.keepIn K (.ref f6) = true)
    (a7 : PySem.W.nsIn K mainGlobals "_law_grain" = some (some (.ref f7))) (l7 : K.lookup f7 = some ⟨oc7, od7, .func (PySem.W.fnOf "_law_grain" "_law_grain" (defArgs (topS 14)) (defBody (topS 14)) (defScope (topS 14)) .none kV7 dc7 pm7 an7 cd7 ct7), sl7⟩) (c7 : PySem.W.codeIn K cd7 "_law_grain" = true) (k7 : PySem.W.keepIn K (.ref f7) = true)
    (a8 : PySem.W.nsIn K mainGlobals "_law_far" = some (some (.ref f8))) (l8 : K.lookup f8 = some ⟨oc8, od8, .func (PySem.W.fnOf "_law_far" "_law_far" (defArgs (topS 15)) (defBody (topS 15)) (defScope (topS 15)) .none kV8 dc8 pm8 an8 cd8 ct8), sl8⟩) (c8 : PySem.W.codeIn K cd8 "_law_far" = true) (k8 : PySem.W.keepIn K (.ref f8) = true)
    (a9 : PySem.W.nsIn K mainGlobals "law" = some (some (.ref f9))) (l9 : K.lookup f9 = some ⟨oc9, od9, .func (PySem.W.fnOf "law" "law" (defArgs (topS 16)) (defBody (topS 16)) (defScope (topS 16)) .none kV9 dc9 pm9 an9 cd9 ct9), sl9⟩) (c9 : PySem.W.codeIn K cd9 "law" = true) (k9 : PySem.W.keepIn K (.ref f9) = true)
    (g0 : PySem.W.nsIn K mainGlobals "FIRST" = some (some (.int 2147483647 gt0)))
    (g1 : PySem.W.nsIn K mainGlobals "SECOND" = some (some (.int 2147483629 gt1)))
    (g2 : PySem.W.nsIn K mainGlobals "THIRD" = some (some (.int 2147483587 gt2)))
    (g3 : PySem.W.nsIn K mainGlobals "LAST" = some (some (.int 2147483579 gt3)))
    (g4 : PySem.W.nsIn K mainGlobals "MOST" = some (some (.int 65536 gt4)))
    (z0 : PySem.W.nsIn K mainGlobals "len" = some none)
    (z1 : PySem.W.nsIn K mainGlobals "max" = some none)
    (z2 : PySem.W.nsIn K mainGlobals "range" = some none)
    (z3 : PySem.W.nsIn K mainGlobals "isinstance" = some none)
    (z4 : PySem.W.nsIn K mainGlobals "int" = some none)
    (z5 : PySem.W.nsIn K mainGlobals "bool" = some none)
    : ∃ fd : FuncData, (∀ (s : Shared) (v : Value), BindsTo s fd ⟨[v], []⟩ [("_law_script", v)]) ∧ ∀ base : Heap, K.In base → base.Ns mainGlobals mg → FnOk l.prog w K mg base CX0 9 fa fd ["_law_script"] (Iv.spOf K T 9 9) := by
  have e := hfa.symm.trans (PySem.W.mg_of X G a9)
  cases e
  have F0 := Iv.funG_mk (st := topS 6) l0 c0 k0
  have F1 := Iv.funG_mk (st := topS 8) l1 c1 k1
  have F2 := Iv.funG_mk (st := topS 9) l2 c2 k2
  have F3 := Iv.funG_mk (st := topS 10) l3 c3 k3
  have F4 := Iv.funG_mk (st := topS 11) l4 c4 k4
  have F5 := Iv.funG_mk (st := topS 12) l5 c5 k5
  have F6 := Iv.funG_mk (st := topS 13) l6 c6 k6
  have F7 := Iv.funG_mk (st := topS 14) l7 c7 k7
  have F8 := Iv.funG_mk (st := topS 15) l8 c8 k8
  have F9 := Iv.funG_mk (st := topS 16) l9 c9 k9
  have m0 := PySem.W.mg_of X G a0
  have m1 := PySem.W.mg_of X G a1
  have m2 := PySem.W.mg_of X G a2
  have m3 := PySem.W.mg_of X G a3
  have m4 := PySem.W.mg_of X G a4
  have m5 := PySem.W.mg_of X G a5
  have m6 := PySem.W.mg_of X G a6
  have m7 := PySem.W.mg_of X G a7
  have m8 := PySem.W.mg_of X G a8
  have m9 := PySem.W.mg_of X G a9
  have H : Iv.Hd K mg tx tbl := by
    refine ⟨?_, ?_, rfl, ?_, ?_, ck_all⟩
    · exact (all_cons ⟨_, _, m0, F0⟩ (all_cons ⟨_, _, m1, F1⟩ (all_cons ⟨_, _, m2, F2⟩ (all_cons ⟨_, _, m3, F3⟩ (all_cons ⟨_, _, m4, F4⟩ (all_cons ⟨_, _, m5, F5⟩ (all_cons ⟨_, _, m6, F6⟩ (all_cons ⟨_, _, m7, F7⟩ (all_cons ⟨_, _, m8, F8⟩ (all_cons ⟨_, _, m9, F9⟩ all_nil))))))))))
    · exact (all_cons ⟨tL_at, _, _, rfl, m1, F1, Iv.shOk_mk rfl (fun us ws hu hw => match us, ws, hu, hw with | [u0, u1], [], _, _ => rfl) rfl (by decide)⟩
      (all_cons ⟨tL_mixed, _, _, rfl, m2, F2, Iv.shOk_mk rfl (fun us ws hu hw => match us, ws, hu, hw with | [u0, u1], [], _, _ => rfl) rfl (by decide)⟩
      (all_cons ⟨tL_draw, _, _, rfl, m4, F4, Iv.shOk_mk rfl (fun us ws hu hw => match us, ws, hu, hw with | [u0, u1], [], _, _ => rfl) rfl (by decide)⟩
      (all_cons ⟨tL_purse, _, _, rfl, m3, F3, Iv.shOk_mk rfl (fun us ws hu hw => match us, ws, hu, hw with | [u0, u1], [], _, _ => rfl) rfl (by decide)⟩
      (all_cons ⟨tL_grain, _, _, rfl, m7, F7, Iv.shOk_mk rfl (fun us ws hu hw => match us, ws, hu, hw with | [u0], [], _, _ => rfl) rfl (by decide)⟩
      (all_cons ⟨tL_far, _, _, rfl, m8, F8, Iv.shOk_mk rfl (fun us ws hu hw => match us, ws, hu, hw with | [u0], [], _, _ => rfl) rfl (by decide)⟩
      (all_cons ⟨t_knot, _, _, rfl, m0, F0, Iv.shOk_mk rfl (fun us ws hu hw => match us, ws, hu, hw with | [u0, u1, u2, u3], [], _, _ => rfl) rfl (by decide)⟩
      (all_cons ⟨tL_whole, _, _, rfl, m5, F5, Iv.shOk_mk rfl (fun us ws hu hw => match us, ws, hu, hw with | [u0], [], _, _ => rfl) rfl (by decide)⟩
      (all_cons ⟨tL_knot, _, _, rfl, m6, F6, Iv.shOk_mk rfl (fun us ws hu hw => match us, ws, hu, hw with | [u0, u1, u2, u3], [], _, _ => rfl) rfl (by decide)⟩
      (all_cons ⟨t_knot, _, _, rfl, m0, F0, Iv.shOk_mk rfl (fun us ws hu hw => match us, ws, hu, hw with | [], [w0, w1, w2, w3], _, _ => rfl) rfl (by decide)⟩
      all_nil))))))))))
    · exact (all_cons (Iv.gl_int rfl (PySem.W.mg_of X G g0)) (all_cons (Iv.gl_int rfl (PySem.W.mg_of X G g1)) (all_cons (Iv.gl_int rfl (PySem.W.mg_of X G g2)) (all_cons (Iv.gl_int rfl (PySem.W.mg_of X G g3)) (all_cons (Iv.gl_int rfl (PySem.W.mg_of X G g4)) all_nil)))))
    · exact (all_cons (PySem.W.mg_none_of X G z0) (all_cons (PySem.W.mg_none_of X G z1) (all_cons (PySem.W.mg_none_of X G z2) (all_cons (PySem.W.mg_none_of X G z3) (all_cons (PySem.W.mg_none_of X G z4) (all_cons (PySem.W.mg_none_of X G z5) all_nil))))))
  exact ⟨_, fun s v => .of_eq rfl, fun base _ _ => Iv.all_ok H 9 9 t_law _ _ rfl m9 F9⟩
end Law
open PySem PySem.W PyProof.Rows
set_option maxHeartbeats 0 in
theorem PySem.Challenge.cw_landweave_k01_knots_holds : PySem.Challenge.rw_landweave_k01_knots.Holds := by
  w_on; o_law; k_head; (case hw => w_witness2)
  k_fill
  refine L2.walk_of (l := PySem.Challenge.rw_landweave_k01_knots) (n := 63) (k := 9) (x := "_law_script") (CX := fun _ => L2.CX0) (sp := fun w => Iv.spOf _ Law.T 9 9) rfl (by decide) rfl ⟨rfl, by decide, by decide⟩ (fun w h Y => PySem.W.kIn_of Y) ?F (fun w H a ns hl _ hS => Iv.sp_law hS rfl (Law.law_true ns hl)) (fun _ _ _ _ _ h => h)
  case F =>
    intro w mg fa h KX G hmg
    refine' Law.all_mk KX G hmg ?q_a0 ?q_l0 ?q_c0 ?q_k0 ?q_a1 ?q_l1 ?q_c1 ?q_k1 ?q_a2 ?q_l2 ?q_c2 ?q_k2 ?q_a3 ?q_l3 ?q_c3 ?q_k3 ?q_a4 ?q_l4 ?q_c4 ?q_k4 ?q_a5 ?q_l5 ?q_c5 ?q_k5 ?q_a6 ?q_l6 ?q_c6 ?q_k6 ?q_a7 ?q_l7 ?q_c7 ?q_k7 ?q_a8 ?q_l8 ?q_c8 ?q_k8 ?q_a9 ?q_l9 ?q_c9 ?q_k9 ?q_g0 ?q_g1 ?q_g2 ?q_g3 ?q_g4 ?q_z0 ?q_z1 ?q_z2 ?q_z3 ?q_z4 ?q_z5
    (case q_a0 => k_is)
    (case q_l0 => k_is)
    (case q_c0 => k_is)
    (case q_k0 => k_is)
    (case q_a1 => k_is)
    (case q_l1 => k_is)
    (case q_c1 => k_is)
    (case q_k1 => k_is)
    (case q_a2 => k_is)
    (case q_l2 => k_is)
    (case q_c2 => k_is)
    (case q_k2 => k_is)
    (case q_a3 => k_is)
    (case q_l3 => k_is)
    (case q_c3 => k_is)
    (case q_k3 => k_is)
    (case q_a4 => k_is)
    (case q_l4 => k_is)
    (case q_c4 => k_is)
    (case q_k4 => k_is)
    (case q_a5 => k_is)
    (case q_l5 => k_is)
    (case q_c5 => k_is)
    (case q_k5 => k_is)
    (case q_a6 => k_is)
    (case q_l6 => k_is)
    (case q_c6 => k_is)
    (case q_k6 => k_is)
    (case q_a7 => k_is)
    (case q_l7 => k_is)
    (case q_c7 => k_is)
    (case q_k7 => k_is)
    (case q_a8 => k_is)
    (case q_l8 => k_is)
    (case q_c8 => k_is)
    (case q_k8 => k_is)
    (case q_a9 => k_is)
    (case q_l9 => k_is)
    (case q_c9 => k_is)
    (case q_k9 => k_is)
    (case q_g0 => k_is)
    (case q_g1 => k_is)
    (case q_g2 => k_is)
    (case q_g3 => k_is)
    (case q_g4 => k_is)
    (case q_z0 => k_is)
    (case q_z1 => k_is)
    (case q_z2 => k_is)
    (case q_z3 => k_is)
    (case q_z4 => k_is)
    (case q_z5 => k_is)

