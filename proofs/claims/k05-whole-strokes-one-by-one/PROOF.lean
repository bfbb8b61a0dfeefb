import PyProof.Rows.All
import PySem.Challenge.RW_tornentries_k05_whole_strokes_one_by_one
import Wide.All
import OpenK.AllK
import Wide.FinOn
import HandS.ForMost
import HandS.TupAny
import HandS.Wide
import HandS.TupMul
import HandS.Style
import HandS.EndBits
import HandS.Defaults
import HandS.IsInst
import HandS.Conv
import HandS.DictComp
import HandS.Zip
import HandS.Rev
import HandS.Deep
import HandS.SetFor
import HandS.Strs
import KE.GoesMore
import KE.GoesEnum
import HandS.ListItems
set_option Elab.async false
set_option maxRecDepth 100000
set_option linter.all false
/-! ZCore: a small evaluator over plain data; programs as terms of Ex. -/
namespace Z
/-- data: tuples by structure, what can change by its place in the store -/
inductive D where
  | non | bl (b : Bool) | int (i : Int) | str (s : List Nat) | tup (xs : List D) | kl (xs : List D) | obj (i : Nat)
deriving Inhabited

mutual
def D.dec : (a b : D) → Decidable (a = b)
  | .non, .non => isTrue rfl
  | .bl a, .bl b => if h : a = b then isTrue (by rw [h]) else isFalse (fun e => h (by injection e))
  | .int a, .int b => if h : a = b then isTrue (by rw [h]) else isFalse (fun e => h (by injection e))
  | .str a, .str b => if h : a = b then isTrue (by rw [h]) else isFalse (fun e => h (by injection e))
  | .tup a, .tup b => match D.decs a b with
    | isTrue h => isTrue (by rw [h])
    | isFalse h => isFalse (fun e => h (by injection e))
  | .kl a, .kl b => match D.decs a b with
    | isTrue h => isTrue (by rw [h])
    | isFalse h => isFalse (fun e => h (by injection e))
  | .obj a, .obj b => if h : a = b then isTrue (by rw [h]) else isFalse (fun e => h (by injection e))
  | .non, .bl _ | .non, .int _ | .non, .str _ | .non, .tup _ | .non, .kl _ | .non, .obj _ => isFalse (fun e => nomatch e)
  | .bl _, .non | .bl _, .int _ | .bl _, .str _ | .bl _, .tup _ | .bl _, .kl _ | .bl _, .obj _ => isFalse (fun e => nomatch e)
  | .int _, .non | .int _, .bl _ | .int _, .str _ | .int _, .tup _ | .int _, .kl _ | .int _, .obj _ => isFalse (fun e => nomatch e)
  | .str _, .non | .str _, .bl _ | .str _, .int _ | .str _, .tup _ | .str _, .kl _ | .str _, .obj _ => isFalse (fun e => nomatch e)
  | .tup _, .non | .tup _, .bl _ | .tup _, .int _ | .tup _, .str _ | .tup _, .kl _ | .tup _, .obj _ => isFalse (fun e => nomatch e)
  | .kl _, .non | .kl _, .bl _ | .kl _, .int _ | .kl _, .str _ | .kl _, .tup _ | .kl _, .obj _ => isFalse (fun e => nomatch e)
  | .obj _, .non | .obj _, .bl _ | .obj _, .int _ | .obj _, .str _ | .obj _, .tup _ | .obj _, .kl _ => isFalse (fun e => nomatch e)
def D.decs : (a b : List D) → Decidable (a = b)
  | [], [] => isTrue rfl
  | x :: xs, y :: ys => match D.dec x y, D.decs xs ys with
    | isTrue h, isTrue k => isTrue (by rw [h, k])
    | isFalse h, _ => isFalse (fun e => h (by injection e))
    | _, isFalse k => isFalse (fun e => k (by injection e))
  | [], _ :: _ => isFalse (fun e => nomatch e)
  | _ :: _, [] => isFalse (fun e => nomatch e)
end
instance : DecidableEq D := D.dec

abbrev Ky := Sum Int (List Nat)
def D.key : D → Option Ky
  | .int i => some (.inl i)
  | .str s => some (.inr s)
  | _ => none
/-- what can change -/
inductive MO where
  | lst (xs : List D) | dct (kvs : List (Ky × D))
  /-- a dict while it is walked -/
  | dctL (kvs : List (Ky × D))
deriving DecidableEq
abbrev Sto := List MO
abbrev Lo := List (Option D)

inductive R (α : Type) where
  | ok (a : α) (s : Sto) | ex (e : D) (s : Sto) | bad
def R.bind {α β : Type} (r : R α) (f : α → Sto → R β) : R β := match r with
  | .ok a s => f a s
  | .ex e s => .ex e s
  | .bad => .bad
/-- what may not raise -/
def R.noex {α : Type} (r : R α) : R α := match r with
  | .ex _ _ => .bad
  | r => r
@[simp] theorem R.noex_ok {α : Type} {a : α} {s : Sto} : (R.ok a s).noex = R.ok a s := rfl
@[simp] theorem R.noex_bad {α : Type} : (R.bad : R α).noex = R.bad := rfl
@[simp] theorem R.bind_ok {α β : Type} {a : α} {s : Sto} {f : α → Sto → R β} : (R.ok a s).bind f = f a s := rfl
@[simp] theorem R.bind_bad {α β : Type} {f : α → Sto → R β} : (R.bad : R α).bind f = R.bad := rfl
@[simp] theorem R.bind_ex {α β : Type} {e : D} {s : Sto} {f : α → Sto → R β} : (R.ex e s : R α).bind f = R.ex e s := rfl
/-- what an end is to be -/
def R.post {α : Type} (r : R α) (Q : α → Sto → Prop) (E : D → Sto → Prop) : Prop := match r with
  | .ok a s => Q a s
  | .ex e s => E e s
  | .bad => False
theorem R.post_mono {α : Type} {r : R α} {Q Q' : α → Sto → Prop} {E E' : D → Sto → Prop} (h : r.post Q E) (hq : ∀ a s, Q a s → Q' a s) (he : ∀ a s, E a s → E' a s) : r.post Q' E' := by
  cases r with
  | ok a s => exact hq _ _ h
  | ex a s => exact he _ _ h
  | bad => exact h
theorem R.post_bind {α β : Type} {r : R α} {f : α → Sto → R β} {Q : β → Sto → Prop} {E : D → Sto → Prop} : (r.bind f).post Q E ↔ r.post (fun a s => (f a s).post Q E) E := by
  cases r <;> exact Iff.rfl

/-! ### operations on data -/
def lst? (s : Sto) : D → Option (List D)
  | .kl xs => some xs
  | .obj i => match s[i]? with
    | some (.lst xs) => some xs
    | _ => none
  | _ => none
/-- a list or a tuple -/
def seq? (s : Sto) : D → Option (List D)
  | .tup xs => some xs
  | d => lst? s d
def newL (xs : List D) (s : Sto) : R D := .ok (.obj s.length) (s ++ [.lst xs])
def newK (kvs : List (Ky × D)) (s : Sto) : R D := .ok (.obj s.length) (s ++ [.dct kvs])
def setO (i : Nat) (o : MO) (s : Sto) : Sto := s.set i o

def optAll {α β : Type} (f : α → Option β) : List α → Option (List β)
  | [] => some []
  | x :: xs => match f x, optAll f xs with
    | some y, some ys => some (y :: ys)
    | _, _ => none
/-- data as the library's data, lists read in the store -/
def pd (s : Sto) : Nat → D → Option PySem.PyData
  | 0, _ => none
  | n + 1, d => match d with
    | .non => some .none
    | .bl b => some (.bool b)
    | .int i => some (.int i)
    | .str x => some (.str ⟨x.toArray⟩)
    | .tup xs => (optAll (pd s n) xs).map .tuple
    | .kl xs => (optAll (pd s n) xs).map .list
    | .obj i => match s[i]? with
      | some (.lst xs) => (optAll (pd s n) xs).map .list
      | some (.dct kvs) => (optAll (fun kv => (pd s n kv.2).map fun p => ((match kv.1 with | .inl i => PySem.PyData.int i | .inr x => PySem.PyData.str ⟨x.toArray⟩), p)) kvs).map .dict
      | _ => none
def fuel : Nat := 40
def line : Nat := 16777216
def big : Int := 18446744073709551616

def eqP (s : Sto) (x y : D) : Option Bool := match pd s fuel x, pd s fuel y with
  | some p, some q => if PySem.SeqAt.shaped p = true ∧ PySem.SeqAt.shaped q = true then some (PySem.PyData.eqv p q) else none
  | _, _ => none
/-- two lists of unlike lengths -/
def lenNe (s : Sto) (x y : D) : Bool := match lst? s x, lst? s y with
  | some a, some b => a.length != b.length
  | _, _ => false
def eqD (s : Sto) (x y : D) : Option Bool := match x, y with
  | .str a, .str b => some (a == b)
  | .tup a, .tup b => if (a.isEmpty || b.isEmpty) = true then some (a.isEmpty && b.isEmpty) else eqP s (.tup a) (.tup b)
  | _, _ => if lenNe s x y = true then some false else eqP s x y
def flatD : D → Bool
  | .non | .bl _ | .int _ | .str _ => true
  | _ => false
def eqF : D → D → Bool
  | .non, .non => true
  | .bl a, .bl b => a == b
  | .bl a, .int b => (if a then 1 else 0) == b
  | .int a, .bl b => a == (if b then 1 else 0)
  | .int a, .int b => a == b
  | .str a, .str b => a == b
  | _, _ => false
def inF (x : D) (xs : List D) : Bool := xs.any fun y => eqF y x
def lookK (kvs : List (Ky × D)) (k : Ky) : Option D := (kvs.find? fun kv => decide (kv.1 = k)).map (·.2)
def putK (kvs : List (Ky × D)) (k : Ky) (v : D) : List (Ky × D) :=
  if kvs.any (fun kv => decide (kv.1 = k)) then kvs.map (fun kv => if kv.1 = k then (kv.1, v) else kv) else kvs ++ [(k, v)]

/-! ### operators -/
inductive Bop where | add | sub | mul | div | mod | pow
deriving DecidableEq
inductive Cop where | eq | ne | lt | le | gt | ge | is | isn | mem | nmem
deriving DecidableEq

def opAdd (x y : D) (s : Sto) : R D := match x, y with
  | .int a, .int b => .ok (.int (a + b)) s
  | .str a, .str b => if a.length + b.length ≤ line then .ok (.str (a ++ b)) s else .bad
  | .tup a, .tup b => if a.length + b.length ≤ line then .ok (.tup (a ++ b)) s else .bad
  | .obj i, .obj j => match s[i]?, s[j]? with
    | some (.lst a), some (.lst b) => if a.length + b.length ≤ line then newL (a ++ b) s else .bad
    | _, _ => .bad
  | _, _ => .bad
def opMul (x y : D) (s : Sto) : R D := match x, y with
  | .int a, .int b => if (-big < a ∧ a < big) ∨ (-big < b ∧ b < big) then .ok (.int (a * b)) s else .bad
  | .tup a, .int k => if a ≠ [] ∧ 2 ≤ k ∧ k ≤ 1000000 ∧ a.length * k.toNat ≤ line then .ok (.tup (List.replicate k.toNat a).flatten) s
    else if (a = [] ∨ k = 1) ∧ -1000000 ≤ k ∧ k ≤ 1000000 then .ok (.tup a) s
    else if a ≠ [] ∧ -1000000 ≤ k ∧ k ≤ 0 then .ok (.tup []) s else .bad
  | .str z, .int k => if z ≠ [] ∧ 2 ≤ k ∧ k ≤ 1000000 ∧ z.length * k.toNat ≤ line then .ok (.str (List.replicate k.toNat z).flatten) s
    else if z = [] ∧ 2 ≤ k ∧ k ≤ 1000000 then .ok (.str []) s else .bad
  | .obj i, .int k => match s[i]? with
    | some (.lst a) => if k ≤ 100000 ∧ a.length * k.toNat ≤ line ∧ -100000 ≤ k then newL (List.replicate k.toNat a).flatten s else .bad
    | _ => .bad
  | _, _ => .bad
def bin (o : Bop) (x y : D) (s : Sto) : R D := match o with
  | .add => opAdd x y s
  | .mul => opMul x y s
  | .sub => match x, y with
    | .int a, .int b => .ok (.int (a - b)) s
    | _, _ => .bad
  | .div => match x, y with
    | .int a, .int b => if 0 < b ∧ b < big then .ok (.int (a / b)) s else .bad
    | _, _ => .bad
  | .mod => match x, y with
    | .int a, .int b => if 0 < b then .ok (.int (a % b)) s else .bad
    | _, _ => .bad
  | .pow => match x, y with
    | .int a, .int b => if 0 ≤ b ∧ b ≤ 1000000 ∧ a.natAbs < 18446744073709551616 then .ok (.int (a ^ b.toNat)) s else .bad
    | _, _ => .bad
def ints? : List D → Option (List Int)
  | [] => some []
  | .int i :: r => (ints? r).map (i :: ·)
  | _ :: _ => none
def strs? : List D → Option (List (List Nat))
  | [] => some []
  | .str i :: r => (strs? r).map (i :: ·)
  | _ :: _ => none
def bls? : List D → Option (List Bool)
  | [] => some []
  | .bl i :: r => (bls? r).map (i :: ·)
  | _ :: _ => none
def opIn (x y : D) (s : Sto) : Option Bool := match y with
  | .str z => match x with
    | .str [c] => some (decide (c ∈ z))
    | _ => none
  | .tup ys => if flatD x = true ∧ ys.all flatD = true then some (inF x ys) else none
  | .kl ys => if flatD x = true ∧ ys.all flatD = true then some (inF x ys) else none
  | .obj i => match s[i]? with
    | some (.lst ys) => if flatD x = true ∧ ys.all flatD = true then some (inF x ys) else none
    | some (.dct kvs) => match x.key with
      | some k => some (lookK kvs k).isSome
      | none => none
    | _ => none
  | _ => none
def opLt (f : Int → Int → Bool) (x y : D) : Option Bool := match x, y with
  | .int a, .int b => some (f a b)
  | _, _ => none
def opIs (x y : D) : Option Bool := match y with
  | .non => some (decide (x = .non))
  | .bl b => match x with
    | .bl a => some (decide (a = b))
    | _ => none
  | _ => none
def cmpO (o : Cop) (x y : D) (s : Sto) : Option Bool := match o with
  | .eq => eqD s x y
  | .ne => (eqD s x y).map (!·)
  | .lt => opLt (fun a b => decide (a < b)) x y
  | .le => opLt (fun a b => decide (a ≤ b)) x y
  | .gt => opLt (fun a b => decide (b < a)) x y
  | .ge => opLt (fun a b => decide (b ≤ a)) x y
  | .is => opIs x y
  | .isn => (opIs x y).map (!·)
  | .mem => opIn x y s
  | .nmem => (opIn x y s).map (!·)
def cmp (o : Cop) (x y : D) (s : Sto) : R D := match cmpO o x y s with
  | some b => .ok (.bl b) s
  | none => .bad

/-! ### items and slices -/
def opIx (x y : D) (s : Sto) : R D := match x with
  | .tup xs => match y with
    | .int i => match L2.atI xs i with
      | some d => .ok d s
      | none => .bad
    | _ => .bad
  | .kl xs => match y with
    | .int i => match L2.atI xs i with
      | some d => .ok d s
      | none => .bad
    | _ => .bad
  | .str z => match y with
    | .int i => if z.length ≤ line then (match L2.atI z i with
      | some c => .ok (.str [c]) s
      | none => .bad) else .bad
    | _ => .bad
  | .obj k => match s[k]? with
    | some (.lst xs) => match y with
      | .int i => match L2.atI xs i with
        | some d => .ok d s
        | none => .bad
      | _ => .bad
    | some (.dct kvs) => match y.key with
      | some q => match lookK kvs q with
        | some d => .ok d s
        | none => .bad
      | none => .bad
    | _ => .bad
  | _ => .bad
def cut {α : Type} (xs : List α) (lo hi : Option Int) : List α := (xs.drop (HT.sIx xs.length 0 lo)).take (HT.sIx xs.length xs.length hi - HT.sIx xs.length 0 lo)
def opSl (x : D) (lo hi : Option Int) (s : Sto) : R D := match x with
  | .tup xs => .ok (.tup (cut xs lo hi)) s
  | .kl xs => newL (cut xs lo hi) s
  | .str z => if z.length ≤ line then .ok (.str (cut z lo hi)) s else .bad
  | .obj k => match s[k]? with
    | some (.lst xs) => newL (cut xs lo hi) s
    | _ => .bad
  | _ => .bad
/-- x[::-1] -/
def opRev (x : D) (s : Sto) : R D := match x with
  | .tup xs => .ok (.tup xs.reverse) s
  | .kl xs => newL xs.reverse s
  | .obj k => match s[k]? with
    | some (.lst xs) => newL xs.reverse s
    | _ => .bad
  | _ => .bad

/-! ### built-ins -/
inductive Bi where
  | len | abs | int | all | any | list | tuple | divmod | sum | min | max | ord | chr | str | repr | sorted | dict
deriving DecidableEq
/-- the types that isinstance is asked of -/
inductive Ty where
  | int | bool | str | tuple | list | dict
deriving DecidableEq
def isTy (t : Ty) (x : D) (s : Sto) : Option Bool := match x with
  | .non => some false
  | .bl _ => some (t == .bool || t == .int)
  | .int _ => some (t == .int)
  | .str _ => some (t == .str)
  | .tup _ => some (t == .tuple)
  | .kl _ => some (t == .list)
  | .obj i => match s[i]? with
    | some (.lst _) => some (t == .list)
    | some (.dct _) => some (t == .dict)
    | _ => none
def bLen (x : D) (s : Sto) : R D := match x with
  | .str z => if z.length ≤ line then .ok (.int z.length) s else .bad
  | .tup xs => .ok (.int xs.length) s
  | .kl xs => .ok (.int xs.length) s
  | .obj i => match s[i]? with
    | some (.lst xs) => .ok (.int xs.length) s
    | _ => .bad
  | _ => .bad
def shownD (x : D) (s : Sto) : Option (List Nat) := match pd s fuel x with
  | some p => if p.showable = true ∧ p.shown.length ≤ line then some p.shown.cps.toList else none
  | none => none
def keyD : Ky → D
  | .inl i => .int i
  | .inr s => .str s
/-- a pair whose first is a key -/
def pair? : D → Option (Ky × D)
  | .tup [k, v] => k.key.map fun q => (q, v)
  | _ => none
def mrgK (kvs more : List (Ky × D)) : List (Ky × D) := more.foldl (fun acc kv => putK acc kv.1 kv.2) kvs
def topI (n : Int) (ns : List Int) : Int := ns.foldl (fun a b => if b > a then b else a) n
def lowI (n : Int) (ns : List Int) : Int := ns.foldl (fun a b => if b < a then b else a) n
/-- a dict's pairs -/
def dct? (s : Sto) : D → Option (List (Ky × D))
  | .obj i => match s[i]? with
    | some (.dct kvs) => some kvs
    | _ => none
  | _ => none
def bi1 (b : Bi) (x : D) (s : Sto) : R D := match b with
  | .len => bLen x s
  | .abs => match x with
    | .int i => .ok (.int (if i < 0 then -i else i)) s
    | _ => .bad
  | .int => match x with
    | .int i => .ok (.int i) s
    | .bl k => .ok (.int (if k then 1 else 0)) s
    | _ => .bad
  | .all => match lst? s x with
    | some xs => match bls? xs with
      | some bs => .ok (.bl (bs.all id)) s
      | none => .bad
    | none => .bad
  | .any => match lst? s x with
    | some xs => match bls? xs with
      | some bs => .ok (.bl (bs.any id)) s
      | none => .bad
    | none => .bad
  | .list => match x with
    | .str z => if z.length ≤ line then newL (z.map fun c => .str [c]) s else .bad
    | _ => match seq? s x with
      | some xs => newL xs s
      | none => match dct? s x with
        | some kvs => newL (kvs.map fun kv => keyD kv.1) s
        | none => .bad
  | .dict => match dct? s x with
    | some kvs => newK kvs s
    | none => match (lst? s x).bind (optAll pair?) with
      | some kvs => newK (mrgK [] kvs) s
      | none => .bad
  | .max => match (lst? s x).bind ints? with
    | some (n :: ns) => .ok (.int (topI n ns)) s
    | _ => .bad
  | .min => match (lst? s x).bind ints? with
    | some (n :: ns) => .ok (.int (lowI n ns)) s
    | _ => .bad
  | .tuple => match seq? s x with
    | some xs => .ok (.tup xs) s
    | none => .bad
  | .sum => match lst? s x with
    | some xs => match ints? xs with
      | some is => .ok (.int is.sum) s
      | none => .bad
    | none => .bad
  | .repr => match shownD x s with
    | some t => .ok (.str t) s
    | none => .bad
  | .str => match x with
    | .int i => if i.natAbs.log2 < 1920 then .ok (.str (toString i : PySem.Str).cps.toList) s else .bad
    | _ => .bad
  | .ord => match x with
    | .str [c] => .ok (.int c) s
    | _ => .bad
  | .chr => match x with
    | .int i => if 0 ≤ i ∧ i ≤ 1114111 then .ok (.str [i.toNat]) s else .bad
    | _ => .bad
  | _ => .bad
def bi2 (b : Bi) (x y : D) (s : Sto) : R D := match b with
  | .divmod => match x, y with
    | .int i, .int j => if 0 < j ∧ j < 1073741824 then .ok (.tup [.int (i / j), .int (i % j)]) s else .bad
    | _, _ => .bad
  | .min => match x, y with
    | .int i, .int j => .ok (.int (if j < i then j else i)) s
    | _, _ => .bad
  | .max => match x, y with
    | .int i, .int j => .ok (.int (if j > i then j else i)) s
    | _, _ => .bad
  | _ => .bad
def biF (b : Bi) (xs : List D) (s : Sto) : R D := match xs with
  | [x] => bi1 b x s
  | [x, y] => bi2 b x y s
  | _ => .bad
inductive Mt where
  | append | reverse | extend | pop | join | upper | popi
deriving DecidableEq
def joinD (sep : List Nat) : List (List Nat) → List Nat
  | [] => []
  | z :: zs => zs.foldl (fun acc p => acc ++ sep ++ p) z
def upA (c : Nat) : Nat := if 97 ≤ c ∧ c ≤ 122 then c - 32 else c
def mth (m : Mt) (o : D) (xs : List D) (s : Sto) : R D := match m with
  | .append => match o, xs with
    | .obj i, [y] => match s[i]? with
      | some (.lst zs) => if zs.length < line then .ok .non (setO i (.lst (zs ++ [y])) s) else .bad
      | _ => .bad
    | _, _ => .bad
  | .reverse => match o, xs with
    | .obj i, [] => match s[i]? with
      | some (.lst zs) => .ok .non (setO i (.lst zs.reverse) s)
      | _ => .bad
    | _, _ => .bad
  | .extend => match o, xs with
    | .obj i, [.obj j] => match s[i]?, s[j]? with
      | some (.lst zs), some (.lst ys) => if zs.length + ys.length ≤ line then .ok .non (setO i (.lst (zs ++ ys)) s) else .bad
      | _, _ => .bad
    | _, _ => .bad
  | .pop => match o, xs with
    | .obj i, [] => match s[i]? with
      | some (.lst zs) => match zs[zs.length - 1]? with
        | some z => .ok z (setO i (.lst zs.dropLast) s)
        | none => .bad
      | _ => .bad
    | _, _ => .bad
  | .join => match o, xs with
    | .str sep, [.obj i] => match s[i]? with
      | some (.lst zs) => match strs? zs with
        | some ys => if (ys.map (·.length)).sum + ys.length * sep.length ≤ line then .ok (.str (joinD sep ys)) s else .bad
        | none => .bad
      | _ => .bad
    | _, _ => .bad
  | .upper => match o, xs with
    | .str z, [] => if z.all (fun c => decide (c < 128)) = true ∧ z.length ≤ 1000000 then .ok (.str (z.map upA)) s else .bad
    | _, _ => .bad
  | .popi => match o, xs with
    | .obj i, [.int n] => match s[i]? with
      | some (.lst zs) => if -1000000000 ≤ n ∧ n ≤ 1000000000 then (match L2.ixN zs.length n with
        | some k => match zs[k]? with
          | some z => .ok z (setO i (.lst (zs.eraseIdx k)) s)
          | none => .bad
        | none => .bad) else .bad
      | _ => .bad
    | _, _ => .bad
def getD (o k d : D) (s : Sto) : R D := match dct? s o with
  | some kvs => match k.key with
    | some q => .ok ((lookK kvs q).getD d) s
    | none => .bad
  | none => .bad
/-- o[i] = v -/
def stIx (o i v : D) (s : Sto) : R Unit := match o with
  | .obj k => match s[k]? with
    | some (.lst xs) => match i with
      | .int n => match L2.ixN xs.length n with
        | some j => .ok () (setO k (.lst (xs.set j v)) s)
        | none => .bad
      | _ => .bad
    | some (.dct kvs) => match i.key with
      | some q => if kvs.length < line then .ok () (setO k (.dct (putK kvs q v)) s) else .bad
      | none => .bad
    | _ => .bad
  | _ => .bad

/-- o[a:c] = v, of a tuple v -/
def stSl (o p q v : D) (s : Sto) : R Unit := match o with
  | .obj k => match s[k]? with
    | some (.lst xs) => match p, q, v with
      | .int a, .int c, .tup ys => if 0 ≤ a ∧ a ≤ c ∧ c ≤ xs.length ∧ xs.length + ys.length ≤ line then .ok () (setO k (.lst (xs.take a.toNat ++ ys ++ xs.drop c.toNat)) s) else .bad
      | _, _, _ => .bad
    | _ => .bad
  | _ => .bad

/-- the numbers of a row, rising, each once -/
def insS (z : Int) : List Int → List Int
  | [] => [z]
  | y :: ys => if z < y then z :: y :: ys else if z = y then y :: ys else y :: insS z ys
def sset (ns : List Int) : List Int := ns.foldr insS []

/-! ### terms -/
inductive Ex where
  | nil | cons (a r : Ex)
  | var (i : Nat) | glb (i : Nat) (d : D)
  | int (i : Int) | str (s : List Nat) | bl (b : Bool) | non
  | bin (o : Bop) (a b : Ex) | neg (a : Ex) | not (a : Ex) | and (a b : Ex) | or (a b : Ex) | one (a : Ex)
  | cmp (o : Cop) (a b : Ex) | cmp2 (o p : Cop) (a b c : Ex)
  | ite (c a b : Ex)
  | tup (es : Ex) | lst (es : Ex) | dct (ks : List Ky) (vs : Ex)
  | ix (a i : Ex) | sl (a lo hi : Ex) | rev (a : Ex)
  | call (f : Nat) (as : Ex) | bi (b : Bi) (as : Ex) | isi (a : Ex) (t : Ty) | mt (m : Mt) (o as : Ex)
  | comp (e : Ex) (tg : Ex) (it : Ex) (c : Ex) (own : List Nat)
  -- list(range(..))
  | lr1 (b : Ex) | lr2 (a b : Ex)
  -- sorted(set(a))
  | sset (a : Ex)
  -- f(a, .., k = v) or f(a, ..), one keyword-only parameter, d its default
  | callK (f : Nat) (as kv : Ex) (d : D)
  -- C[a], C a module's dict of ints
  | gix (i : Nat) (kvs : List (Int × Int)) (a : Ex)
  -- o.get(k), o.get(k, d)
  | get1 (o k : Ex) | get2 (o k d : Ex)
  -- list(a.items())
  | lsI (a : Ex)
  -- isinstance(a, (T, ..))
  | isiM (a : Ex) (ts : List Ty)
  -- enumerate(e), its target a tuple
  | itE (e : Ex)
  -- the keys of a name's dict, while it is locked
  | itK (i : Nat)
  -- what is walked
  | itS (e : Ex) | itR1 (b : Ex) | itR2 (a b : Ex) | itR3 (a b c : Ex)
  -- [e for tg in it for tg2 in it2]
  | comp2 (e tg it tg2 it2 : Ex) (own own2 : List Nat)
  -- {ek: ev for tg in it if c}
  | compD (ek ev tg it c : Ex) (own : List Nat)
  -- targets
  | tv (i : Nat) | tt (ts : Ex) | tix (o i : Ex) | tsl (o lo hi : Ex)
  -- statements
  -- marks of the plain layer: names whose lists are left alone from now on; what is made goes to the store
  | fz (is : List Nat) (a : Ex) | new (a : Ex)
  -- the dict of a name is walked; what is never reached
  | lockS (i : Nat) (a : Ex) | lockE (i : Nat) (a : Ex) | rai
  | expr (e : Ex) | asg (t e : Ex) | sif (c a b : Ex) | sfor (t it b : Ex) | swh (c b : Ex) | ret (e : Ex) | retN | pass | brk | cnt

inductive Fl where | nx | brk | cnt | ret (d : D)
/-- what is walked: its items, the list that must stay -/
structure Src where
  its : List D
  grd : Option (Nat × MO)
def Src.ok (r : Src) (s : Sto) : Bool := match r.grd with
  | none => true
  | some (i, o) => decide (s[i]? = some o)

structure Sm where
  e : Lo → Sto → R D
  l : Lo → Sto → R (List D)
  w : Lo → Sto → R Src
  /-- targets -/
  t : D → Lo → Sto → R Lo
  ts : List D → Lo → Sto → R Lo
  s : Lo → Sto → R (Fl × Lo)
def Sm.bad : Sm := ⟨fun _ _ => .bad, fun _ _ => .bad, fun _ _ => .bad, fun _ _ _ => .bad, fun _ _ _ => .bad, fun _ _ => .bad⟩
abbrev Cl := Nat → List D → Sto → R D

def asB (d : D) (s : Sto) : R Bool := match d with
  | .bl b => .ok b s
  | _ => .bad
def wipe (l : Lo) : List Nat → Lo
  | [] => l
  | v :: vs => (wipe l vs).set v none
/-- a for's turns -/
def forL (src : Src) (t : D → Lo → Sto → R Lo) (b : Lo → Sto → R (Fl × Lo)) : List D → Lo → Sto → R (Fl × Lo)
  | [], l, s => if src.ok s then .ok (.nx, l) s else .bad
  | d :: ds, l, s => if src.ok s then (t d l s).bind fun l1 s1 => (b l1 s1).bind fun r s2 => (match r.1 with
    | .nx => forL src t b ds r.2 s2
    | .cnt => forL src t b ds r.2 s2
    | .brk => .ok (.nx, r.2) s2
    | .ret v => .ok (.ret v, r.2) s2) else .bad
/-- a comprehension's turns: l the names ahead of each turn, acc what is made -/
def comL (src : Src) (l : Lo) (t : D → Lo → Sto → R Lo) (c : Lo → Sto → R Bool) (e : Lo → Sto → R D) (k : Nat) : List D → List D → Sto → R Unit
  | [], acc, s => if src.ok s ∧ s[k]? = some (.lst acc) then .ok () s else .bad
  | d :: ds, acc, s => if src.ok s ∧ s[k]? = some (.lst acc) then (t d l s).bind fun l1 s1 => (c l1 s1).bind fun b s2 => if b = true then
      (e l1 s2).bind fun y s3 => if s3[k]? = some (.lst acc) ∧ acc.length < line then comL src l t c e k ds (acc ++ [y]) (setO k (.lst (acc ++ [y])) s3) else .bad
    else comL src l t c e k ds acc s2 else .bad
/-- a dict comprehension's turns -/
def comD (src : Src) (l : Lo) (t : D → Lo → Sto → R Lo) (c : Lo → Sto → R Bool) (e1 e2 : Lo → Sto → R D) (k : Nat) : List D → List (Ky × D) → Sto → R Unit
  | [], acc, s => if src.ok s ∧ s[k]? = some (.dct acc) then .ok () s else .bad
  | d :: ds, acc, s => if src.ok s ∧ s[k]? = some (.dct acc) then (t d l s).bind fun l1 s1 => (c l1 s1).bind fun b s2 => if b = true then
      (e1 l1 s2).bind fun x s3 => (e2 l1 s3).bind fun y s4 => (match x.key with
        | some q => if s4[k]? = some (.dct acc) ∧ acc.length < line then comD src l t c e1 e2 k ds (putK acc q y) (setO k (.dct (putK acc q y)) s4) else .bad
        | none => .bad)
    else comD src l t c e1 e2 k ds acc s2 else .bad
/-- the inner for of a comprehension of two: what is made, in the end -/
def comA (src : Src) (l : Lo) (t : D → Lo → Sto → R Lo) (e : Lo → Sto → R D) (k : Nat) : List D → List D → Sto → R (List D)
  | [], acc, s => if src.ok s ∧ s[k]? = some (.lst acc) then .ok acc s else .bad
  | d :: ds, acc, s => if src.ok s ∧ s[k]? = some (.lst acc) then (t d l s).bind fun l1 s1 => (e l1 s1).bind fun y s2 =>
      if s2[k]? = some (.lst acc) ∧ acc.length < line then comA src l t e k ds (acc ++ [y]) (setO k (.lst (acc ++ [y])) s2) else .bad else .bad
/-- the outer one -/
def com2 (src : Src) (l : Lo) (t : D → Lo → Sto → R Lo) (w2 : Lo → Sto → R Src) (own2 : List Nat) (t2 : D → Lo → Sto → R Lo) (e : Lo → Sto → R D) (k : Nat) : List D → List D → Sto → R Unit
  | [], acc, s => if src.ok s ∧ s[k]? = some (.lst acc) then .ok () s else .bad
  | d :: ds, acc, s => if src.ok s ∧ s[k]? = some (.lst acc) then (t d l s).bind fun l1 s1 => (w2 l1 s1).bind fun src2 s2 =>
      (comA src2 (wipe l1 own2) t2 e k src2.its acc s2).bind fun acc2 s3 => com2 src l t w2 own2 t2 e k ds acc2 s3 else .bad
def whL (c : Lo → Sto → R Bool) (b : Lo → Sto → R (Fl × Lo)) : Nat → Lo → Sto → R (Fl × Lo)
  | 0, _, _ => .bad
  | n + 1, l, s => (c l s).bind fun k s1 => if k = true then (b l s1).bind fun r s2 => (match r.1 with
    | .nx => whL c b n r.2 s2
    | .cnt => whL c b n r.2 s2
    | .brk => .ok (.nx, r.2) s2
    | .ret v => .ok (.ret v, r.2) s2) else .ok (.nx, l) s1
def whFuel : Nat := 1000000
def rng (a b : Int) : List D := (List.range (b - a).toNat).map fun i => D.int (a + (i : Nat))
/-- how many: range(a, b, c) -/
def rgN (a b c : Int) : Nat := if a < b then ((b - a - 1) / c + 1).toNat else 0
def rng3 (a b c : Int) : List D := (List.range (rgN a b c)).map fun i => D.int (a + (i : Nat) * c)
def rgOk (a b : Int) : Bool := decide (-1000000000 ≤ a ∧ a ≤ 1000000000 ∧ -1000000000 ≤ b ∧ b ≤ 1000000000)

def enumD (n : Nat) : List D → List D
  | [] => []
  | x :: xs => .tup [.int (n : Nat), x] :: enumD (n + 1) xs
def oInt (m : Ex) (f : Lo → Sto → R D) (l : Lo) (s : Sto) : R (Option Int) := match m with
  | .nil => .ok none s
  | _ => (f l s).bind fun d s1 => match d with
    | .int i => .ok (some i) s1
    | _ => .bad
def isNil : Ex → Bool
  | .nil => true
  | _ => false
/-- the receiver of a method, ahead of its arguments -/
def mtOk (m : Mt) (x : D) (s : Sto) : Bool := match m with
  | .join => match x with
    | .str _ => true
    | _ => false
  | .upper => match x with
    | .str _ => true
    | _ => false
  | _ => match x with
    | .obj i => match s[i]? with
      | some (.lst _) => true
      | _ => false
    | _ => false
def sem (cl : Cl) : Ex → Sm
  | .nil => { Sm.bad with l := fun _ s => .ok [] s, s := fun l s => .ok (.nx, l) s, ts := fun ds l s => (match ds with | [] => .ok l s | _ => .bad) }
  | .cons a r => { Sm.bad with
      l := fun l s => ((sem cl a).e l s).bind fun x s1 => ((sem cl r).l l s1).bind fun xs s2 => .ok (x :: xs) s2
      ts := fun ds l s => (match ds with
        | d :: ds => ((sem cl a).t d l s).bind fun l1 s1 => (sem cl r).ts ds l1 s1
        | [] => .bad)
      s := fun l s => ((sem cl a).s l s).bind fun r1 s1 => (match r1.1 with
        | .nx => (sem cl r).s r1.2 s1
        | _ => .ok r1 s1) }
  | .var i => { Sm.bad with e := fun l s => (match l[i]? with | some (some d) => .ok d s | _ => .bad) }
  | .glb _ d => { Sm.bad with e := fun _ s => .ok d s }
  | .int i => { Sm.bad with e := fun _ s => .ok (.int i) s }
  | .str x => { Sm.bad with e := fun _ s => .ok (.str x) s }
  | .bl b => { Sm.bad with e := fun _ s => .ok (.bl b) s }
  | .non => { Sm.bad with e := fun _ s => .ok .non s }
  | .bin o a b => { Sm.bad with e := fun l s => ((sem cl a).e l s).bind fun x s1 => ((sem cl b).e l s1).bind fun y s2 => bin o x y s2 }
  | .neg a => { Sm.bad with e := fun l s => ((sem cl a).e l s).bind fun x s1 => (match x with | .int i => .ok (.int (-i)) s1 | _ => .bad) }
  | .not a => { Sm.bad with e := fun l s => (((sem cl a).e l s).bind asB).bind fun b s1 => .ok (.bl (!b)) s1 }
  | .and a b => { Sm.bad with e := fun l s => (((sem cl a).e l s).bind asB).bind fun k s1 => if k = true then (sem cl b).e l s1 else .ok (.bl false) s1 }
  | .or a b => { Sm.bad with e := fun l s => (((sem cl a).e l s).bind asB).bind fun k s1 => if k = true then .ok (.bl true) s1 else (sem cl b).e l s1 }
  | .one a => { Sm.bad with e := (sem cl a).e }
  | .cmp o a b => { Sm.bad with e := fun l s => ((sem cl a).e l s).bind fun x s1 => ((sem cl b).e l s1).bind fun y s2 => cmp o x y s2 }
  | .cmp2 o p a b c => { Sm.bad with e := fun l s => ((sem cl a).e l s).bind fun x s1 => ((sem cl b).e l s1).bind fun y s2 => ((cmp o x y s2).bind asB).bind fun k s3 =>
      if k = true then ((sem cl c).e l s3).bind fun z s4 => cmp p y z s4 else .ok (.bl false) s3 }
  | .ite c a b => { Sm.bad with e := fun l s => (((sem cl c).e l s).bind asB).bind fun k s1 => if k = true then (sem cl a).e l s1 else (sem cl b).e l s1 }
  | .tup es => { Sm.bad with e := fun l s => ((sem cl es).l l s).bind fun xs s1 => if xs.length ≤ line then .ok (.tup xs) s1 else .bad }
  | .lst es => { Sm.bad with e := fun l s => ((sem cl es).l l s).bind fun xs s1 => if xs.length ≤ line then newL xs s1 else .bad }
  | .dct ks vs => { Sm.bad with e := fun l s => ((sem cl vs).l l (s ++ [.dct []])).bind fun ys s2 =>
      if ys.length = ks.length ∧ ks.length ≤ 15 ∧ (s2[s.length]? = some (MO.dct [])) then .ok (.obj s.length) (setO s.length (.dct ((ks.zip ys).foldl (fun acc kv => putK acc kv.1 kv.2) [])) s2) else .bad }
  | .ix a i => { Sm.bad with e := fun l s => ((sem cl a).e l s).bind fun x s1 => ((sem cl i).e l s1).bind fun y s2 => opIx x y s2 }
  | .sl a lo hi => { Sm.bad with e := fun l s => ((sem cl a).e l s).bind fun x s1 => (oInt lo (sem cl lo).e l s1).bind fun p s2 => (oInt hi (sem cl hi).e l s2).bind fun q s3 => opSl x p q s3 }
  | .rev a => { Sm.bad with e := fun l s => ((sem cl a).e l s).bind fun x s1 => opRev x s1 }
  | .call f as => { Sm.bad with e := fun l s => ((sem cl as).l l s).bind fun xs s1 => cl f xs s1 }
  | .bi b as => { Sm.bad with e := fun l s => ((sem cl as).l l s).bind fun xs s1 => biF b xs s1 }
  | .isi a t => { Sm.bad with e := fun l s => ((sem cl a).e l s).bind fun x s1 => (match isTy t x s1 with | some b => .ok (.bl b) s1 | none => .bad) }
  | .mt m o as => { Sm.bad with e := fun l s => ((sem cl o).e l s).bind fun x s1 => if mtOk m x s1 = true then ((sem cl as).l l s1).bind fun xs s2 => mth m x xs s2 else .bad }
  | .comp e tg it c own => { Sm.bad with e := fun l s => ((sem cl it).w l s).bind fun src s1 =>
      (comL src (wipe l own) (sem cl tg).t (if isNil c = true then (fun _ s => R.ok true s) else (fun l s => ((sem cl c).e l s).bind asB)) (sem cl e).e s1.length src.its [] (s1 ++ [.lst []])).noex.bind fun _ s2 => .ok (.obj s1.length) s2 }
  | .callK f as kv d => { Sm.bad with e := fun l s => ((sem cl as).l l s).bind fun xs s1 => ((sem cl kv).l l s1).bind fun ys s2 => (match ys with
      | [] => cl f (xs ++ [d]) s2
      | [y] => cl f (xs ++ [y]) s2
      | _ => .bad) }
  | .gix _ kvs a => { Sm.bad with e := fun l s => ((sem cl a).e l s).bind fun x s1 => (match x with
      | .int z => (match kvs.find? (fun kv => decide (kv.1 = z)) with
        | some kv => .ok (.int kv.2) s1
        | none => .bad)
      | _ => .bad) }
  | .sset a => { Sm.bad with e := fun l s => ((sem cl a).e l s).bind fun x s1 => (match seq? s1 x with
      | some xs => (match ints? xs with
        | some ns => if ns.length ≤ 60 then newL ((Z.sset ns).map .int) s1 else .bad
        | none => .bad)
      | none => .bad) }
  | .comp2 e tg it tg2 it2 own own2 => { Sm.bad with e := fun l s => ((sem cl it).w l s).bind fun src s1 =>
      (com2 src (wipe l own) (sem cl tg).t (sem cl it2).w own2 (sem cl tg2).t (sem cl e).e s1.length src.its [] (s1 ++ [.lst []])).noex.bind fun _ s2 => .ok (.obj s1.length) s2 }
  | .compD ek ev tg it c own => { Sm.bad with e := fun l s => ((sem cl it).w l s).bind fun src s1 =>
      (comD src (wipe l own) (sem cl tg).t (if isNil c = true then (fun _ s => R.ok true s) else (fun l s => ((sem cl c).e l s).bind asB)) (sem cl ek).e (sem cl ev).e s1.length src.its [] (s1 ++ [.dct []])).noex.bind fun _ s2 => .ok (.obj s1.length) s2 }
  | .itR3 a b c => { Sm.bad with w := fun l s => ((sem cl a).e l s).bind fun x s1 => ((sem cl b).e l s1).bind fun y s2 => ((sem cl c).e l s2).bind fun z s3 => (match x, y, z with
      | .int i, .int j, .int k => if rgOk i j = true ∧ 0 < k ∧ k ≤ 1000000 then .ok ⟨rng3 i j k, none⟩ s3 else .bad
      | _, _, _ => .bad) }
  | .lr1 b => { Sm.bad with e := fun l s => ((sem cl b).e l s).bind fun y s1 => (match y with
      | .int j => if rgOk 0 j = true ∧ j ≤ 16777216 then newL (rng 0 j) s1 else .bad
      | _ => .bad) }
  | .lr2 a b => { Sm.bad with e := fun l s => ((sem cl a).e l s).bind fun x s1 => ((sem cl b).e l s1).bind fun y s2 => (match x, y with
      | .int i, .int j => if rgOk i j = true ∧ j - i ≤ 16777216 then newL (rng i j) s2 else .bad
      | _, _ => .bad) }
  | .get1 o k => { Sm.bad with e := fun l s => ((sem cl o).e l s).bind fun x s1 => if (dct? s1 x).isSome = true then ((sem cl k).e l s1).bind fun y s2 => getD x y .non s2 else .bad }
  | .get2 o k d => { Sm.bad with e := fun l s => ((sem cl o).e l s).bind fun x s1 => if (dct? s1 x).isSome = true then ((sem cl k).e l s1).bind fun y s2 => ((sem cl d).e l s2).bind fun z s3 => getD x y z s3 else .bad }
  | .lsI a => { Sm.bad with e := fun l s => ((sem cl a).e l s).bind fun x s1 => (match dct? s1 x with
      | some kvs => newL (kvs.map fun kv => .tup [keyD kv.1, kv.2]) s1
      | none => .bad) }
  | .isiM a ts => { Sm.bad with e := fun l s => ((sem cl a).e l s).bind fun x s1 => (match optAll (fun t => isTy t x s1) ts with
      | some bs => if 0 < ts.length ∧ ts.length ≤ 20 then .ok (.bl (bs.any id)) s1 else .bad
      | none => .bad) }
  | .itE e => { Sm.bad with w := fun l s => ((sem cl e).e l s).bind fun x s1 => (match x with
      | .tup xs => .ok ⟨enumD 0 xs, none⟩ s1
      | .obj i => (match s1[i]? with
        | some (.lst xs) => .ok ⟨enumD 0 xs, some (i, .lst xs)⟩ s1
        | _ => .bad)
      | _ => .bad) }
  | .itS e => { Sm.bad with w := fun l s => ((sem cl e).e l s).bind fun x s1 => (match x with
      | .tup xs => .ok ⟨xs, none⟩ s1
      | .kl xs => .ok ⟨xs, none⟩ s1
      | .str z => .ok ⟨z.map fun c => .str [c], none⟩ s1
      | .obj i => (match s1[i]? with
        | some (.lst xs) => .ok ⟨xs, some (i, .lst xs)⟩ s1
        | _ => .bad)
      | _ => .bad) }
  | .itK i => { Sm.bad with w := fun l s => (match l[i]? with
      | some (some (.obj k)) => (match s[k]? with
        | some (.dctL kvs) => .ok ⟨kvs.map fun kv => keyD kv.1, some (k, .dctL kvs)⟩ s
        | _ => .bad)
      | _ => .bad) }
  | .itR1 b => { Sm.bad with w := fun l s => ((sem cl b).e l s).bind fun y s1 => (match y with
      | .int j => if rgOk 0 j then .ok ⟨rng 0 j, none⟩ s1 else .bad
      | _ => .bad) }
  | .itR2 a b => { Sm.bad with w := fun l s => ((sem cl a).e l s).bind fun x s1 => ((sem cl b).e l s1).bind fun y s2 => (match x, y with
      | .int i, .int j => if rgOk i j then .ok ⟨rng i j, none⟩ s2 else .bad
      | _, _ => .bad) }
  | .tv i => { Sm.bad with t := fun d l s => .ok (l.set i (some d)) s }
  | .tt ts => { Sm.bad with t := fun d l s => (match d with | .tup ds => (sem cl ts).ts ds l s | _ => .bad) }
  | .tix o i => { Sm.bad with t := fun d l s => ((sem cl o).e l s).bind fun x s1 => ((sem cl i).e l s1).bind fun y s2 => (stIx x y d s2).bind fun _ s3 => .ok l s3 }
  | .tsl o lo hi => { Sm.bad with t := fun d l s => ((sem cl o).e l s).bind fun x s1 => ((sem cl lo).e l s1).bind fun p s2 => ((sem cl hi).e l s2).bind fun q s3 => (stSl x p q d s3).bind fun _ s4 => .ok l s4 }
  | .expr e => { Sm.bad with s := fun l s => ((sem cl e).e l s).bind fun _ s1 => .ok (.nx, l) s1 }
  | .asg t e => { Sm.bad with s := fun l s => ((sem cl e).e l s).bind fun d s1 => ((sem cl t).t d l s1).bind fun l1 s2 => .ok (.nx, l1) s2 }
  | .sif c a b => { Sm.bad with s := fun l s => (((sem cl c).e l s).bind asB).bind fun k s1 => if k = true then (sem cl a).s l s1 else (sem cl b).s l s1 }
  | .sfor t it b => { Sm.bad with s := fun l s => ((sem cl it).w l s).bind fun src s1 => forL src (sem cl t).t (sem cl b).s src.its l s1 }
  | .swh c b => { Sm.bad with s := fun l s => whL (fun l s => ((sem cl c).e l s).bind asB) (sem cl b).s whFuel l s }
  | .ret e => { Sm.bad with s := fun l s => ((sem cl e).e l s).bind fun d s1 => .ok (.ret d, l) s1 }
  | .retN => { Sm.bad with s := fun l s => .ok (.ret .non, l) s }
  | .pass => { Sm.bad with s := fun l s => .ok (.nx, l) s }
  | .brk => { Sm.bad with s := fun l s => .ok (.brk, l) s }
  | .cnt => { Sm.bad with s := fun l s => .ok (.cnt, l) s }
  | .lockS i a => { Sm.bad with s := fun l s => (match l[i]? with
      | some (some (.obj k)) => (match s[k]? with
        | some (.dct kvs) => ((sem cl a).s l (setO k (.dctL kvs) s)).bind fun r s2 => if s2[k]? = some (.dctL kvs) then .ok r (setO k (.dct kvs) s2) else .bad
        | _ => .bad)
      | _ => .bad) }
  | .lockE i a => { Sm.bad with e := fun l s => (match l[i]? with
      | some (some (.obj k)) => (match s[k]? with
        | some (.dct kvs) => ((sem cl a).e l (setO k (.dctL kvs) s)).bind fun r s2 => if s2[k]? = some (.dctL kvs) then .ok r (setO k (.dct kvs) s2) else .bad
        | _ => .bad)
      | _ => .bad) }
  | .rai => Sm.bad
  | .fz _ a => { Sm.bad with s := (sem cl a).s }
  | .new a => { Sm.bad with s := (sem cl a).s }

/-- a def: how many parameters, how many names, its body -/
structure Fn where
  np : Nat
  nn : Nat
  body : Ex
def runFn (cl : Cl) (f : Fn) (as : List D) (s : Sto) : R D :=
  if as.length = f.np then ((sem cl f.body).s (as.map some ++ List.replicate (f.nn - f.np) none) s).bind fun r s1 => (match r.1 with
    | .ret d => .ok d s1
    | .nx => .ok .non s1
    | _ => .bad) else .bad
def callN (fs : List Fn) : Nat → Cl
  | 0 => fun _ _ _ => .bad
  | n + 1 => fun f as s => match fs[f]? with
    | some g => runFn (callN fs n) g as s
    | none => .bad
end Z

/-! ZRel: the data of ZCore over the hand layer's heap. -/
namespace Z
open PySem L2

/-- a list that nobody changes -/
def FL (K : PySem.W.Frag) (H : Hp) (a : Addr) (xs : List V) : Prop := (∃ o, H a = some (.frz o (.lst xs))) ∨
    ∃ (o : Obj) (its : Array Value) (n : Nat), K.lookup a = some o ∧ o.cls = .type "list" ∧ o.dict = none ∧ o.data = .seq its n ∧ its.size ≤ sizeLine ∧ Vals xs its.toList
theorem FL.sq {K : PySem.W.Frag} {H : Hp} {a : Addr} {xs : List V} (h : FL K H a xs) : SqL K H a xs := by
  rcases h with h | h
  · exact .inl (.inr h)
  · exact .inr h
mutual
inductive RD (K : PySem.W.Frag) (ρ : List Addr) (H : Hp) : D → V → Prop
  | non : RD K ρ H .non .non
  | bl (b : Bool) : RD K ρ H (.bl b) (.bl b)
  | int (i : Int) : RD K ρ H (.int i) (.int i)
  | str (x : Str) : RD K ρ H (.str x.cps.toList) (.str x)
  | tup {a : Addr} {ds : List D} {vs : List V} : SqT K H a vs → RDs K ρ H ds vs → RD K ρ H (.tup ds) (.ref a)
  | kl {a : Addr} {ds : List D} {vs : List V} : FL K H a vs → RDs K ρ H ds vs → RD K ρ H (.kl ds) (.ref a)
  | obj {i : Nat} {a : Addr} : ρ[i]? = some a → RD K ρ H (.obj i) (.ref a)
inductive RDs (K : PySem.W.Frag) (ρ : List Addr) (H : Hp) : List D → List V → Prop
  | nil : RDs K ρ H [] []
  | cons {d : D} {v : V} {ds : List D} {vs : List V} : RD K ρ H d v → RDs K ρ H ds vs → RDs K ρ H (d :: ds) (v :: vs)
end
variable {K : PySem.W.Frag} {ρ ρ' ρ1 ρ2 ρ3 : List Addr} {H H' H1 H2 H3 : Hp} {d : D} {ds : List D} {v : V} {vs : List V} {a p : Addr} {i : Nat}

theorem RD.str' {s : List Nat} {x : Str} (h : x.cps.toList = s) : RD K ρ H (.str s) (.str x) := h ▸ .str x
theorem RD.strA (s : List Nat) : RD K ρ H (.str s) (.str ⟨s.toArray⟩) := .str' (by simp)
theorem RD.non_inv (h : RD K ρ H .non v) : v = .non := by cases h; rfl
theorem RD.bl_inv {b : Bool} (h : RD K ρ H (.bl b) v) : v = .bl b := by cases h; rfl
theorem RD.int_inv {b : Int} (h : RD K ρ H (.int b) v) : v = .int b := by cases h; rfl
theorem RD.str_inv {s : List Nat} (h : RD K ρ H (.str s) v) : v = .str ⟨s.toArray⟩ := by cases h; simp
theorem RD.tup_inv (h : RD K ρ H (.tup ds) v) : ∃ a vs, v = .ref a ∧ SqT K H a vs ∧ RDs K ρ H ds vs := by cases h; exact ⟨_, _, rfl, by assumption, by assumption⟩
theorem RD.kl_inv (h : RD K ρ H (.kl ds) v) : ∃ a vs, v = .ref a ∧ FL K H a vs ∧ RDs K ρ H ds vs := by cases h; exact ⟨_, _, rfl, by assumption, by assumption⟩
theorem RD.obj_inv (h : RD K ρ H (.obj i) v) : ∃ a, v = .ref a ∧ ρ[i]? = some a := by cases h; exact ⟨_, rfl, by assumption⟩
theorem RDs.length (h : RDs K ρ H ds vs) : ds.length = vs.length := by
  induction ds generalizing vs with
  | nil => cases h; rfl
  | cons d ds ih =>
    cases h with
    | cons h1 h2 => simp [ih h2]
theorem RDs.append {es : List D} {ws : List V} (h : RDs K ρ H ds vs) (h' : RDs K ρ H es ws) : RDs K ρ H (ds ++ es) (vs ++ ws) := by
  induction ds generalizing vs with
  | nil => cases h; exact h'
  | cons d ds ih =>
    cases h with
    | cons h1 h2 => exact .cons h1 (ih h2)
theorem RDs.drop (n : Nat) (h : RDs K ρ H ds vs) : RDs K ρ H (ds.drop n) (vs.drop n) := by
  induction n generalizing ds vs with
  | zero => exact h
  | succ n ih =>
    cases h with
    | nil => exact .nil
    | cons h1 h2 => exact ih h2
theorem RDs.take (n : Nat) (h : RDs K ρ H ds vs) : RDs K ρ H (ds.take n) (vs.take n) := by
  induction n generalizing ds vs with
  | zero => exact .nil
  | succ n ih =>
    cases h with
    | nil => exact .nil
    | cons h1 h2 => exact .cons h1 (ih h2)
theorem RDs.reverse (h : RDs K ρ H ds vs) : RDs K ρ H ds.reverse vs.reverse := by
  induction ds generalizing vs with
  | nil => cases h; exact .nil
  | cons d ds ih =>
    cases h with
    | cons h1 h2 =>
      rw [List.reverse_cons, List.reverse_cons]
      exact (ih h2).append (.cons h1 .nil)
theorem RDs.get (h : RDs K ρ H ds vs) {n : Nat} (e : ds[n]? = some d) : ∃ v, vs[n]? = some v ∧ RD K ρ H d v := by
  induction n generalizing ds vs with
  | zero =>
    cases h with
    | nil => cases e
    | cons h1 h2 => cases e; exact ⟨_, rfl, h1⟩
  | succ n ih =>
    cases h with
    | nil => cases e
    | cons h1 h2 => exact ih h2 (by simpa using e)
theorem RDs.set (h : RDs K ρ H ds vs) (hd : RD K ρ H d v) (n : Nat) : RDs K ρ H (ds.set n d) (vs.set n v) := by
  induction n generalizing ds vs with
  | zero =>
    cases h with
    | nil => exact .nil
    | cons h1 h2 => exact .cons hd h2
  | succ n ih =>
    cases h with
    | nil => exact .nil
    | cons h1 h2 => exact .cons h1 (ih h2)
theorem RDs.replicate (n : Nat) (h : RDs K ρ H ds vs) : RDs K ρ H (List.replicate n ds).flatten (List.replicate n vs).flatten := by
  induction n with
  | zero => exact .nil
  | succ n ih => rw [List.replicate_succ, List.replicate_succ, List.flatten_cons, List.flatten_cons]; exact h.append ih

/-! ### worlds -/
/-- a later world: places stay, tuples stay -/
structure Wle (K : PySem.W.Frag) (ρ : List Addr) (H : Hp) (ρ' : List Addr) (H' : Hp) : Prop where
  pre : ∀ (i : Nat) a, ρ[i]? = some a → ρ'[i]? = some a
  tup : ∀ a xs, SqT K H a xs → SqT K H' a xs
  fl : ∀ a xs, FL K H a xs → FL K H' a xs
  fd : ∀ a o (ws : List (Key × V)), H a = some (.frz o (.dK ws)) → H' a = some (.frz o (.dK ws))
theorem Wle.refl : Wle K ρ H ρ H := ⟨fun _ _ h => h, fun _ _ h => h, fun _ _ h => h, fun _ _ _ h => h⟩
theorem Wle.trans (a : Wle K ρ H ρ1 H1) (b : Wle K ρ1 H1 ρ2 H2) : Wle K ρ H ρ2 H2 := ⟨fun i x h => b.pre i x (a.pre i x h), fun x y h => b.tup x y (a.tup x y h), fun x y h => b.fl x y (a.fl x y h), fun x o y h => b.fd x o y (a.fd x o y h)⟩
mutual
theorem RD.mono (w : Wle K ρ H ρ' H') : ∀ (d : D) (v : V), RD K ρ H d v → RD K ρ' H' d v
  | .non, _, h => by cases h; exact .non
  | .bl _, _, h => by cases h; exact .bl _
  | .int _, _, h => by cases h; exact .int _
  | .str _, _, h => by cases h; exact .str _
  | .obj _, _, h => by cases h with | obj e => exact .obj (w.pre _ _ e)
  | .tup ds, _, h => by cases h with | tup e f => exact .tup (w.tup _ _ e) (RDs.mono w ds _ f)
  | .kl ds, _, h => by cases h with | kl e f => exact .kl (w.fl _ _ e) (RDs.mono w ds _ f)
theorem RDs.mono (w : Wle K ρ H ρ' H') : ∀ (ds : List D) (vs : List V), RDs K ρ H ds vs → RDs K ρ' H' ds vs
  | [], _, h => by cases h; exact .nil
  | d :: ds, _, h => by cases h with | cons e f => exact .cons (RD.mono w d _ e) (RDs.mono w ds _ f)
end
mutual
theorem RD.chg (w1 : ∀ (i : Nat) a, ρ[i]? = some a → ρ'[i]? = some a) (w2 : ∀ a xs, SqT K H a xs → SqT K H' a xs) (w3 : ∀ a xs, FL K H a xs → FL K H' a xs) : ∀ {d : D} {v : V}, RD K ρ H d v → RD K ρ' H' d v
  | .non, _, h => by cases h; exact .non
  | .bl _, _, h => by cases h; exact .bl _
  | .int _, _, h => by cases h; exact .int _
  | .str _, _, h => by cases h; exact .str _
  | .obj _, _, h => by cases h with | obj e => exact .obj (w1 _ _ e)
  | .tup ds, _, h => by cases h with | tup e f => exact .tup (w2 _ _ e) (RDs.chg w1 w2 w3 f)
  | .kl ds, _, h => by cases h with | kl e f => exact .kl (w3 _ _ e) (RDs.chg w1 w2 w3 f)
theorem RDs.chg (w1 : ∀ (i : Nat) a, ρ[i]? = some a → ρ'[i]? = some a) (w2 : ∀ a xs, SqT K H a xs → SqT K H' a xs) (w3 : ∀ a xs, FL K H a xs → FL K H' a xs) : ∀ {ds : List D} {vs : List V}, RDs K ρ H ds vs → RDs K ρ' H' ds vs
  | [], _, h => by cases h; exact .nil
  | d :: ds, _, h => by cases h with | cons e f => exact .cons (RD.chg w1 w2 w3 e) (RDs.chg w1 w2 w3 f)
end
theorem RD.up (h : RD K ρ H d v) (w : Wle K ρ H ρ' H') : RD K ρ' H' d v := RD.mono w d v h
theorem RDs.up (h : RDs K ρ H ds vs) (w : Wle K ρ H ρ' H') : RDs K ρ' H' ds vs := RDs.mono w ds vs h

theorem sqT_upd {o : HO} {xs : List V} (h : SqT K H a xs) (hp : ∀ u, H p = some u → (∀ ys, u ≠ .tup ys) ∧ ∀ ob ys, u ≠ .frz ob (.tup ys)) : SqT K (upd H p o) a xs := by
  rcases h with (h | ⟨ob, h⟩) | h
  · have : a ≠ p := by rintro rfl; exact (hp _ h).1 _ rfl
    exact .inl (.inl (by rw [upd_ne this]; exact h))
  · have : a ≠ p := by rintro rfl; exact (hp _ h).2 _ _ rfl
    exact .inl (.inr ⟨ob, by rw [upd_ne this]; exact h⟩)
  · exact .inr h
theorem fl_upd {o : HO} {xs : List V} (h : FL K H a xs) (hp : ∀ ob u, H p ≠ some (.frz ob u)) : FL K (upd H p o) a xs := by
  rcases h with ⟨ob, h⟩ | h
  · have : a ≠ p := by rintro rfl; exact hp _ _ h
    exact .inl ⟨ob, by rw [upd_ne this]; exact h⟩
  · exact .inr h
theorem sqL_upd {o : HO} {xs : List V} (h : SqL K H a xs) (hp : a ≠ p) : SqL K (upd H p o) a xs := by
  rcases h with (h | ⟨ob, h⟩) | h
  · exact .inl (.inl (by rw [upd_ne hp]; exact h))
  · exact .inl (.inr ⟨ob, by rw [upd_ne hp]; exact h⟩)
  · exact .inr h
theorem sqL_new {o : HO} {xs : List V} (h : SqL K H a xs) (hp : H p = none) : SqL K (upd H p o) a xs := by
  rcases h with (h | ⟨ob, h⟩) | h
  · exact .inl (.inl (by rw [upd_ne (ne_of_none h hp)]; exact h))
  · exact .inl (.inr ⟨ob, by rw [upd_ne (ne_of_none h hp)]; exact h⟩)
  · exact .inr h
theorem fd_upd {o : HO} {ob : Obj} {ws : List (Key × V)} (h : H a = some (.frz ob (.dK ws))) (hp : ∀ ob u, H p ≠ some (.frz ob u)) : upd H p o a = some (.frz ob (.dK ws)) := by
  have : a ≠ p := by rintro rfl; exact hp _ _ h
  rw [upd_ne this]; exact h
theorem Wle.new (hp : H p = none) (o : HO) : Wle K ρ H (ρ ++ [p]) (upd H p o) := by
  refine ⟨fun i a h => ?_, fun a xs h => sqT_upd h fun u e => ?_, fun a xs h => fl_upd h fun ob u e => ?_, fun a ob ws h => fd_upd h fun ob u e => by rw [hp] at e; cases e⟩
  · rw [List.getElem?_append_left (List.getElem?_eq_some_iff.mp h).1]; exact h
  · rw [hp] at e; cases e
  · rw [hp] at e; cases e
theorem Wle.newT (hp : H p = none) (o : HO) : Wle K ρ H ρ (upd H p o) := ⟨fun _ _ h => h, fun a xs h => sqT_upd h fun u e => (by rw [hp] at e; cases e), fun a xs h => fl_upd h fun ob u e => (by rw [hp] at e; cases e), fun a ob ws h => fd_upd h fun ob u e => by rw [hp] at e; cases e⟩
theorem Wle.chg {u : HO} (hp : H p = some u) (h1 : ∀ ys, u ≠ .tup ys) (h2 : ∀ ob ys, u ≠ .frz ob ys) (o : HO) : Wle K ρ H ρ (upd H p o) :=
  ⟨fun _ _ h => h, fun a xs h => sqT_upd h fun w e => (by rw [hp] at e; cases e; exact ⟨h1, fun ob ys => h2 ob _⟩), fun a xs h => fl_upd h fun ob w e => (by rw [hp] at e; cases e; exact h2 _ _ rfl), fun a ob ws h => fd_upd h fun ob w e => by rw [hp] at e; cases e; exact h2 _ _ rfl⟩

/-! ### the store -/
def keyOf : Ky → Key
  | .inl i => .inl i
  | .inr s => .inr ⟨s.toArray⟩
theorem keyOf_inj {k q : Ky} (h : keyOf k = keyOf q) : k = q := by
  cases k <;> cases q
  · exact congrArg Sum.inl (Sum.inl.inj h)
  · exact absurd h (by unfold keyOf; simp)
  · exact absurd h (by unfold keyOf; simp)
  · rename_i a b
    have : (⟨a.toArray⟩ : Str) = ⟨b.toArray⟩ := Sum.inr.inj h
    injection this with e
    exact congrArg Sum.inr (by simpa using congrArg Array.toList e)
inductive RKs (K : PySem.W.Frag) (ρ : List Addr) (H : Hp) : List (Ky × D) → List (Key × V) → Prop
  | nil : RKs K ρ H [] []
  | cons {k : Ky} {d : D} {v : V} {ds : List (Ky × D)} {vs : List (Key × V)} : RD K ρ H d v → RKs K ρ H ds vs → RKs K ρ H ((k, d) :: ds) ((keyOf k, v) :: vs)
theorem RKs.up {ks : List (Ky × D)} {ws : List (Key × V)} (h : RKs K ρ H ks ws) (w : Wle K ρ H ρ' H') : RKs K ρ' H' ks ws := by
  induction h with
  | nil => exact .nil
  | cons h1 _ ih => exact .cons (h1.up w) ih
theorem RKs.chg {ks : List (Ky × D)} {ws : List (Key × V)} (h : RKs K ρ H ks ws) (w1 : ∀ (i : Nat) a, ρ[i]? = some a → ρ'[i]? = some a) (w2 : ∀ a xs, SqT K H a xs → SqT K H' a xs) (w3 : ∀ a xs, FL K H a xs → FL K H' a xs) : RKs K ρ' H' ks ws := by
  induction h with
  | nil => exact .nil
  | cons h1 _ ih => exact .cons (h1.chg w1 w2 w3) ih
theorem RKs.length {ks : List (Ky × D)} {ws : List (Key × V)} (h : RKs K ρ H ks ws) : ks.length = ws.length := by
  induction h with
  | nil => rfl
  | cons h1 _ ih => simp [ih]
/-- a store's thing at an address -/
def OR (K : PySem.W.Frag) (ρ : List Addr) (H : Hp) : MO → Addr → Prop
  | .lst xs, a => ∃ vs, H a = some (.lst vs) ∧ RDs K ρ H xs vs
  | .dct kvs, a => ∃ ws, H a = some (.dK ws) ∧ RKs K ρ H kvs ws
  | .dctL kvs, a => ∃ o ws, H a = some (.frz o (.dK ws)) ∧ RKs K ρ H kvs ws
theorem OR.there {o : MO} (h : OR K ρ H o a) : ∃ u, H a = some u := by
  cases o with
  | lst xs => obtain ⟨vs, e, _⟩ := h; exact ⟨_, e⟩
  | dct xs => obtain ⟨vs, e, _⟩ := h; exact ⟨_, e⟩
  | dctL xs => obtain ⟨o, vs, e, _⟩ := h; exact ⟨_, e⟩
theorem OR.isAt {o : MO} (h : OR K ρ H o a) (hn : ∀ kvs, o ≠ .dctL kvs := by intro _ h; cases h) : ∃ u, H a = some u ∧ (∀ ys, u ≠ .tup ys) ∧ ∀ ob ys, u ≠ .frz ob ys := by
  cases o with
  | dctL kvs => exact absurd rfl (hn kvs)
  | lst xs => obtain ⟨vs, e, _⟩ := h; exact ⟨_, e, (fun _ q => by cases q), (fun _ _ q => by cases q)⟩
  | dct xs => obtain ⟨vs, e, _⟩ := h; exact ⟨_, e, (fun _ q => by cases q), (fun _ _ q => by cases q)⟩
structure SR (K : PySem.W.Frag) (ρ : List Addr) (st : Sto) (H : Hp) : Prop where
  len : ρ.length = st.length
  nd : ∀ (i j : Nat) (a : Addr), ρ[i]? = some a → ρ[j]? = some a → i = j
  ats : ∀ (i : Nat) (o : MO) (a : Addr), st[i]? = some o → ρ[i]? = some a → OR K ρ H o a
theorem SR.get {st : Sto} {o : MO} (S : SR K ρ st H) (h : st[i]? = some o) : ∃ a, ρ[i]? = some a ∧ OR K ρ H o a := by
  have l : i < ρ.length := by rw [S.len]; exact (List.getElem?_eq_some_iff.mp h).1
  exact ⟨ρ[i], by simp [l], S.ats i o _ h (by simp [l])⟩
theorem SR.st_of {st : Sto} (S : SR K ρ st H) (h : ρ[i]? = some a) : ∃ o, st[i]? = some o ∧ OR K ρ H o a := by
  have l : i < st.length := by rw [← S.len]; exact (List.getElem?_eq_some_iff.mp h).1
  exact ⟨st[i], by simp [l], S.ats i _ _ (by simp [l]) h⟩
theorem SR.ne {st : Sto} (S : SR K ρ st H) (h : ρ[i]? = some a) (hp : H p = none) : a ≠ p := by
  obtain ⟨o, _, q⟩ := S.st_of h
  obtain ⟨u, e⟩ := q.there
  exact ne_of_none e hp
theorem OR.up {o : MO} (h : OR K ρ H o a) (e : H' a = H a) (w : Wle K ρ H ρ' H') : OR K ρ' H' o a := by
  cases o with
  | lst xs => obtain ⟨vs, q, r⟩ := h; exact ⟨vs, e.trans q, r.up w⟩
  | dct xs => obtain ⟨vs, q, r⟩ := h; exact ⟨vs, e.trans q, r.up w⟩
  | dctL xs => obtain ⟨o, vs, q, r⟩ := h; exact ⟨o, vs, e.trans q, r.up w⟩
/-- a tuple is laid -/
theorem SR.newT {st : Sto} (S : SR K ρ st H) (hp : H p = none) (u : HO) : SR K ρ st (upd H p u) :=
  ⟨S.len, S.nd, fun i o a h e => (S.ats i o a h e).up (upd_ne (S.ne e hp)) (Wle.newT hp u)⟩
/-- a thing of the store is laid -/
theorem SR.newO {st : Sto} {o : MO} {u : HO} (S : SR K ρ st H) (hp : H p = none) (h : OR K (ρ ++ [p]) (upd H p u) o p) : SR K (ρ ++ [p]) (st ++ [o]) (upd H p u) := by
  have hl := S.len
  have key : ∀ (i : Nat) a, (ρ ++ [p])[i]? = some a → (ρ[i]? = some a) ∨ (i = ρ.length ∧ a = p) := fun i a e => by
    by_cases hi : i < ρ.length
    · rw [List.getElem?_append_left hi] at e; exact .inl e
    · rw [List.getElem?_append_right (by omega)] at e
      have : i - ρ.length = 0 := by
        have := (List.getElem?_eq_some_iff.mp e).1
        simp at this; omega
      rw [this] at e
      simp at e
      exact .inr ⟨by omega, e.symm⟩
  refine ⟨by simp [hl], fun i j a h1 h2 => ?_, fun i q a h1 h2 => ?_⟩
  · rcases key i a h1 with q1 | ⟨q1, e1⟩ <;> rcases key j a h2 with q2 | ⟨q2, e2⟩
    · exact S.nd i j a q1 q2
    · exact absurd e2 (S.ne q1 hp)
    · exact absurd e1 (S.ne q2 hp)
    · omega
  · rcases key i a h2 with h2 | ⟨q2, rfl⟩
    · have : i < st.length := by rw [← hl]; exact (List.getElem?_eq_some_iff.mp h2).1
      rw [List.getElem?_append_left this] at h1
      exact (S.ats i q a h1 h2).up (upd_ne (S.ne h2 hp)) (Wle.new hp u)
    · subst q2
      rw [List.getElem?_append_right (by omega), hl] at h1
      simp at h1
      subst h1
      exact h
/-- a thing of the store is changed -/
theorem SR.chg {st : Sto} {u' : HO} {o o' : MO} (S : SR K ρ st H) (hi : ρ[i]? = some a) (ho : st[i]? = some o) (h : OR K ρ (upd H a u') o' a) (hn : ∀ kvs, o ≠ .dctL kvs := by intro _ h; cases h) : SR K ρ (setO i o' st) (upd H a u') ∧ Wle K ρ H ρ (upd H a u') := by
  obtain ⟨u, hu, h1, h2⟩ := (S.ats i o a ho hi).isAt hn
  have w : Wle K ρ H ρ (upd H a u') := Wle.chg hu h1 h2 u'
  have hl : i < st.length := (List.getElem?_eq_some_iff.mp ho).1
  refine ⟨⟨by rw [S.len]; unfold setO; simp, S.nd, fun j q b hj hb => ?_⟩, w⟩
  unfold setO at hj
  by_cases e : i = j
  · subst e
    rw [List.getElem?_set_self hl] at hj
    cases hj
    rw [hi] at hb
    cases hb
    exact h
  · rw [List.getElem?_set_ne e] at hj
    have nb : b ≠ a := by rintro rfl; exact e (S.nd _ _ _ hi hb)
    exact (S.ats j q b hj hb).up (upd_ne nb) w
/-- a dict is walked no more -/
theorem Wle.unlock {H1 : Hp} {a : Addr} {ws : List (Key × V)} {o : Obj} (h0 : H a = some (.dK ws)) (w : Wle K ρ (upd H a (.frz o (.dK ws))) ρ1 H1) (h1 : H1 a = some (.frz o (.dK ws))) : Wle K ρ H ρ1 (upd H1 a (.dK ws)) := by
  have w0 : Wle K ρ H ρ (upd H a (.frz o (.dK ws))) := Wle.chg h0 (fun _ q => by cases q) (fun _ _ q => by cases q) _
  have w1 := w0.trans w
  refine ⟨w1.pre, fun b xs h => sqT_upd (w1.tup b xs h) fun u e => ?_, fun b xs h => ?_, fun b ob ks h => ?_⟩
  · rw [h1] at e; cases e
    exact ⟨fun _ q => (by cases q), fun _ _ q => (by cases q)⟩
  · rcases w1.fl b xs h with ⟨ob, h⟩ | h
    · have : b ≠ a := by rintro rfl; rw [h1] at h; cases h
      exact .inl ⟨ob, by rw [upd_ne this]; exact h⟩
    · exact .inr h
  · have : b ≠ a := by rintro rfl; rw [h0] at h; cases h
    rw [upd_ne this]
    exact w1.fd b ob ks h
theorem SR.unlock {st : Sto} {H1 : Hp} {i : Nat} {a : Addr} {ws : List (Key × V)} {o : Obj} {kvs : List (Ky × D)} (h0 : H a = some (.dK ws)) (S : SR K ρ1 st H1) (w : Wle K ρ (upd H a (.frz o (.dK ws))) ρ1 H1) (hi : ρ1[i]? = some a) (h1 : H1 a = some (.frz o (.dK ws))) (hr : RKs K ρ H kvs ws) :
    SR K ρ1 (setO i (.dct kvs) st) (upd H1 a (.dK ws)) := by
  have w2 := Wle.unlock h0 w h1
  -- what stands elsewhere stays as it is
  have wt : ∀ (b : Addr) (xs : List V), SqT K H1 b xs → SqT K (upd H1 a (.dK ws)) b xs := fun b xs h => sqT_upd h fun u e => by
    rw [h1] at e; cases e
    exact ⟨fun _ q => (by cases q), fun _ _ q => (by cases q)⟩
  have wf : ∀ (b : Addr) (xs : List V), FL K H1 b xs → FL K (upd H1 a (.dK ws)) b xs := fun b xs h => by
    rcases h with ⟨ob, h⟩ | h
    · have : b ≠ a := by rintro rfl; rw [h1] at h; cases h
      exact .inl ⟨ob, by rw [upd_ne this]; exact h⟩
    · exact .inr h
  have rd : ∀ {d v}, RD K ρ1 H1 d v → RD K ρ1 (upd H1 a (.dK ws)) d v := fun {d v} h => h.chg (fun i a h => h) wt wf
  have rds : ∀ {d v}, RDs K ρ1 H1 d v → RDs K ρ1 (upd H1 a (.dK ws)) d v := fun {d v} h => h.chg (fun i a h => h) wt wf
  refine ⟨by rw [S.len]; unfold setO; simp, S.nd, fun j q b hj hb => ?_⟩
  unfold setO at hj
  have hl : i < st.length := by rw [← S.len]; exact (List.getElem?_eq_some_iff.mp hi).1
  by_cases e : i = j
  · subst e
    rw [List.getElem?_set_self hl] at hj
    cases hj
    rw [hi] at hb; cases hb
    exact ⟨ws, upd_same, hr.up w2⟩
  · rw [List.getElem?_set_ne e] at hj
    have nb : b ≠ a := by rintro rfl; exact e (S.nd _ _ _ hi hb)
    have := S.ats j q b hj hb
    cases q with
    | lst xs => obtain ⟨vs, q, r⟩ := this; exact ⟨vs, by rw [upd_ne nb]; exact q, rds r⟩
    | dct xs => obtain ⟨vs, q, r⟩ := this; exact ⟨vs, by rw [upd_ne nb]; exact q, r.chg (fun i a h => h) wt wf⟩
    | dctL xs => obtain ⟨o, vs, q, r⟩ := this; exact ⟨o, vs, by rw [upd_ne nb]; exact q, r.chg (fun i a h => h) wt wf⟩
end Z

/-! ZSem: what a term of ZCore says, as a reading of the hand layer. -/
namespace Z
open PySem L2

/-- what is wished of an exception, from a world on -/
structure XW (K : PySem.W.Frag) where
  p : List Addr → Hp → D → Sto → Prop
  mono : ∀ {ρ H ρ' H' d st}, Wle K ρ H ρ' H' → p ρ H d st → p ρ' H' d st
/-- the names' values -/
structure LR (K : PySem.W.Frag) (ρ : List Addr) (H : Hp) (l : Lo) (σ : L2.St) : Prop where
  len : l.length = σ.length
  at_ : ∀ (i : Nat) (d : D), l[i]? = some (some d) → ∃ v, σ[i]? = some (some v) ∧ RD K ρ H d v
section
variable {K : PySem.W.Frag} {E : XW K} {ρ ρ' ρ1 ρ2 ρ3 : List Addr} {H H' H1 H2 H3 : Hp} {d : D} {ds : List D} {v u : V} {vs : List V} {a p : Addr} {i : Nat} {l : Lo} {σ : L2.St} {st st1 st2 : Sto} {Q : VK}
theorem LR.up (h : LR K ρ H l σ) (w : Wle K ρ H ρ' H') : LR K ρ' H' l σ := ⟨h.len, fun i d e => let ⟨v, q, r⟩ := h.at_ i d e; ⟨v, q, r.up w⟩⟩
theorem LR.set (h : LR K ρ H l σ) (r : RD K ρ H d v) (i : Nat) : LR K ρ H (l.set i (some d)) (σ.set i (some v)) := by
  refine ⟨by simp [h.len], fun j e q => ?_⟩
  by_cases hij : i = j
  · subst hij
    by_cases hl : i < l.length
    · rw [List.getElem?_set_self hl] at q
      cases q
      exact ⟨v, by rw [List.getElem?_set_self (by rw [← h.len]; exact hl)], r⟩
    · rw [List.getElem?_eq_none (by simp; omega)] at q; cases q
  · rw [List.getElem?_set_ne hij] at q ⊢
    exact h.at_ j e q
theorem LR.wipe (h : LR K ρ H l σ) : ∀ vs : List Nat, LR K ρ H (Z.wipe l vs) (L2.wipe σ vs)
  | [] => h
  | x :: vs => by
    have ih := LR.wipe h vs
    refine ⟨by simp [Z.wipe, L2.wipe, ih.len], fun j e q => ?_⟩
    unfold Z.wipe at q
    unfold L2.wipe
    by_cases hij : x = j
    · subst hij
      by_cases hl : x < (Z.wipe l vs).length
      · rw [List.getElem?_set_self hl] at q; cases q
      · rw [List.getElem?_eq_none (by simp; omega)] at q; cases q
    · rw [List.getElem?_set_ne hij] at q ⊢
      exact ih.at_ j e q

/-- what follows -/
def Kont (K : PySem.W.Frag) (ρ : List Addr) (H : Hp) (Q : VK) : D → Sto → Prop := fun d st' => ∀ ρ' H' v, Wle K ρ H ρ' H' → SR K ρ' st' H' → RD K ρ' H' d v → Q v H'
theorem Kont.up (h : Kont K ρ H Q d st) (w : Wle K ρ H ρ' H') : Kont K ρ' H' Q d st := fun ρ2 H2 v w2 => h ρ2 H2 v (w.trans w2)
def eR (E : XW K) (f : Lo → Sto → R D) : TE := fun σ H Q => ∃ ρ l st, LR K ρ H l σ ∧ SR K ρ st H ∧ (f l st).post (Kont K ρ H Q) (E.p ρ H)
def lR (E : XW K) (f : Lo → Sto → R (List D)) : TA := fun σ H Q => ∃ ρ l st, LR K ρ H l σ ∧ SR K ρ st H ∧
  (f l st).post (fun ds st' => ∀ ρ' H' vs, Wle K ρ H ρ' H' → SR K ρ' st' H' → RDs K ρ' H' ds vs → Q vs H') (E.p ρ H)
def bR (E : XW K) (f : Lo → Sto → R Bool) : TT := fun σ H Q => ∃ ρ l st, LR K ρ H l σ ∧ SR K ρ st H ∧
  (f l st).post (fun b st' => ∀ ρ' H', Wle K ρ H ρ' H' → SR K ρ' st' H' → Q b H') (E.p ρ H)
/-- one after the other -/
theorem eR_of {β : Type} {fa : Lo → Sto → R D} {k : D → Sto → R β} {QQ : β → Sto → Prop} (L : LR K ρ H l σ) (S : SR K ρ st H) (h : ((fa l st).bind k).post QQ (E.p ρ H))
    (hQ : ∀ d st1 ρ1 H1 v, Wle K ρ H ρ1 H1 → LR K ρ1 H1 l σ → SR K ρ1 st1 H1 → RD K ρ1 H1 d v → (k d st1).post QQ (E.p ρ1 H1) → Q v H1) : eR E fa σ H Q :=
  ⟨ρ, l, st, L, S, R.post_mono (R.post_bind.mp h) (fun d st1 h1 ρ1 H1 v w1 S1 r1 => hQ d st1 ρ1 H1 v w1 (L.up w1) S1 r1 (R.post_mono h1 (fun _ _ x => x) fun _ _ => E.mono w1)) fun _ _ x => x⟩
theorem lR_of {β : Type} {fa : Lo → Sto → R (List D)} {k : List D → Sto → R β} {QQ : β → Sto → Prop} {Q : List V → Hp → Prop} (L : LR K ρ H l σ) (S : SR K ρ st H) (h : ((fa l st).bind k).post QQ (E.p ρ H))
    (hQ : ∀ d st1 ρ1 H1 v, Wle K ρ H ρ1 H1 → LR K ρ1 H1 l σ → SR K ρ1 st1 H1 → RDs K ρ1 H1 d v → (k d st1).post QQ (E.p ρ1 H1) → Q v H1) : lR E fa σ H Q :=
  ⟨ρ, l, st, L, S, R.post_mono (R.post_bind.mp h) (fun d st1 h1 ρ1 H1 v w1 S1 r1 => hQ d st1 ρ1 H1 v w1 (L.up w1) S1 r1 (R.post_mono h1 (fun _ _ x => x) fun _ _ => E.mono w1)) fun _ _ x => x⟩
theorem bR_of {β : Type} {fa : Lo → Sto → R Bool} {k : Bool → Sto → R β} {QQ : β → Sto → Prop} {Q : Bool → Hp → Prop} (L : LR K ρ H l σ) (S : SR K ρ st H) (h : ((fa l st).bind k).post QQ (E.p ρ H))
    (hQ : ∀ d st1 ρ1 H1, Wle K ρ H ρ1 H1 → LR K ρ1 H1 l σ → SR K ρ1 st1 H1 → (k d st1).post QQ (E.p ρ1 H1) → Q d H1) : bR E fa σ H Q :=
  ⟨ρ, l, st, L, S, R.post_mono (R.post_bind.mp h) (fun d st1 h1 ρ1 H1 w1 S1 => hQ d st1 ρ1 H1 w1 (L.up w1) S1 (R.post_mono h1 (fun _ _ x => x) fun _ _ => E.mono w1)) fun _ _ x => x⟩
/-- the last step -/
theorem eR_last {fa : Lo → Sto → R D} {Q' : VK} (L : LR K ρ H l σ) (S : SR K ρ st H) (h : (fa l st).post (Kont K ρ' H' Q) (E.p ρ H)) (w : Wle K ρ' H' ρ H) (hQ : ∀ v H1, Q v H1 → Q' v H1) : eR E fa σ H Q' :=
  ⟨ρ, l, st, L, S, R.post_mono h (fun d st1 h1 ρ1 H1 v w1 S1 r1 => hQ _ _ (h1 ρ1 H1 v (w.trans w1) S1 r1)) fun _ _ x => x⟩

/-! ### weakening -/
theorem PE.weak {X : Cx} {e : Expr} {t t' : TE} (h : PE X e t) (w : ∀ σ H Q, t' σ H Q → t σ H Q) : PE X e t' := ⟨fun pins s σ H Q I q => h.run pins s σ H Q I (w _ _ _ q)⟩
theorem PT.weak {X : Cx} {e : Expr} {t t' : TT} (h : PT X e t) (w : ∀ σ H Q, t' σ H Q → t σ H Q) : PT X e t' := ⟨fun pins s σ H Q I q => h.run pins s σ H Q I (w _ _ _ q)⟩
theorem PA.weak {X : Cx} {e : List Expr} {t t' : TA} (h : PA X e t) (w : ∀ σ H Q, t' σ H Q → t σ H Q) : PA X e t' := ⟨fun pos pins s σ H Q I q => h.run pos pins s σ H Q I (w _ _ _ q)⟩
theorem PW.weak {X : Cx} {e : Expr} {t t' : TT} (h : PW X e t) (w : ∀ σ H Q, t' σ H Q → t σ H Q) : PW X e t' := ⟨fun wh pins s σ H Q I q => h.run wh pins s σ H Q I (w _ _ _ q)⟩
theorem PS.weak {X : Cx} {e : Stmt} {t t' : TS} (h : PS X e t) (w : ∀ D σ H, t' D σ H → t D σ H) : PS X e t' := ⟨fun pins s σ H Q I q => h.run pins s σ H Q I (w _ _ _ q)⟩
theorem PSs.weak {X : Cx} {e : List Stmt} {t t' : TS} (h : PSs X e t) (w : ∀ D σ H, t' D σ H → t D σ H) : PSs X e t' := ⟨fun pins s σ H Q I q => h.run pins s σ H Q I (w _ _ _ q)⟩

/-! ### two values -/
/-- a step on two values -/
def Two (K : PySem.W.Frag) (k : D → D → Sto → R D) (r : R2) : Prop := ∀ (ρ : List Addr) (H : Hp) (st : Sto) (x y : D) (v u : V) (Q : VK) (F : D → Sto → Prop), (∀ d s, ¬ k x y st = .ex d s) → SR K ρ st H → RD K ρ H x v → RD K ρ H y u → (k x y st).post (Kont K ρ H Q) F → r v u H Q
/-- a step that raises nothing -/
def Calm2 (k : D → D → Sto → R D) : Prop := ∀ x y s d s', ¬ k x y s = .ex d s'
theorem two_op {k : D → D → Sto → R D} {r : R2} {fa fb : Lo → Sto → R D} (hk : Two K k r) (hc : Calm2 k) (h : eR E (fun l s => (fa l s).bind fun x s1 => (fb l s1).bind fun y s2 => k x y s2) σ H Q) : tOp r (eR E fa) (eR E fb) σ H Q := by
  obtain ⟨ρ, l, st, L, S, h⟩ := h
  exact eR_of L S h fun x st1 ρ1 H1 v w1 L1 S1 r1 h1 => eR_of L1 S1 h1 fun y st2 ρ2 H2 u w2 L2 S2 r2 h2 =>
    hk ρ2 H2 st2 x y v u Q _ (hc _ _ _) S2 (r1.up w2) r2 (R.post_mono h2 (fun d s q => q.up (w1.trans w2)) fun _ _ x => x)

/-! ### new things -/
theorem newL_post {F : D → Sto → Prop} {xs : List D} (S : SR K ρ st H) (r : RDs K ρ H xs vs) (h : (newL xs st).post (Kont K ρ H Q) F) (hp : H p = none) : Q (.ref p) (upd H p (.lst vs)) := by
  have w : Wle K ρ H (ρ ++ [p]) (upd H p (.lst vs)) := Wle.new hp _
  exact h _ _ _ w (S.newO hp ⟨vs, upd_same, r.up w⟩) (.obj (by rw [← S.len]; simp))
theorem newT_post {F : D → Sto → Prop} {xs : List D} (S : SR K ρ st H) (r : RDs K ρ H xs vs) (h : (R.ok (.tup xs) st : R D).post (Kont K ρ H Q) F) (hp : H p = none) : Q (.ref p) (upd H p (.tup vs)) := by
  have w : Wle K ρ H ρ (upd H p (.tup vs)) := Wle.newT hp _
  exact h _ _ _ w (S.newT hp _) (.tup (.inl (.inl upd_same)) (r.up w))
theorem line_eq : line = sizeLine := by rw [PySem.sizeLine_eq]; rfl
theorem Str.len_toList {x : Str} : x.length = x.cps.toList.length := by simp [Str.length]

/-! ### + -/
def rAdd (K : PySem.W.Frag) : R2 := fun x y H Q => (rI0 fun i j => .int (i + j)) x y H Q ∨ (∃ i j, x = .str i ∧ y = .str j ∧ i.length + j.length ≤ sizeLine ∧ Q (.str (i ++ j)) H) ∨ rCatA K x y H Q ∨ rCat x y H Q
theorem or_add {X : Cx} : OpR X (binaryOp .Add) (rAdd X.K) := op_add.or (op_add_str.or (op_catA.or op_cat))
theorem two_add : Two K opAdd (rAdd K) := by
  intro ρ H st x y v u Q F _ S rx ry h
  unfold opAdd at h
  split at h
  · cases rx; cases ry
    exact .inl ⟨_, _, rfl, rfl, h _ _ _ Wle.refl S (.int _)⟩
  · cases rx.str_inv; cases ry.str_inv
    split at h
    · rename_i hl
      refine .inr (.inl ⟨_, _, rfl, rfl, ?_, h _ _ _ Wle.refl S (.str' ?_)⟩)
      · rw [← line_eq]; simpa [Str.length] using hl
      · show (Array.toList (_ ++ _)) = _
        simp
    · exact h.elim
  · obtain ⟨a, vs, rfl, ha, ra⟩ := rx.tup_inv
    obtain ⟨b, ws, rfl, hb, rb⟩ := ry.tup_inv
    split at h
    · rename_i hl
      refine .inr (.inr (.inl ⟨a, b, vs, ws, rfl, rfl, ha, hb, by rw [← line_eq, ← ra.length, ← rb.length]; exact hl, ?_⟩))
      refine ⟨fun e => ?_, fun _ e => ?_, fun _ _ p hp => newT_post S (ra.append rb) h hp⟩
      · subst e
        cases ra
        exact h _ _ _ Wle.refl S (.tup hb rb)
      · subst e
        cases rb
        rw [List.append_nil] at h
        exact h _ _ _ Wle.refl S (.tup ha ra)
    · exact h.elim
  · obtain ⟨a, rfl, ea⟩ := rx.obj_inv
    obtain ⟨b, rfl, eb⟩ := ry.obj_inv
    split at h
    · rename_i xs ys hi hj
      obtain ⟨_, ea', vs, ha, ra⟩ := S.get hi
      obtain ⟨_, eb', ws, hb, rb⟩ := S.get hj
      rw [ea] at ea'; cases ea'
      rw [eb] at eb'; cases eb'
      split at h
      · rename_i hl
        exact .inr (.inr (.inr ⟨a, b, vs, ws, rfl, rfl, ha, hb, by rw [← line_eq, ← ra.length, ← rb.length]; exact hl, fun p hp => newL_post S (ra.append rb) h hp⟩))
      · exact h.elim
    · exact h.elim
  · exact h.elim
end
end Z

/-! ZOps: the operators on data are the hand layer's. -/
namespace Z
open PySem L2
section
variable {K : PySem.W.Frag} {E : XW K} {ρ ρ' ρ1 ρ2 ρ3 : List Addr} {H H' H1 H2 H3 : Hp} {d : D} {ds : List D} {v u : V} {vs : List V} {a p : Addr} {i : Nat} {l : Lo} {σ : L2.St} {st st1 st2 : Sto} {Q : VK}

/-! ### *, -, //, %, ** -/
/-- tuple * int, many times -/
def rRepU (K : PySem.W.Frag) : R2 := fun x y H Q => ∃ l k xs, x = .ref l ∧ y = .int k ∧ SqT K H l xs ∧ xs ≠ [] ∧ 2 ≤ k ∧ k ≤ 1000000 ∧ xs.length * k.toNat ≤ sizeLine ∧ ∀ p, H p = none → Q (.ref p) (upd H p (.tup (List.replicate k.toNat xs).flatten))
theorem op_repU {X : Cx} : OpR X (binaryOp .Mult) (rRepU X.K) := by
  intro pins s σ H x y v u Q I rx ry h
  obtain ⟨l, k, xs, rfl, rfl, hT, hne, h1, h2, hz, q⟩ := h
  cases rx
  obtain ⟨t, rfl⟩ := ry
  obtain ⟨its, r, ⟨⟨cls, dd, data, sl⟩, ho, hc, n, hd⟩, hs⟩ := I.tuple hT
  simp only at hc hd
  subst hc hd
  have hle : its.length = xs.length := r.length.symm
  have hi : its.toArray.isEmpty = false := by
    cases its with
    | nil => exact absurd (List.eq_nil_of_length_eq_zero hle.symm) hne
    | cons a b => rfl
  have lk : (List.replicate k.toNat xs).flatten.length = k.toNat * xs.length := by rw [PyProof.Rows.lm_len_rep_flat]
  have li : (List.replicate k.toNat its).flatten.length = k.toNat * xs.length := by rw [PyProof.Rows.lm_len_rep_flat, hle]
  have hz2 : k.toNat * xs.length ≤ 16777216 := by rw [Nat.mul_comm, ← sizeLine_eq]; exact hz
  have hm : ((its.toArray.size : Nat) : Int) * k ≤ 16777216 := by
    have e : ((its.toArray.size : Nat) : Int) * k = ((k.toNat * xs.length : Nat) : Int) := by
      rw [List.size_toArray, hle, Int.natCast_mul, Int.mul_comm]
      congr 1
      omega
    rw [e]; omega
  have d0 : (decide (k < -(2 ^ 63)) || decide (k ≥ 2 ^ 63)) = false := by
    simp only [Bool.or_eq_false_iff, decide_eq_false_iff_not]; omega
  have d1 : (its.toArray.isEmpty || k == 1) = false := by
    rw [hi, Bool.false_or]; exact beq_eq_false_iff_ne.mpr (by omega)
  have d2 : (decide (k ≤ 0) || its.toArray.isEmpty) = false := by
    rw [hi, Bool.or_false]; exact decide_eq_false (by omega)
  have d4 : Builtin.Tuple.tupleTooMany (((its.toArray.size : Nat) : Int) * k) = false := by
    unfold Builtin.Tuple.tupleTooMany
    rw [sizeLine_eq]; exact decide_eq_false (by omega)
  have made := tuple_mulW l its.toArray n dd sl k t d0 d1 d2 (by omega) d4 (by rw [size_rep, List.size_toArray, li, sizeLine_eq]; exact hz2)
  refine wpAny_binaryOp_repeat_ref (T := "tuple") (U := "int") (by decide) ⟨_, ho, rfl⟩ (fun s' => typeIs_int s' k t) noFill_tuple_mul PySem.F.fills_int_mul PySem.F.slot_int_rmul repeat_tuple PySem.F.slot_int_index.lookup
    (call_meets PySem.F.slot_int_rmul (typeIs_int s k t) PySem.F.entry_int_rmul (PySem.F.args_int_rmul_2 _ _) (int_rmul_tuple k t l its.toArray n dd sl) ⟨ho, rfl, ⟨_, ho, rfl⟩, call_meets PySem.F.slot_tuple_mul ⟨_, ho, rfl⟩ PySem.F.entry_tuple_mul (PySem.F.args_tuple_mul_2 _ _) made ⟨ho, ?_⟩⟩)
  rw [size_rep]
  have ok : ObjOk X.prog X.w H (s.heap.push { cls := .type "tuple", data := .seq (List.replicate k.toNat its).flatten.toArray }) s.heap.objs.size (.tup (List.replicate k.toNat xs).flatten) :=
    ⟨by rw [lk, sizeLine_eq]; exact hz2, _, r.rep k.toNat, PyProof.Rows.IsTup.new _ _⟩
  exact ⟨.ref s.heap.objs.size, _, I.laid (t' := s.toks) (o := .tup (List.replicate k.toNat xs).flatten) (fun b ob q => Heap.get?_push_of_some _ q) (Nat.le_refl _) ok, rfl, q _ (I.hok.fresh (Nat.le_refl _))⟩
theorem fold_arr {α : Type} (a : Array α) : ∀ (n : Nat) (b : Array α), ((List.replicate n a).foldl (fun x y => x ++ y) b).toList = b.toList ++ (List.replicate n a.toList).flatten
  | 0, b => by simp
  | n + 1, b => by
    rw [List.replicate_succ, List.foldl_cons, fold_arr a n, List.replicate_succ, List.flatten_cons]
    simp
theorem txt_mul {z : Str} {k : Int} (h : z.length ≠ 0) (h2 : 2 ≤ k) : (Txt.mul z k).cps.toList = (List.replicate k.toNat z.cps.toList).flatten := by
  unfold Txt.mul
  rw [if_neg (by omega), if_neg]
  · have := fold_arr z.cps k.toNat #[]
    simpa using this
  · have e1 : (k == 1) = false := beq_eq_false_iff_ne.mpr (by omega)
    have e2 : (z.length == 0) = false := beq_eq_false_iff_ne.mpr h
    rw [e1, e2]
    decide
def rRepS : R2 := fun x y H Q => ∃ (z : Str) (k : Int), x = .str z ∧ y = .int k ∧ z.length ≠ 0 ∧ 2 ≤ k ∧ k ≤ 1000000 ∧ z.length * k.toNat ≤ sizeLine ∧ Q (.str (Txt.mul z k)) H
theorem op_repS {X : Cx} : OpR X (binaryOp .Mult) rRepS := by
  intro pins s σ H x y v u Q I rx ry h
  obtain ⟨z, k, rfl, rfl, h0, h1, h2, hz, q⟩ := h
  obtain ⟨t, rfl⟩ := rx
  obtain ⟨t2, rfl⟩ := ry
  have hz2 : z.length * k.toNat ≤ 16777216 := by rw [← sizeLine_eq]; exact hz
  have hm : ((z.length : Nat) : Int) * k ≤ 16777216 := by
    have e : ((z.length : Nat) : Int) * k = ((z.length * k.toNat : Nat) : Int) := by
      rw [Int.natCast_mul]
      congr 1
      omega
    rw [e]; omega
  refine PySem.SB.mul ⟨?_, fun _ _ => ?_, fun _ _ => ?_⟩ fun t' tk => ⟨.str _, H, I.tok _, ⟨t', rfl⟩, q⟩
  · simp only [Bool.or_eq_false_iff, decide_eq_false_iff_not]; omega
  · have : ((z.length : Nat) : Int) ≤ (2 ^ 63 - 1) / k := by
      rw [Int.le_ediv_iff_mul_le (by omega)]
      omega
    omega
  · unfold Builtin.Str.tooLong
    exact decide_eq_false (by rw [sizeLine_eq]; omega)
theorem tuple_mul1 (l : Addr) (items : Array Value) (n : Nat) (sl : Array (Option Value)) (dd : Option Addr) (x : Int) (u : Tok) (c0 : (decide (x < -(2 ^ 63)) || decide (x ≥ 2 ^ 63)) = false) (c1 : (items.isEmpty || x == 1) = true) :
    Meets (Builtin.«tuple.__mul__» ⟨[.ref l, .int x u], []⟩) (fun _ R s => s.heap.get? l = some { cls := .type "tuple", dict := dd, data := .seq items n, slots := sl } ∧ R (.ok (.ret (Value.ref l))) s) :=
  .of_wp fun prog w A R s h => by
    obtain ⟨hp, g, d, tk, os⟩ := s
    obtain ⟨hl, h⟩ := h
    have f1 := AutoSeq1.idx_int
    wp_walk using wpAny_loadPart' hl
    repeat (first
      | (refine wpAny_ite_false (decide_eq_false (by rw [c0]; exact Bool.false_ne_true)) ?_; wp_walk using wpAny_loadPart' hl)
      | (refine wpAny_ite_true (decide_eq_true c1) ?_; wp_walk using wpAny_loadPart' hl))
    exact ⟨_, rfl, h⟩
theorem tuple_mul0 (l : Addr) (items : Array Value) (n : Nat) (sl : Array (Option Value)) (dd : Option Addr) (x : Int) (u : Tok) (c0 : (decide (x < -(2 ^ 63)) || decide (x ≥ 2 ^ 63)) = false) (c1 : (items.isEmpty || x == 1) = false) (c2 : (decide (x ≤ 0) || items.isEmpty) = true) :
    Meets (Builtin.«tuple.__mul__» ⟨[.ref l, .int x u], []⟩) (fun _ R s => s.heap.get? l = some { cls := .type "tuple", dict := dd, data := .seq items n, slots := sl } ∧
      R (.ok (.ret (Value.ref s.heap.objs.size))) { s with heap := s.heap.push { cls := Value.type "tuple", data := Data.seq #[] }, toks := s.toks }) :=
  .of_wp fun prog w A R s h => by
    obtain ⟨hp, g, d, tk, os⟩ := s
    obtain ⟨hl, h⟩ := h
    have f1 := AutoSeq1.idx_int
    wp_walk using wpAny_loadPart' hl
    repeat (first
      | (refine wpAny_ite_false (decide_eq_false (by rw [c0]; exact Bool.false_ne_true)) ?_; wp_walk using wpAny_loadPart' hl)
      | (refine wpAny_ite_false (decide_eq_false (by rw [c1]; exact Bool.false_ne_true)) ?_; wp_walk using wpAny_loadPart' hl)
      | (refine wpAny_ite_true (decide_eq_true c2) ?_; wp_walk using wpAny_loadPart' hl))
    exact ⟨_, rfl, h⟩
/-- tuple * int: the same one, or none -/
def rRepN (K : PySem.W.Frag) : R2 := fun x y H Q => ∃ l k xs, x = .ref l ∧ y = .int k ∧ SqT K H l xs ∧ -1000000 ≤ k ∧ k ≤ 1000000 ∧ ((xs = [] ∨ k = 1) ∧ Q (.ref l) H ∨ xs ≠ [] ∧ k ≤ 0 ∧ ∀ p, H p = none → Q (.ref p) (upd H p (.tup [])))
theorem op_repN {X : Cx} : OpR X (binaryOp .Mult) (rRepN X.K) := by
  intro pins s σ H x y v u Q I rx ry h
  obtain ⟨l, k, xs, rfl, rfl, hT, h1, h2, hq⟩ := h
  cases rx
  obtain ⟨t, rfl⟩ := ry
  obtain ⟨its, r, ⟨⟨cls, dd, data, sl⟩, ho, hc, n, hd⟩, hs⟩ := I.tuple hT
  simp only at hc hd
  subst hc hd
  have hle : its.length = xs.length := r.length.symm
  have d0 : (decide (k < -(2 ^ 63)) || decide (k ≥ 2 ^ 63)) = false := by
    simp only [Bool.or_eq_false_iff, decide_eq_false_iff_not]; omega
  have go : ∀ {Q' : Value → Shared → Prop}, wpAny (model X.prog X.w) X.A (call (.builtin "tuple.__mul__") [.ref l, .int k t]) Q' X.xe s → True := fun _ => trivial
  rcases hq with ⟨hc, q⟩ | ⟨hne, hk, q⟩
  · have d1 : (its.toArray.isEmpty || k == 1) = true := by
      rcases hc with rfl | rfl
      · have : its = [] := List.eq_nil_of_length_eq_zero (by simpa using hle)
        subst this
        rfl
      · simp
    refine wpAny_binaryOp_repeat_ref (T := "tuple") (U := "int") (by decide) ⟨_, ho, rfl⟩ (fun s' => typeIs_int s' k t) noFill_tuple_mul PySem.F.fills_int_mul PySem.F.slot_int_rmul repeat_tuple PySem.F.slot_int_index.lookup
      (call_meets PySem.F.slot_int_rmul (typeIs_int s k t) PySem.F.entry_int_rmul (PySem.F.args_int_rmul_2 _ _) (int_rmul_tuple k t l its.toArray n dd sl) ⟨ho, rfl, ⟨_, ho, rfl⟩, call_meets PySem.F.slot_tuple_mul ⟨_, ho, rfl⟩ PySem.F.entry_tuple_mul (PySem.F.args_tuple_mul_2 _ _) (tuple_mul1 l its.toArray n sl dd k t d0 d1) ⟨ho, ?_⟩⟩)
    exact ⟨.ref l, H, I, rfl, q⟩
  · have hi : its.toArray.isEmpty = false := by
      cases its with
      | nil => exact absurd (List.eq_nil_of_length_eq_zero hle.symm) hne
      | cons a b => rfl
    have d1 : (its.toArray.isEmpty || k == 1) = false := by
      rw [hi, Bool.false_or]; exact beq_eq_false_iff_ne.mpr (by omega)
    have d2 : (decide (k ≤ 0) || its.toArray.isEmpty) = true := by
      rw [decide_eq_true hk]; rfl
    refine wpAny_binaryOp_repeat_ref (T := "tuple") (U := "int") (by decide) ⟨_, ho, rfl⟩ (fun s' => typeIs_int s' k t) noFill_tuple_mul PySem.F.fills_int_mul PySem.F.slot_int_rmul repeat_tuple PySem.F.slot_int_index.lookup
      (call_meets PySem.F.slot_int_rmul (typeIs_int s k t) PySem.F.entry_int_rmul (PySem.F.args_int_rmul_2 _ _) (int_rmul_tuple k t l its.toArray n dd sl) ⟨ho, rfl, ⟨_, ho, rfl⟩, call_meets PySem.F.slot_tuple_mul ⟨_, ho, rfl⟩ PySem.F.entry_tuple_mul (PySem.F.args_tuple_mul_2 _ _) (tuple_mul0 l its.toArray n sl dd k t d0 d1 d2) ⟨ho, ?_⟩⟩)
    have ok : ObjOk X.prog X.w H (s.heap.push { cls := .type "tuple", data := .seq #[] }) s.heap.objs.size (.tup []) :=
      ⟨Nat.zero_le _, [], .nil, PyProof.Rows.IsTup.new _ _⟩
    exact ⟨.ref s.heap.objs.size, _, I.laid (t' := s.toks) (o := .tup []) (fun b ob q => Heap.get?_push_of_some _ q) (Nat.le_refl _) ok, rfl, q _ (I.hok.fresh (Nat.le_refl _))⟩
/-- "" * int -/
def rRepE : R2 := fun x y H Q => ∃ (z : Str) (k : Int), x = .str z ∧ y = .int k ∧ z.length = 0 ∧ 2 ≤ k ∧ k ≤ 1000000 ∧ Q (.str z) H
theorem op_repE {X : Cx} : OpR X (binaryOp .Mult) rRepE := by
  intro pins s σ H x y v u Q I rx ry h
  obtain ⟨z, k, rfl, rfl, h0, h1, h2, q⟩ := h
  obtain ⟨t, rfl⟩ := rx
  obtain ⟨t2, rfl⟩ := ry
  have e2 : (z.length == 0) = true := by rw [h0]; rfl
  refine PySem.SB.mul ⟨?_, fun _ h => ?_, fun _ h => ?_⟩ fun t' tk => ⟨.str _, H, I.tok _, ⟨t', rfl⟩, ?_⟩
  · simp only [Bool.or_eq_false_iff, decide_eq_false_iff_not]; omega
  · rw [e2, Bool.or_true] at h; cases h
  · rw [e2, Bool.or_true] at h; cases h
  · unfold Txt.mul
    rw [if_neg (by omega), if_pos (by rw [e2, Bool.or_true])]
    exact q
def rMul (K : PySem.W.Frag) : R2 := fun x y H Q => (rI CMul fun i j => .int (i * j)) x y H Q ∨ rRepU K x y H Q ∨ rRepS x y H Q ∨ rRep x y H Q ∨ rRepN K x y H Q ∨ rRepE x y H Q
theorem or_mul {X : Cx} : OpR X (binaryOp .Mult) (rMul X.K) := op_mul.or (op_repU.or (op_repS.or (op_rep.or (op_repN.or op_repE))))
theorem big_eq : (2 : Int) ^ 64 = big := by decide
theorem two_mul : Two K opMul (rMul K) := by
  intro ρ H st x y v u Q F _ S rx ry h
  unfold opMul at h
  split at h
  · cases rx; cases ry
    split at h
    · rename_i hc
      refine .inl ⟨_, _, rfl, rfl, ?_, h _ _ _ Wle.refl S (.int _)⟩
      unfold CMul
      rw [big_eq]
      exact hc
    · exact h.elim
  · obtain ⟨a, vs, rfl, ha, ra⟩ := rx.tup_inv
    cases ry
    split at h
    · rename_i hc
      have hl := ra.length
      refine .inr (.inl ⟨a, _, vs, rfl, rfl, ha, ?_, hc.2.1, hc.2.2.1, by rw [← hl, ← line_eq]; exact hc.2.2.2, fun p hp => newT_post S (ra.replicate _) h hp⟩)
      intro e
      subst e
      exact hc.1 (List.length_eq_zero_iff.mp hl)
    · split at h
      · rename_i hc
        have hl := ra.length
        refine .inr (.inr (.inr (.inr (.inl ⟨a, _, vs, rfl, rfl, ha, hc.2.1, hc.2.2, .inl ⟨?_, h _ _ _ Wle.refl S (.tup ha ra)⟩⟩))))
        rcases hc.1 with e | e
        · subst e; exact .inl (List.length_eq_zero_iff.mp hl.symm)
        · exact .inr e
      · split at h
        · rename_i hc
          have hl := ra.length
          refine .inr (.inr (.inr (.inr (.inl ⟨a, _, vs, rfl, rfl, ha, hc.2.1, by omega, .inr ⟨?_, hc.2.2, fun p hp => newT_post S .nil h hp⟩⟩))))
          intro e
          subst e
          exact hc.1 (List.length_eq_zero_iff.mp hl)
        · exact h.elim
  · cases rx.str_inv
    cases ry
    split at h
    · rename_i z k _ hc
      have hl : (⟨z.toArray⟩ : Str).length = z.length := by simp [Str.length]
      have h0 : (⟨z.toArray⟩ : Str).length ≠ 0 := by
        rw [hl]
        exact fun e => hc.1 (List.eq_nil_of_length_eq_zero e)
      refine .inr (.inr (.inl ⟨_, _, rfl, rfl, h0, hc.2.1, hc.2.2.1, by rw [hl, ← line_eq]; exact hc.2.2.2, h _ _ _ Wle.refl S (.str' ?_)⟩))
      rw [txt_mul h0 hc.2.1]
    · split at h
      · rename_i hc
        obtain ⟨rfl, h2, h3⟩ := hc
        exact .inr (.inr (.inr (.inr (.inr ⟨_, _, rfl, rfl, rfl, h2, h3, h _ _ _ Wle.refl S (.str' rfl)⟩))))
      · exact h.elim
  · obtain ⟨a, rfl, ea⟩ := rx.obj_inv
    cases ry
    split at h
    · rename_i xs hi
      obtain ⟨_, ea', vs, ha, ra⟩ := S.get hi
      rw [ea] at ea'; cases ea'
      split at h
      · rename_i hl
        refine .inr (.inr (.inr (.inl ⟨a, _, vs, rfl, rfl, ha, by omega, by omega, by rw [← line_eq, ← ra.length]; exact hl.2.1, fun p hp => newL_post S (ra.replicate _) h hp⟩)))
      · exact h.elim
    · exact h.elim
  · exact h.elim
def kSub : D → D → Sto → R D := bin .sub
theorem two_sub : Two K (bin .sub) (rI0 fun i j => .int (i - j)) := by
  intro ρ H st x y v u Q F _ S rx ry h
  show ∃ i j, _
  simp only [bin] at h
  split at h
  · cases rx; cases ry
    exact ⟨_, _, rfl, rfl, h _ _ _ Wle.refl S (.int _)⟩
  · exact h.elim
theorem two_div : Two K (bin .div) (rI CDivW fun i j => .int (i / j)) := by
  intro ρ H st x y v u Q F _ S rx ry h
  simp only [bin] at h
  split at h
  · cases rx; cases ry
    split at h
    · rename_i hc
      refine ⟨_, _, rfl, rfl, ?_, h _ _ _ Wle.refl S (.int _)⟩
      refine wide_div (b := 64) hc.1 ?_ (by decide) (by decide)
      have := hc.2
      unfold big at this
      omega
    · exact h.elim
  · exact h.elim
theorem two_mod : Two K (bin .mod) (rI (fun _ j => 0 < j) fun i j => .int (i % j)) := by
  intro ρ H st x y v u Q F _ S rx ry h
  simp only [bin] at h
  split at h
  · cases rx; cases ry
    split at h
    · rename_i hc
      exact ⟨_, _, rfl, rfl, hc, h _ _ _ Wle.refl S (.int _)⟩
    · exact h.elim
  · exact h.elim
theorem two_pow : Two K (bin .pow) (rI CPow fun i j => .int (i ^ j.toNat)) := by
  intro ρ H st x y v u Q F _ S rx ry h
  simp only [bin] at h
  split at h
  · cases rx; cases ry
    split at h
    · rename_i hc
      refine ⟨_, _, rfl, rfl, ⟨hc.1, hc.2.1, ?_⟩, h _ _ _ Wle.refl S (.int _)⟩
      have := hc.2.2
      omega
    · exact h.elim
  · exact h.elim

/-! ### comparisons -/
theorem pd_Dp (S : SR K ρ st H) : ∀ (n : Nat) (d : D) (v : V) (q : PyData), RD K ρ H d v → pd st n d = some q → SeqAt.shaped q = true → Dp K H v q := by
  have strk : ∀ (q : PyData), SeqAt.shaped q = true → PyData.canLay0 q = true := fun q h => by
    unfold SeqAt.shaped at h
    simp only [Bool.and_eq_true] at h
    exact h.1
  suffices hh : ∀ (n : Nat) (d : D) (v : V) (q : PyData), RD K ρ H d v → pd st n d = some q → PyData.canLay0 q = true → Dp K H v q from fun n d v q r e s => hh n d v q r e (strk q s)
  intro n
  induction n with
  | zero => intro d v q r e; cases e
  | succ n ih =>
    have all : ∀ (ds : List D) (vs : List V) (qs : List PyData), RDs K ρ H ds vs → optAll (pd st n) ds = some qs → PyData.canLayAll0 qs = true → DpAll K H vs qs := by
      intro ds
      induction ds with
      | nil => intro vs qs r e _; cases r; cases e; exact .nil
      | cons d ds ihs =>
        intro vs qs r e hl
        cases r with
        | cons r1 r2 =>
          unfold optAll at e
          split at e
          · rename_i y ys e1 e2
            cases e
            simp only [PyData.canLayAll0, Bool.and_eq_true] at hl
            exact .cons (ih d _ y r1 e1 hl.1) (ihs _ ys r2 e2 hl.2)
          · cases e
    intro d v q r e hl
    unfold pd at e
    cases d with
    | non => cases r; cases e; exact .non
    | bl b => cases r; cases e; exact .bl _
    | int b => cases r; cases e; exact .int _
    | str b => cases r.str_inv; cases e; exact .str _
    | tup xs =>
      obtain ⟨a, vs, rfl, ha, ra⟩ := r.tup_inv
      simp only [Option.map_eq_some_iff] at e
      obtain ⟨qs, e, rfl⟩ := e
      exact .tup ha (all xs vs qs ra e (by simpa [PyData.canLay0] using hl))
    | kl xs =>
      obtain ⟨a, vs, rfl, ha, ra⟩ := r.kl_inv
      simp only [Option.map_eq_some_iff] at e
      obtain ⟨qs, e, rfl⟩ := e
      exact .lst ha.sq (all xs vs qs ra e (by simpa [PyData.canLay0] using hl))
    | obj i =>
      obtain ⟨a, rfl, ea⟩ := r.obj_inv
      simp only at e
      split at e
      · rename_i xs hi
        obtain ⟨_, ea', vs, ha, ra⟩ := S.get hi
        rw [ea] at ea'; cases ea'
        simp only [Option.map_eq_some_iff] at e
        obtain ⟨qs, e, rfl⟩ := e
        exact .lst (SqL.of ha) (all xs vs qs ra e (by simpa [PyData.canLay0] using hl))
      · simp only [Option.map_eq_some_iff] at e
        obtain ⟨qs, e, rfl⟩ := e
        simp [PyData.canLay0] at hl
      · cases e
/-- a comparison's answer -/
def TwoB (K : PySem.W.Frag) (f : D → D → Sto → Option Bool) (r : R2) : Prop := ∀ (ρ : List Addr) (H : Hp) (st : Sto) (x y : D) (v u : V) (Q : VK) (b : Bool), SR K ρ st H → RD K ρ H x v → RD K ρ H y u → f x y st = some b → Q (.bl b) H → r v u H Q
theorem two_cmp {o : Cop} {r : R2} (h : TwoB K (fun x y s => cmpO o x y s) r) : Two K (cmp o) r := by
  intro ρ H st x y v u Q F _ S rx ry hq
  unfold cmp at hq
  split at hq
  · rename_i b e
    exact h ρ H st x y v u Q b S rx ry e (hq _ _ _ Wle.refl S (.bl _))
  · exact hq.elim
/-- '==', '!=': strs by their signs, other data by what they are -/
def rEqS : R2 := fun x y H Q => ∃ i j : Str, x = .str i ∧ y = .str j ∧ Q (.bl (i.cps.toList == j.cps.toList)) H
def rNeS : R2 := fun x y H Q => ∃ i j : Str, x = .str i ∧ y = .str j ∧ Q (.bl (!(i.cps.toList == j.cps.toList))) H
theorem op_eqStr {X : Cx} : OpR X (compareOp .Eq) rEqS := by
  rintro pins s σ H x y v u Q I rx ry ⟨i, j, rfl, rfl, q⟩
  obtain ⟨t, rfl⟩ := rx
  obtain ⟨t', rfl⟩ := ry
  exact P.eq_str ⟨.bl _, H, I, rfl, q⟩
theorem op_neStr {X : Cx} : OpR X (compareOp .NotEq) rNeS := by
  rintro pins s σ H x y v u Q I rx ry ⟨i, j, rfl, rfl, q⟩
  obtain ⟨t, rfl⟩ := rx
  obtain ⟨t', rfl⟩ := ry
  exact P.ne_str ⟨.bl _, H, I, rfl, q⟩
/-- lists of unlike lengths -/
def rLen (K : PySem.W.Frag) (b : Bool) : R2 := fun x y H Q => ∃ l r xs ys, x = .ref l ∧ y = .ref r ∧ SqL K H l xs ∧ SqL K H r ys ∧ xs.length ≠ ys.length ∧ Q (.bl b) H
theorem op_eqLen {X : Cx} (hu : X.A.units < cLine) : OpR X (compareOp .Eq) (rLen X.K false) := by
  intro pins s σ H x y v u Q I rx ry h
  obtain ⟨a, b, xs, ys, rfl, rfl, ha, hb, hl, q⟩ := h
  cases rx; cases ry
  obtain ⟨us, r1, p1, _⟩ := I.list ha
  obtain ⟨ws, r2, p2, _⟩ := I.list hb
  refine SeqAt.eq_list_lengthsAt p1.isList p2.isList ?_ hu ⟨.bl _, H, I, rfl, q⟩
  rw [List.size_toArray, List.size_toArray, ← r1.length, ← r2.length]
  exact bne_iff_ne.mpr hl
theorem op_neLen {X : Cx} (hu : X.A.units < cLine) : OpR X (compareOp .NotEq) (rLen X.K true) := by
  intro pins s σ H x y v u Q I rx ry h
  obtain ⟨a, b, xs, ys, rfl, rfl, ha, hb, hl, q⟩ := h
  cases rx; cases ry
  obtain ⟨us, r1, p1, _⟩ := I.list ha
  obtain ⟨ws, r2, p2, _⟩ := I.list hb
  have hsz : (us.toArray.size != ws.toArray.size) = true := by
    rw [List.size_toArray, List.size_toArray, ← r1.length, ← r2.length]
    exact bne_iff_ne.mpr hl
  obtain ⟨⟨cls, dd, data, sl⟩, ho, hc, n, hd⟩ := id p1.isList
  obtain ⟨⟨cls2, dd2, data2, sl2⟩, ho2, hc2, n2, hd2⟩ := id p2.isList
  simp only at hc hd hc2 hd2
  subst hc hd hc2 hd2
  exact richCompare_meets_room (op := .NotEq) ⟨_, ho, rfl⟩ ⟨_, ho2, rfl⟩ PySem.F.slot_list_ne PySem.F.entry_list_ne (PySem.F.args_list_ne_2 _ _) (SeqAt.list_ne_lengthsAt a b _ _ n n2 dd dd2 sl sl2 hsz)
    ⟨ho, ho2, show Value.bool true ≠ Value.notImplemented ∧ _ from ⟨(fun x => nomatch x), ⟨.bl _, H, I, rfl, q⟩⟩⟩ hu
/-- tuples, one of them of nothing -/
def rTup0 (K : PySem.W.Frag) (f : Bool → Bool) : R2 := fun x y H Q => ∃ l r xs ys, x = .ref l ∧ y = .ref r ∧ SqT K H l xs ∧ SqT K H r ys ∧ (xs.isEmpty || ys.isEmpty) = true ∧ Q (.bl (f (xs.isEmpty && ys.isEmpty))) H
theorem tup0_key {us ws : List Value} {xs ys : List V} (h1 : xs.length = us.length) (h2 : ys.length = ws.length) (h : (xs.isEmpty || ys.isEmpty) = true) : ((List.range (min us.toArray.size ws.toArray.size)).all (fun _ => true) && us.toArray.size == ws.toArray.size) = (xs.isEmpty && ys.isEmpty) := by
  rw [List.size_toArray, List.size_toArray, ← h1, ← h2]
  cases xs with
  | nil => cases ys with
    | nil => simp
    | cons y ys => simp
  | cons x xs => cases ys with
    | nil => simp
    | cons y ys => simp at h
theorem tup0_none {us ws : List Value} {xs ys : List V} (h1 : xs.length = us.length) (h2 : ys.length = ws.length) (h : (xs.isEmpty || ys.isEmpty) = true) (j : Nat) (a : j < us.toArray.size) (b : j < ws.toArray.size) : False := by
  rw [List.size_toArray] at a b
  cases xs with
  | nil => simp at h1; omega
  | cons x xs => cases ys with
    | nil => simp at h2; omega
    | cons y ys => simp at h
theorem op_eqTup0 {X : Cx} (hu : X.A.units < cLine) : OpR X (compareOp .Eq) (rTup0 X.K id) := by
  intro pins s σ H x y v u Q I rx ry h
  obtain ⟨a, b, xs, ys, rfl, rfl, ha, hb, hl, q⟩ := h
  cases rx; cases ry
  obtain ⟨us, r1, p1, _⟩ := I.tuple ha
  obtain ⟨ws, r2, p2, _⟩ := I.tuple hb
  refine SeqAt.eq_tupleAt (e := fun _ => true) (show s.heap.IsTuple a us.toArray from p1) (show s.heap.IsTuple b ws.toArray from p2) hu (fun j h1 h2 => (tup0_none r1.length r2.length hl j h1 h2).elim) ?_
  rw [tup0_key r1.length r2.length hl]
  exact ⟨.bl _, H, I, rfl, q⟩
theorem op_neTup0 {X : Cx} (hu : X.A.units < cLine) : OpR X (compareOp .NotEq) (rTup0 X.K (!·)) := by
  intro pins s σ H x y v u Q I rx ry h
  obtain ⟨a, b, xs, ys, rfl, rfl, ha, hb, hl, q⟩ := h
  cases rx; cases ry
  obtain ⟨us, r1, p1, _⟩ := I.tuple ha
  obtain ⟨ws, r2, p2, _⟩ := I.tuple hb
  refine SeqAt.RcNeAt.tuples (e := fun _ => true) (show s.heap.IsTuple a us.toArray from p1) (show s.heap.IsTuple b ws.toArray from p2) hu (fun j h1 h2 => (tup0_none r1.length r2.length hl j h1 h2).elim) _ _ _ _ ?_
  rw [tup0_key r1.length r2.length hl]
  exact ⟨.bl _, H, I, rfl, q⟩
def rEqZ (K : PySem.W.Frag) : R2 := fun x y H Q => rEqS x y H Q ∨ rLen K false x y H Q ∨ rTup0 K id x y H Q ∨ rEqD K x y H Q
def rNeZ (K : PySem.W.Frag) : R2 := fun x y H Q => rNeS x y H Q ∨ rLen K true x y H Q ∨ rTup0 K (!·) x y H Q ∨ rNeD K x y H Q
theorem op_eqZ {X : Cx} (hu : X.A.units + 64 < cLine) : OpR X (compareOp .Eq) (rEqZ X.K) := op_eqStr.or ((op_eqLen (by omega)).or ((op_eqTup0 (by omega)).or (op_eqD hu)))
theorem op_neZ {X : Cx} (hu : X.A.units + 64 < cLine) : OpR X (compareOp .NotEq) (rNeZ X.K) := op_neStr.or ((op_neLen (by omega)).or ((op_neTup0 (by omega)).or (op_neD hu)))
theorem lst_SqL {st : Sto} (S : SR K ρ st H) {x : D} {xs : List D} {v : V} (r : RD K ρ H x v) (h : lst? st x = some xs) : ∃ a vs, v = .ref a ∧ SqL K H a vs ∧ xs.length = vs.length := by
  unfold lst? at h
  split at h
  · cases h
    obtain ⟨a, vs, rfl, ha, ra⟩ := r.kl_inv
    exact ⟨a, vs, rfl, ha.sq, ra.length⟩
  · obtain ⟨a, rfl, ea⟩ := r.obj_inv
    split at h
    · rename_i hi
      cases h
      obtain ⟨_, ea', vs, ha, ra⟩ := S.get hi
      rw [ea] at ea'; cases ea'
      exact ⟨a, vs, rfl, SqL.of ha, ra.length⟩
    · cases h
  · cases h
theorem lenNe_SqL {st : Sto} (S : SR K ρ st H) {x y : D} {v u : V} (rx : RD K ρ H x v) (ry : RD K ρ H y u) (h : lenNe st x y = true) : ∃ l r xs ys, v = .ref l ∧ u = .ref r ∧ SqL K H l xs ∧ SqL K H r ys ∧ xs.length ≠ ys.length := by
  unfold lenNe at h
  split at h
  · rename_i e1 e2
    obtain ⟨a, vs, rfl, ha, la⟩ := lst_SqL S rx e1
    obtain ⟨b, ws, rfl, hb, lb⟩ := lst_SqL S ry e2
    exact ⟨a, b, vs, ws, rfl, rfl, ha, hb, by rw [← la, ← lb]; exact bne_iff_ne.mp h⟩
  · cases h
theorem isEmpty_len {α β : Type} {xs : List α} {ys : List β} (h : xs.length = ys.length) : xs.isEmpty = ys.isEmpty := by
  cases xs <;> cases ys <;> simp_all
theorem b_eq : TwoB K (fun x y s => cmpO .eq x y s) (rEqZ K) := by
  intro ρ H st x y v u Q b S rx ry e q
  simp only [cmpO, eqD] at e
  split at e
  · cases rx; cases ry; cases e
    exact Or.inl ⟨_, _, rfl, rfl, q⟩
  · rename_i xs ys
    split at e
    · rename_i hl0
      obtain ⟨a, vs, rfl, ha, ra⟩ := rx.tup_inv
      obtain ⟨b, ws, rfl, hb, rb⟩ := ry.tup_inv
      have e1 : xs.isEmpty = vs.isEmpty := isEmpty_len ra.length
      have e2 : ys.isEmpty = ws.isEmpty := isEmpty_len rb.length
      rw [e1, e2] at hl0 e
      cases e
      exact Or.inr (Or.inr (Or.inl ⟨a, b, vs, ws, rfl, rfl, ha, hb, hl0, q⟩))
    · unfold eqP at e
      split at e
      · rename_i p1 p2 e1 e2
        split at e
        · rename_i hs
          cases e
          exact Or.inr (Or.inr (Or.inr ⟨p1, p2, pd_Dp S _ _ _ _ rx e1 hs.1, pd_Dp S _ _ _ _ ry e2 hs.2, hs.1, hs.2, q⟩))
        · cases e
      · cases e
  · split at e
    · rename_i hln
      cases e
      obtain ⟨l, r, xs, ys, rfl, rfl, h1, h2, h3⟩ := lenNe_SqL S rx ry hln
      exact Or.inr (Or.inl ⟨l, r, xs, ys, rfl, rfl, h1, h2, h3, q⟩)
    · unfold eqP at e
      split at e
      · rename_i p1 p2 e1 e2
        split at e
        · rename_i hs
          cases e
          exact Or.inr (Or.inr (Or.inr ⟨p1, p2, pd_Dp S _ _ _ _ rx e1 hs.1, pd_Dp S _ _ _ _ ry e2 hs.2, hs.1, hs.2, q⟩))
        · cases e
      · cases e
theorem b_ne : TwoB K (fun x y s => cmpO .ne x y s) (rNeZ K) := by
  intro ρ H st x y v u Q b S rx ry e q
  simp only [cmpO, eqD, Option.map_eq_some_iff] at e
  obtain ⟨c, e, rfl⟩ := e
  split at e
  · cases rx; cases ry; cases e
    exact Or.inl ⟨_, _, rfl, rfl, q⟩
  · rename_i xs ys
    split at e
    · rename_i hl0
      obtain ⟨a, vs, rfl, ha, ra⟩ := rx.tup_inv
      obtain ⟨b, ws, rfl, hb, rb⟩ := ry.tup_inv
      have e1 : xs.isEmpty = vs.isEmpty := isEmpty_len ra.length
      have e2 : ys.isEmpty = ws.isEmpty := isEmpty_len rb.length
      rw [e1, e2] at hl0 e
      cases e
      exact Or.inr (Or.inr (Or.inl ⟨a, b, vs, ws, rfl, rfl, ha, hb, hl0, q⟩))
    · unfold eqP at e
      split at e
      · rename_i p1 p2 e1 e2
        split at e
        · rename_i hs
          cases e
          exact Or.inr (Or.inr (Or.inr ⟨p1, p2, pd_Dp S _ _ _ _ rx e1 hs.1, pd_Dp S _ _ _ _ ry e2 hs.2, hs.1, hs.2, q⟩))
        · cases e
      · cases e
  · split at e
    · rename_i hln
      cases e
      obtain ⟨l, r, xs, ys, rfl, rfl, h1, h2, h3⟩ := lenNe_SqL S rx ry hln
      exact Or.inr (Or.inl ⟨l, r, xs, ys, rfl, rfl, h1, h2, h3, q⟩)
    · unfold eqP at e
      split at e
      · rename_i p1 p2 e1 e2
        split at e
        · rename_i hs
          cases e
          exact Or.inr (Or.inr (Or.inr ⟨p1, p2, pd_Dp S _ _ _ _ rx e1 hs.1, pd_Dp S _ _ _ _ ry e2 hs.2, hs.1, hs.2, q⟩))
        · cases e
      · cases e
theorem b_lt {f : Int → Int → Bool} {o : Cop} (ho : ∀ x y s, cmpO o x y s = opLt f x y) : TwoB K (fun x y s => cmpO o x y s) (rI0 fun i j => .bl (f i j)) := by
  intro ρ H st x y v u Q b S rx ry e q
  simp only [ho] at e
  unfold opLt at e
  split at e
  · cases rx; cases ry; cases e
    exact ⟨_, _, rfl, rfl, q⟩
  · cases e

/-! ### in -/
theorem flat_of {x : D} (r : RD K ρ H d v) (h : flatD d = true) : flatV v = true := by
  cases r <;> first | rfl | (simp [flatD] at h)
theorem flat_all (r : RDs K ρ H ds vs) (h : ds.all flatD = true) : vs.all flatV = true := by
  induction ds generalizing vs with
  | nil => cases r; rfl
  | cons d ds ih =>
    cases r with
    | cons r1 r2 =>
      simp only [List.all_cons, Bool.and_eq_true] at h ⊢
      exact ⟨flat_of (x := d) r1 h.1, ih r2 h.2⟩
theorem str_beq (a b : List Nat) : ((⟨a.toArray⟩ : Str) == ⟨b.toArray⟩) = (a == b) := by
  rw [Bool.eq_iff_iff, beq_iff_eq, beq_iff_eq]
  constructor
  · intro h; injection h with h; simpa using congrArg Array.toList h
  · rintro rfl; rfl
theorem eqF_V {e : D} (r : RD K ρ H d v) (q : RD K ρ H e u) (h : flatD d = true) (h' : flatD e = true) : eqV v u = eqF d e := by
  cases d <;> simp [flatD] at h <;> cases e <;> simp [flatD] at h' <;>
    first
    | (cases r.str_inv; cases q.str_inv; exact str_beq _ _)
    | (cases r; cases q; rfl)
theorem inF_V (r : RD K ρ H d v) (q : RDs K ρ H ds vs) (h : flatD d = true) (h' : ds.all flatD = true) : inV v vs = inF d ds := by
  unfold inV inF
  induction ds generalizing vs with
  | nil => cases q; rfl
  | cons e ds ih =>
    cases q with
    | cons q1 q2 =>
      simp only [List.all_cons, Bool.and_eq_true] at h'
      simp only [List.any_cons]
      rw [ih q2 h'.2, eqF_V q1 r h'.1 h]
theorem key_V {x : D} {k : Ky} (r : RD K ρ H x v) (h : x.key = some k) : v = kV (keyOf k) := by
  cases x <;> simp [D.key] at h <;> subst h
  · cases r; rfl
  · cases r.str_inv; rfl
theorem look_V {kvs : List (Ky × D)} {ws : List (Key × V)} (r : RKs K ρ H kvs ws) (k : Ky) : (∀ d, lookK kvs k = some d → ∃ v, valV ws (keyOf k) = some v ∧ RD K ρ H d v) ∧ (lookK kvs k = none → valV ws (keyOf k) = none) := by
  induction r with
  | nil => exact ⟨fun d e => (by cases e), fun _ => rfl⟩
  | @cons k2 d v ds vs r1 r2 ih =>
    by_cases e : k2 = k
    · subst e
      have a1 : lookK ((k2, d) :: ds) k2 = some d := by simp [lookK]
      refine ⟨fun d' h => ?_, fun h => ?_⟩
      · rw [a1] at h; cases h
        exact ⟨v, valV_pos rfl, r1⟩
      · rw [a1] at h; cases h
    · have e' : ¬ keyOf k2 = keyOf k := fun q => e (keyOf_inj q)
      have a1 : lookK ((k2, d) :: ds) k = lookK ds k := by simp [lookK, List.find?_cons, e]
      rw [a1, valV_neg e']
      exact ih
def kk : ∀ k : Ky, Key := keyOf
/-- in, of all kinds; n: not -/
def rInA (K : PySem.W.Frag) (n : Bool) : R2 := fun x y H Q => rIn K n x y H Q ∨ (∃ (c : Nat) (z : Str), x = .str ⟨#[c]⟩ ∧ y = .str z ∧ Q (.bl (if n then !decide (c ∈ z.cps.toList) else decide (c ∈ z.cps.toList))) H) ∨
  (∃ a o, y = .ref a ∧ DGet H a x o ∧ Q (.bl (if n then !o.isSome else o.isSome)) H)
theorem op_din {X : Cx} (hu : X.A.units + 1 < cLine) : OpR X (compareOp .In) (fun x y H Q => ∃ a o, y = .ref a ∧ DGet H a x o ∧ Q (.bl o.isSome) H) := by
  intro pins s σ H x y v u Q I rx ry h
  obtain ⟨a, o, rfl, g, q⟩ := h
  cases ry
  exact d_in hu I g rx fun s' I' => ⟨.bl _, H, I', rfl, q⟩
theorem op_dnotin {X : Cx} (hu : X.A.units + 1 < cLine) : OpR X (compareOp .NotIn) (fun x y H Q => ∃ a o, y = .ref a ∧ DGet H a x o ∧ Q (.bl (!o.isSome)) H) := by
  intro pins s σ H x y v u Q I rx ry h
  obtain ⟨a, o, rfl, g, q⟩ := h
  cases ry
  exact d_notIn hu I g rx fun s' I' => ⟨.bl _, H, I', rfl, q⟩
theorem or_in {X : Cx} (hu : X.A.units + 1 < cLine) : OpR X (compareOp .In) (rInA X.K false) := op_in_seq.or (op_in_sign.or (op_din hu))
theorem or_nin {X : Cx} (hu : X.A.units + 1 < cLine) : OpR X (compareOp .NotIn) (rInA X.K true) := op_notIn_seq.or (op_notIn_sign.or (op_dnotin hu))
theorem in_any {x y : D} {b n : Bool} (S : SR K ρ st H) (rx : RD K ρ H x v) (ry : RD K ρ H y u) (e : opIn x y st = some b) (q : Q (.bl (if n then !b else b)) H) : rInA K n v u H Q := by
  unfold opIn at e
  split at e
  · split at e
    · rename_i c
      cases rx.str_inv; cases ry.str_inv
      cases e
      exact .inr (.inl ⟨_, _, rfl, rfl, by simpa using q⟩)
    · cases e
  · obtain ⟨a, vs, rfl, ha, ra⟩ := ry.tup_inv
    split at e
    · rename_i hf
      cases e
      exact .inl ⟨a, vs, rfl, .inr ha, flat_of (x := x) rx hf.1, flat_all ra hf.2, by rw [inF_V rx ra hf.1 hf.2]; exact q⟩
    · cases e
  · obtain ⟨a, vs, rfl, ha, ra⟩ := ry.kl_inv
    split at e
    · rename_i hf
      cases e
      exact .inl ⟨a, vs, rfl, .inl ha.sq, flat_of (x := x) rx hf.1, flat_all ra hf.2, by rw [inF_V rx ra hf.1 hf.2]; exact q⟩
    · cases e
  · obtain ⟨a, rfl, ea⟩ := ry.obj_inv
    split at e
    · rename_i ys hi
      obtain ⟨_, ea', vs, ha, ra⟩ := S.get hi
      rw [ea] at ea'; cases ea'
      split at e
      · rename_i hf
        cases e
        exact .inl ⟨a, vs, rfl, .inl (SqL.of ha), flat_of (x := x) rx hf.1, flat_all ra hf.2, by rw [inF_V rx ra hf.1 hf.2]; exact q⟩
      · cases e
    · rename_i kvs hi
      obtain ⟨_, ea', ws, ha, ra⟩ := S.get hi
      rw [ea] at ea'; cases ea'
      split at e
      · rename_i k hk
        cases e
        obtain ⟨g1, g2⟩ := look_V ra k
        cases key_V rx hk
        refine .inr (.inr ⟨a, valV ws (keyOf k), rfl, DGet.k ha, ?_⟩)
        cases hl : lookK kvs k with
        | none => rw [g2 hl]; rw [hl] at q; exact q
        | some d => obtain ⟨w, e1, _⟩ := g1 d hl; rw [e1]; rw [hl] at q; exact q
      · cases e
    · cases e
  · cases e
theorem b_in : TwoB K (fun x y s => cmpO .mem x y s) (rInA K false) := by
  intro ρ H st x y v u Q b S rx ry e q
  exact in_any S rx ry e q
theorem b_nin : TwoB K (fun x y s => cmpO .nmem x y s) (rInA K true) := by
  intro ρ H st x y v u Q b S rx ry e q
  simp only [cmpO, Option.map_eq_some_iff] at e
  obtain ⟨c, e, rfl⟩ := e
  exact in_any S rx ry e q
/-! ### is -/
def rIs (n : Bool) : R2 := fun x y H Q => (y = .non ∧ Q (.bl (if n then !decide (x = .non) else decide (x = .non))) H) ∨ ∃ a b : Bool, x = .bl a ∧ y = .bl b ∧ Q (.bl (if n then !decide (a = b) else decide (a = b))) H
theorem or_is {X : Cx} : OpR X (compareOp .Is) (rIs false) := op_isN.or op_isBl
theorem or_isn {X : Cx} : OpR X (compareOp .IsNot) (rIs true) := op_notN.or op_notBl
theorem is_any {x y : D} {b n : Bool} (rx : RD K ρ H x v) (ry : RD K ρ H y u) (e : opIs x y = some b) (q : Q (.bl (if n then !b else b)) H) : rIs n v u H Q := by
  unfold opIs at e
  split at e
  · cases ry; cases e
    refine .inl ⟨rfl, ?_⟩
    have : decide (v = .non) = decide (x = D.non) := by
      cases rx <;> simp
    rw [this]; exact q
  · split at e
    · cases rx; cases ry; cases e
      exact .inr ⟨_, _, rfl, rfl, q⟩
    · cases e
  · cases e
theorem b_is : TwoB K (fun x y s => cmpO .is x y s) (rIs false) := fun ρ H st x y v u Q b S rx ry e q => is_any rx ry e q
theorem b_isn : TwoB K (fun x y s => cmpO .isn x y s) (rIs true) := by
  intro ρ H st x y v u Q b S rx ry e q
  simp only [cmpO, Option.map_eq_some_iff] at e
  obtain ⟨c, e, rfl⟩ := e
  exact is_any rx ry e q
end
end Z

/-! ZFn: what a def promises, no repr running around; calls of such. -/
namespace Z
open PySem L2 PySem.Spec PyProof.Rows

/-- as the layer's promise of a def, where no guard runs -/
structure FnG (P : Program) (w : World) (K : PySem.W.Frag) (mg : Str → Option Value) (base : Heap) (CX : CXT) (k : Nat) (f : Addr) (fd : FuncData) (n : Nat) (ps : List Str) (sp : Sp) : Prop where
  len : ∀ vs H Q E, sp vs H Q E → vs.length = ps.length
  go : ∀ (A : Around) (outer : List Env) (s : Shared) (H : Hp) (args : Args) (us : List Value) (vs : List V) (Q : VK) (E : XK), Room k A → A.guards = some [] →
    Env0 P w K mg base A outer s H → BindsTo s fd args (ps.zip us) → Vals vs us → sp vs H Q E → codeAny (model P w) A (.call (.ref f) args) (CR CX outer P w H s Q E) s

section
variable {P : Program} {w : World} {K : PySem.W.Frag} {mg : Str → Option Value} {base : Heap} {CX : CXT} {k n : Nat} {f : Addr} {sp : Sp} {N ps : List Str} {qual name : Str}
/-- a def by its body -/
theorem fnG_of {params : Arguments} {body : List Stmt} {scope : Scope} {dV kV doc pm cdv ct oc : Value} {an od : Option Addr} {osl : Array (Option Value)}
    (lk : K.lookup f = some ⟨oc, od, .func (PySem.W.fnOf name qual params body scope dV kV doc pm an cdv ct), osl⟩) (hcd : PySem.W.codeIn K cdv qual = true) (S : FnScope N ps scope)
    (len : ∀ vs H Q E, sp vs H Q E → vs.length = ps.length)
    (body_ok : ∀ (A : Around) (outer : List Env) (s : Shared) (H : Hp) (vs : List V) (Q : VK) (E : XK), Room k (A.deeper (envOfC qual scope s.heap.objs.size f cdv)) → A.guards = some [] → sp vs H Q E →
      ∃ t, PSs (cxOf CX P w K mg base N qual scope f cdv A outer s H E) body t ∧ t { nx := fun _ H' => Q .non H', rt := Q } (start N vs) H) :
    FnG P w K mg base CX (k + 1) f (PySem.W.fnOf name qual params body scope dV kV doc pm an cdv ct) n ps sp := by
  constructor
  · exact len
  · intro A outer s H args us vs Q E room gd en bd vals prom
    have ln := len _ _ _ _ prom
    have keep0 : ∀ b o, base.get? b = some o → s.heap.get? b = some o := fun b o e => (en.bs b o e).1
    have inK : K.In s.heap := en.mod.kin.keeps keep0
    have par : ∀ y ∈ ps.zip us, scope.names.lookup y.1 = some .local ∨ (scope.names.lookup y.1 = some .cell ∧ ((cellsFrom (s.heap.objs.size + 1) scope.names []).lookup y.1).isSome = true) := by
      rintro ⟨n, v⟩ hy
      cases S.par n (List.of_mem_zip hy).1 with
      | inl q => exact .inl q
      | inr q => exact .inr ⟨q, PySem.W.cellsFrom_some _ _ _ (.inl q)⟩
    apply codeAny_call_function room.depth (inK _ _ lk) rfl S.co S.gen rfl (PySem.W.codeRec_of inK hcd)
    apply bd
    apply wpAny_newFunctionEnv_cells S.kind par
    intro env henv s1 inc
    subst henv
    constructor
    · exact (en.mod.nolimit.keeps keep0).keeps inc.toInCall.keep
    · apply codeAny_func
      obtain ⟨t, ht, hq⟩ := body_ok A outer s H vs Q E (room.deeper _) gd prom
      have I := inv_start (CX := CX) (cd := cdv) (qual := qual) (E := E) S room.hd en ln vals inc
      refine wpAny_mono (ht.run [] s1 (start N vs) H _ I hq) ?_ fun e s' hs => hs
      intro fl s' hs
      cases fl with
      | next => obtain ⟨σ', H', J, q⟩ := hs; exact ⟨.non, H', J.os, J.bare, J.base, J.hok, rfl, q⟩
      | brk => obtain ⟨_, _, _, q⟩ := hs; exact q.elim
      | cont => obtain ⟨_, _, _, q⟩ := hs; exact q.elim
      | ret u => obtain ⟨v, σ', H', J, rv, q⟩ := hs; exact ⟨v, H', J.os, J.bare, J.base, J.hok, rv, q⟩

variable {X : Cx} {fd : FuncData} {dvs : List V} {ds : List Value} {E : XK} {x : Str} {p pos : Pos} {e : Expr} {es : List Expr} {t : TA}
/-- the callee runs, its arguments bound as told -/
theorem runG {pins : List (Addr × Obj)} {σ : L2.St} {H : Hp} {s : Shared} {Q : VK} {as : Args} {us : List Value} {vs : List V} (F : FnG X.prog X.w X.K X.mg X.base CX k f fd n ps sp) (hr : Room k X.A) (hg : X.A.guards = some [])
    (hb : BindsTo s fd as (ps.zip us)) (hx : Passes CX X E) (I : Inv X pins σ H s) (r : Vals vs us) (h : sp vs H Q E) : codeAny (model X.prog X.w) X.A (.call (.ref f) as) (fun r s' => match r with
      | .ok (.ret u) => EP X pins σ Q u s'
      | .ok _ => False
      | .error e => X.xe e s') s := by
  refine codeAny_mono (F.go X.A X.stack s H as us vs Q E hr hg I.env0 hb r h) ?_
  intro r s' hq
  match r, hq with
  | .error e, hq => exact hx pins σ H s e s' I hq
  | .ok (.ret u), hq => exact I.after hq
  | .ok .next, hq => exact hq.elim
  | .ok .brk, hq => exact hq.elim
  | .ok .cont, hq => exact hq.elim
theorem runG_call {pins : List (Addr × Obj)} {σ : L2.St} {H : Hp} {s : Shared} {Q : VK} {us : List Value} {vs : List V} (F : FnG X.prog X.w X.K X.mg X.base CX k f fd n ps sp) (hr : Room k X.A) (hg : X.A.guards = some [])
    (hb : Binds X.K fd ps []) (hx : Passes CX X E) (I : Inv X pins σ H s) (r : Vals vs us) (h : sp vs H Q E) : wpAny (model X.prog X.w) X.A (call (.ref f) us) (EP X pins σ Q) X.xe s := by
  have hl : us.length = ps.length := by rw [← r.length]; exact F.len _ _ _ _ h
  have b0 : BindsTo s fd ⟨us, []⟩ (ps.zip us) := by
    have := hb s us I.kIn (by rw [List.append_nil]; exact hl)
    rwa [List.append_nil] at this
  refine wpAny_call (codeAny_mono (runG F hr hg b0 hx I r h) ?_)
  intro r s' hq
  match r, hq with
  | .error e, hq => exact hq
  | .ok (.ret u), hq => exact hq
  | .ok .next, hq => exact hq.elim
  | .ok .brk, hq => exact hq.elim
  | .ok .cont, hq => exact hq.elim
/-- f(e, ..) -/
theorem peG_call (F : FnG X.prog X.w X.K X.mg X.base CX k f fd n ps sp) (hr : Room k X.A) (hgd : X.A.guards = some []) (hg : Gl X x) (hm : X.mg x = some (.ref f)) (hk : PySem.W.keepIn X.K (.ref f) = true) (hb : Binds X.K fd ps []) (hx : Passes CX X E)
    (ha : PA X (e :: es) t) (hdb : (x == ("__debug__" : Str)) = false) (he : starEach (e :: es) X.env = (false, eval e X.env) :: starEach es X.env) (hpl : (backTo pos (starEach es X.env)).any (·.1) = false) :
    PE X (.Call (.Name x p) (e :: es) [] pos) (tCall sp [] E t) := by
  constructor
  intro pins s σ H Q I h
  apply wpAny_Call_Name_kw
  apply ld_glob I hg hm _ hdb
  refine PySem.W.callWith_K (h₀ := X.base) I.ok.mod.kin hk (thn (ha.run pos pins s σ H _ I h) ?_) he hpl
  rintro us s1 ⟨vs, H1, I1, r, q⟩
  rw [List.append_nil] at q
  exact ⟨I1.kIn, runG_call F hr hgd hb hx I1 r q⟩
/-- f(e, .., k = v, ..): what it binds is told behind the arguments -/
theorem peG_callK {ks : List Str} {kws : List Keyword} {tk : TA} (F : FnG X.prog X.w X.K X.mg X.base CX k f fd n ps sp) (hr : Room k X.A) (hgd : X.A.guards = some []) (hg : Gl X x) (hm : X.mg x = some (.ref f)) (hk : PySem.W.keepIn X.K (.ref f) = true) (hx : Passes CX X E)
    (ha : PA X (e :: es) t) (hkw : PK X kws tk) (hall : (backToKw pos (keywordEach kws X.env)).all (·.1.isSome) = true) (hks : (backToKw pos (keywordEach kws X.env)).filterMap (·.1) = ks)
    (hdb : (x == ("__debug__" : Str)) = false) (he : starEach (e :: es) X.env = (false, eval e X.env) :: starEach es X.env) (hpl : ((backTo pos (starEach (e :: es) X.env)).any (·.1) || (backToKw pos (keywordEach kws X.env)).any (·.1.isNone)) = false) :
    PE X (.Call (.Name x p) (e :: es) kws pos) (fun σ H Q => t σ H fun vs H1 => tk σ H1 fun zs H2 => ∃ vs2, (∀ (s : Shared) (us ws : List Value), X.K.In s.heap → Vals vs us → Vals zs ws → ∃ us2, Vals vs2 us2 ∧ BindsTo s fd ⟨us, ks.zip ws⟩ (ps.zip us2)) ∧ sp vs2 H2 Q E) := by
  constructor
  intro pins s σ H Q I h
  refine wpAny_Call_Name_kw (ld_glob I hg hm ?_ hdb)
  refine PySem.W.callWith_KW (h₀ := X.base) I.ok.mod.kin hk hall (thn (ha.run pos pins s σ H _ I h) fun us s1 ⟨vs, H1, I1, r, q⟩ => ?_) hpl he
  refine thn (hkw.run pos pins s1 σ H1 _ I1 q) fun ws s2 ⟨zs, H2, I2, rz, vs2, B, q2⟩ => ⟨I2.kIn, ?_⟩
  rw [hks]
  obtain ⟨us2, r2, b⟩ := B s2 us ws I2.kIn r rz
  refine wpAny_call (codeAny_mono (runG F hr hgd b hx I2 r2 q2) ?_)
  intro r s' hq
  match r, hq with
  | .error e, hq => exact hq
  | .ok (.ret u), hq => exact hq
  | .ok .next, hq => exact hq.elim
  | .ok .brk, hq => exact hq.elim
  | .ok .cont, hq => exact hq.elim
/-- f() -/
theorem peG_call0 (F : FnG X.prog X.w X.K X.mg X.base CX k f fd n ps sp) (hr : Room k X.A) (hgd : X.A.guards = some []) (hg : Gl X x) (hm : X.mg x = some (.ref f)) (hk : PySem.W.keepIn X.K (.ref f) = true) (hb : Binds X.K fd ps []) (hx : Passes CX X E)
    (hdb : (x == ("__debug__" : Str)) = false) : PE X (.Call (.Name x p) [] [] pos) (tCall sp [] E tNil) := by
  constructor
  intro pins s σ H Q I h
  apply wpAny_Call_Name_kw
  apply ld_glob I hg hm _ hdb
  exact PySem.W.callWith_K0 I.kIn hk (runG_call (us := []) F hr hgd hb hx I .nil h)
end

/-- the law's own call -/
theorem lawG {P : Program} {w : World} {K : PySem.W.Frag} {mg mb : Str → Option Value} {CX : CXT} {k n : Nat} {fa a : Addr} {fd : FuncData} {x : Str} {sp : Sp} {s₁ : Shared} {vs : List Value} {ns : List Int}
    (KX : K.In s₁.heap) (hns : s₁.heap.Ns mainGlobals mg) (hb : s₁.heap.Ns builtinsNs mb) (hbb : ∀ x : Str, x ≠ "__name__" → mb x = bootBuiltins x) (hlim : s₁.heap.NoLimit) (hgn : s₁.gens = #[])
    (ha : s₁.heap.get? a = some { cls := .type "list", data := .seq vs.toArray }) (hi : IntsAre vs ns) (hl : ns.length ≤ sizeLine) (hr : Room k callerA)
    (F : ∀ base : Heap, K.In base → base.Ns mainGlobals mg → FnG P w K mg base CX k fa fd n [x] sp) (hbind : ∀ (s : Shared) (u : Value), BindsTo s fd ⟨[u], []⟩ [(x, u)])
    (hsp : ∀ H : Hp, FL K H a (ns.map V.int) → sp [.ref a] H (fun v _ => v = .bl true) fun _ _ _ => False)
    (hCX : ∀ H e s', CX [] H s₁ (fun _ _ _ => False) e s' → False) :
    codeAny (model P w) callerA (.call (.ref fa) ⟨[.ref a], []⟩) (fun r s' => r = .ok (.ret (.bool true)) ∧ OldK s₁.heap s'.heap ∧ s'.os = s₁.os ∧ AllBare s'.gens) s₁ := by
  have rv := vals_ints hi
  have lenV := hi.length
  -- the script alone, or nothing, is tracked
  have main : ∀ H : Hp, (∀ b, H b = none ∨ ∃ o xs, H b = some (.frz o (.lst xs))) → FL K H a (ns.map V.int) → HOk P w H s₁.heap → (∀ b, H b ≠ none → b = a) → (H a ≠ none → K.lookup a = none) →
      codeAny (model P w) callerA (.call (.ref fa) ⟨[.ref a], []⟩) (fun r s' => r = .ok (.ret (.bool true)) ∧ OldK s₁.heap s'.heap ∧ s'.os = s₁.os ∧ AllBare s'.gens) s₁ := by
    intro H only fl hok only_a notK
    have free : ∀ {b : Addr} {o : Obj} {es : Array DictEntry} {ep : Nat}, s₁.heap.get? b = some o → o.data = .dict es ep → H b = none := by
      intro b o es ep e d
      by_cases q : H b = none
      · exact q
      · have := only_a b q
        subst this
        rw [ha] at e
        cases e
        cases (show Data.seq vs.toArray _ = Data.dict es ep from d)
    have ns' : ∀ {b : Addr} {m : Str → Option Value}, s₁.heap.Ns b m → (hidT s₁.heap H).Ns b m := by
      rintro b m ⟨o, es, ep, e, d, r⟩
      exact ⟨o, es, ep, hidT_get e (free e d), d, r⟩
    have inb : K.In (hidT s₁.heap H) := by
      intro b o e
      refine hidT_get (KX b o e) ?_
      by_cases q : H b = none
      · exact q
      · have := only_a b q
        subst this
        rw [notK q] at e
        cases e
    obtain ⟨mc, c1, c2⟩ := hlim
    have mod : Mod K mg (hidT s₁.heap H) := ⟨inb, ns' hns, ⟨mb, ns' hb, hbb⟩, ⟨mc, ns' c1, c2⟩⟩
    have env0 : Env0 P w K mg (hidT s₁.heap H) callerA [] s₁ H := ⟨rfl, mod, fun b o e => of_hidT e, Nat.le_of_eq (hidT_size _ _), trivial, (fun b hb => by cases hb), hok, .of_eq hgn⟩
    have run := (F _ inb (ns' hns)).go callerA [] s₁ H ⟨[.ref a], []⟩ [.ref a] [.ref a] _ _ hr rfl env0 (hbind s₁ (.ref a)) (.cons rfl .nil) (hsp H fl)
    refine codeAny_mono run ?_
    intro r s' h
    match r, h with
    | .error e, h => exact (hCX H e s' h).elim
    | .ok .next, h => exact h.elim
    | .ok .brk, h => exact h.elim
    | .ok .cont, h => exact h.elim
    | .ok (.ret u), ⟨v, H', os, bare, un, hok', r', q⟩ =>
      subst q
      cases (show u = Value.bool true from r')
      refine ⟨rfl, OldK.of_keep ?_, os, bare⟩
      intro b o e
      rcases only b with z | ⟨ob, xs, z⟩
      · exact un.keep b o e z (by intro y; cases y) (by simp)
      · obtain ⟨e1, _⟩ := hok b _ z
        obtain ⟨e2, _⟩ := hok' b _ (un.frzs b ob _ z)
        rw [e] at e1
        cases e1
        exact e2
  by_cases hk : K.lookup a = none
  · refine main (fun b => if b = a then some (.frz { cls := .type "list", data := .seq vs.toArray } (.lst (ns.map V.int))) else none) ?_ (.inl ⟨{ cls := .type "list", data := .seq vs.toArray }, by simp⟩) ?_ ?_ fun _ => hk
    · intro b
      by_cases h : b = a
      · exact .inr ⟨_, _, if_pos h⟩
      · exact .inl (by simp [h])
    · intro b u z
      by_cases h : b = a
      · subst h
        simp at z
        subst z
        exact ⟨ha, by rw [List.length_map]; exact hl, vs, _, rv, ha⟩
      · simp [h] at z
    · intro b z
      by_cases h : b = a
      · exact h
      · simp [h] at z
  · obtain ⟨o, ho⟩ := Option.ne_none_iff_exists'.mp hk
    have e := KX a o ho
    rw [ha] at e
    cases e
    refine main (fun _ => none) (fun _ => .inl rfl) (.inr ⟨_, vs.toArray, _, ho, rfl, rfl, rfl, by rw [List.size_toArray, lenV]; exact hl, by simpa using rv⟩) ?_ (fun b z => absurd rfl z) fun z => absurd rfl z
    intro b u z
    cases z
/-- the goal that the head leaves -/
theorem walkG {l : PySem.W.OpenLaw} {k m : Nat} {q : Program} {loose : List Str} {XP : (Str → Option Value) → Heap → Prop} {YP : World → Heap → Prop} {d : DefRec} {K : Params → PySem.W.Frag} {CX : World → CXT} {sp : World → Sp} {x : Str}
    (hn : l.most = some 63) (hdf : d.params.defaults = []) (hr : Room k callerA) (hY : ∀ (w : World) (h : Heap), YP w h → (K w.params).In h)
    (F : ∀ (w : World) (mg : Str → Option Value) (fa : Addr) (h : Heap), (K w.params).In h → h.Ns mainGlobals mg → mg d.name = some (.ref fa) →
      ∃ fd : FuncData, (∀ (s : Shared) (u : Value), BindsTo s fd ⟨[u], []⟩ [(x, u)]) ∧ ∀ base : Heap, (K w.params).In base → base.Ns mainGlobals mg → FnG l.prog w (K w.params) mg base (CX w) k fa fd m [x] (sp w))
    (hsp : ∀ (w : World) (H : Hp) (a : Addr) (ns : List Int), ns.length ≤ 63 → (∀ z ∈ ns, Builtin.Int.intBits z ≤ 1048576) → FL (K w.params) H a (ns.map V.int) → sp w [.ref a] H (fun v _ => v = .bl true) fun _ _ _ => False)
    (hCX : ∀ (w : World) (H : Hp) (s : Shared) (e : Value) (s' : Shared), CX w [] H s (fun _ _ _ => False) e s' → False) :
    PySem.W.WalkO q loose XP YP l.row.toRowW d [] (fun f vs => PySem.call f vs) := by
  apply Att.attach_callB hn hdf
  intro w s₀ s₁ mg mb fa o pm cd doc a vs ns G Y ho hd hcd hmg hobj hints hlen hbits hg
  have KX := hY w _ Y
  obtain ⟨fd, hb, hF⟩ := F w mg fa _ KX G.T.g hmg
  exact lawG KX G.T.g G.T.b G.T.builtins G.T.nolimit hg hobj hints (Nat.le_trans hlen (by decide)) hr hF hb (fun H fl => hsp w H a ns hlen hbits fl) fun H e s' => hCX w H s₁ e s'
end Z

/-! ZBi: items, slices, built-ins and methods on data are the hand layer's. -/
namespace Z
open PySem L2 PySem.Spec PyProof.Rows
section
variable {K : PySem.W.Frag} {E : XW K} {ρ ρ' ρ1 ρ2 ρ3 : List Addr} {H H' H1 H2 H3 : Hp} {d : D} {ds : List D} {v u : V} {vs : List V} {a p : Addr} {i : Nat} {l : Lo} {σ : L2.St} {st st1 st2 : Sto} {Q : VK}

theorem atI_of {xs : List D} {n : Int} (r : RDs K ρ H xs vs) (h : atI xs n = some d) : ∃ v, atI vs n = some v ∧ RD K ρ H d v := by
  unfold atI at h ⊢
  rw [r.length] at h
  cases e : ixN vs.length n with
  | none => rw [e] at h; cases h
  | some j => rw [e] at h; exact r.get h
theorem lst_of {x : D} {xs : List D} (S : SR K ρ st H) (r : RD K ρ H x v) (h : lst? st x = some xs) : ∃ a vs, v = .ref a ∧ SqL K H a vs ∧ RDs K ρ H xs vs := by
  unfold lst? at h
  split at h
  · cases h
    obtain ⟨a, vs, rfl, ha, ra⟩ := r.kl_inv
    exact ⟨a, vs, rfl, ha.sq, ra⟩
  · split at h
    · rename_i hi
      cases h
      obtain ⟨a, rfl, ea⟩ := r.obj_inv
      obtain ⟨_, ea', vs, ha, ra⟩ := S.get hi
      rw [ea] at ea'; cases ea'
      exact ⟨a, vs, rfl, SqL.of ha, ra⟩
    · cases h
  · cases h
theorem seq_of {x : D} {xs : List D} (S : SR K ρ st H) (r : RD K ρ H x v) (h : seq? st x = some xs) : ∃ a vs, v = .ref a ∧ (SqL K H a vs ∨ (SqT K H a vs ∧ x = .tup xs)) ∧ RDs K ρ H xs vs := by
  unfold seq? at h
  split at h
  · cases h
    obtain ⟨a, vs, rfl, ha, ra⟩ := r.tup_inv
    exact ⟨a, vs, rfl, .inr ⟨ha, rfl⟩, ra⟩
  · obtain ⟨a, vs, e, ha, ra⟩ := lst_of S r h
    exact ⟨a, vs, e, .inl ha, ra⟩

/-! ### items -/
def rIxA (K : PySem.W.Frag) : R2 := fun x y H Q => rIx K x y H Q ∨ ∃ a v, x = .ref a ∧ DGet H a y (some v) ∧ Q v H
theorem ix_dict {X : Cx} (hu : X.A.units + 1 < cLine) : IxR X (fun x y H Q => ∃ a v, x = .ref a ∧ DGet H a y (some v) ∧ Q v H) := by
  intro value slice pins s σ H x y v u Q I rx ry h hs
  obtain ⟨a, z, rfl, g, q⟩ := h
  cases rx
  have hT := dict_typeIs I g
  unfold subscriptTail
  refine wpAny_bind ?_
  rw [getitemInPython_of_ne hT.not_modules]
  refine wpAny_bind (wpAny_specialOf hT PySem.F.slot_dict_getitem.lookup ?_)
  have fin : wpAny (model X.prog X.w) X.A (subscripted slice false (.ref a) u) (fun r s₃ => wpAny (model X.prog X.w) X.A (letTemporaryGo value (.ref a) r >>= fun _ => pure r) (EP X pins σ Q) X.xe s₃) X.xe s := by
    rw [hs]
    refine wpAny_operating (d_getItem hu I g ry fun w' s' I' rw' => ?_)
    exact wpAny_bind (wpAny_letTemporaryGo (wpAny_pure ⟨z, H, I', rw', q⟩))
  first
    | exact wpAny_pure (wpAny_bind fin)
    | exact wpAny_bind (wpAny_pure (wpAny_bind fin))
    | exact wpAny_bind fin
theorem or_ix {X : Cx} (hu : X.A.units + 1 < cLine) : IxR X (rIxA X.K) := ix_seq.or (ix_dict hu)
theorem two_ix : Two K opIx (rIxA K) := by
  intro ρ H st x y v u Q F _ S rx ry h
  unfold opIx at h
  split at h
  · obtain ⟨a, vs, rfl, ha, ra⟩ := rx.tup_inv
    split at h
    · cases ry
      split at h
      · rename_i e
        obtain ⟨w, e1, r1⟩ := atI_of ra e
        exact .inl (.inr (.inl ⟨a, vs, _, w, rfl, rfl, ha, e1, h _ _ _ Wle.refl S r1⟩))
      · exact h.elim
    · exact h.elim
  · obtain ⟨a, vs, rfl, ha, ra⟩ := rx.kl_inv
    split at h
    · cases ry
      split at h
      · rename_i e
        obtain ⟨w, e1, r1⟩ := atI_of ra e
        exact .inl (.inl ⟨a, vs, _, w, rfl, rfl, ha.sq, e1, h _ _ _ Wle.refl S r1⟩)
      · exact h.elim
    · exact h.elim
  · cases rx.str_inv
    split at h
    · cases ry
      split at h
      · rename_i hl
        split at h
        · rename_i c e
          refine .inl (.inr (.inr ⟨_, _, c, rfl, rfl, by rw [← line_eq]; simpa [Str.length] using hl, e, h _ _ _ Wle.refl S (.str' rfl)⟩))
        · exact h.elim
      · exact h.elim
    · exact h.elim
  · obtain ⟨a, rfl, ea⟩ := rx.obj_inv
    split at h
    · rename_i xs hi
      obtain ⟨_, ea', vs, ha, ra⟩ := S.get hi
      rw [ea] at ea'; cases ea'
      split at h
      · cases ry
        split at h
        · rename_i e
          obtain ⟨w, e1, r1⟩ := atI_of ra e
          exact .inl (.inl ⟨a, vs, _, w, rfl, rfl, SqL.of ha, e1, h _ _ _ Wle.refl S r1⟩)
        · exact h.elim
      · exact h.elim
    · rename_i kvs hi
      obtain ⟨_, ea', ws, ha, ra⟩ := S.get hi
      rw [ea] at ea'; cases ea'
      split at h
      · rename_i k hk
        split at h
        · rename_i e
          obtain ⟨w, e1, r1⟩ := (look_V ra k).1 _ e
          cases key_V ry hk
          exact .inr ⟨a, w, rfl, by rw [← e1]; exact DGet.k ha, h _ _ _ Wle.refl S r1⟩
        · exact h.elim
      · exact h.elim
    · exact h.elim
  · exact h.elim

/-! ### slices -/
def rSl (K : PySem.W.Frag) : V → Option Int → Option Int → Hp → VK → Prop := fun x lo hi H Q => rSlA K x lo hi H Q ∨ rSlL K x lo hi H Q ∨ rSlS x lo hi H Q
theorem or_sl {X : Cx} : SlR X (rSl X.K) := sl_tupA.or (sl_list.or sl_str)
theorem RDs.cut {xs : List D} (r : RDs K ρ H xs vs) (lo hi : Option Int) : RDs K ρ H (cut xs lo hi) (cutV vs lo hi) := by
  unfold Z.cut cutV
  rw [r.length]
  exact (r.drop _).take _
theorem sl_any {x : D} {lo hi : Option Int} {F : D → Sto → Prop} (S : SR K ρ st H) (rx : RD K ρ H x v) (h : (opSl x lo hi st).post (Kont K ρ H Q) F) : rSl K v lo hi H Q := by
  unfold opSl at h
  split at h
  · rename_i xs
    obtain ⟨a, vs, rfl, ha, ra⟩ := rx.tup_inv
    refine .inl ⟨a, vs, rfl, ha, fun e => ?_, fun _ p hp => newT_post S (ra.cut lo hi) h hp⟩
    have : cut xs lo hi = xs := by
      unfold cut
      rw [ra.length, e.1, e.2, List.drop_zero, Nat.sub_zero, ← ra.length, List.take_length]
    rw [this] at h
    exact h _ _ _ Wle.refl S (.tup ha ra)
  · obtain ⟨a, vs, rfl, ha, ra⟩ := rx.kl_inv
    exact .inr (.inl ⟨a, vs, rfl, ha.sq, fun p hp => newL_post S (ra.cut lo hi) h hp⟩)
  · cases rx.str_inv
    split at h
    · rename_i hl
      refine .inr (.inr ⟨_, rfl, by rw [← line_eq]; simpa [Str.length] using hl, h _ _ _ Wle.refl S (.str' ?_)⟩)
      unfold cutS cut
      simp [Str.length]
    · exact h.elim
  · obtain ⟨a, rfl, ea⟩ := rx.obj_inv
    split at h
    · rename_i xs hi
      obtain ⟨_, ea', vs, ha, ra⟩ := S.get hi
      rw [ea] at ea'; cases ea'
      exact .inr (.inl ⟨a, vs, rfl, SqL.of ha, fun p hp => newL_post S (ra.cut lo _) h hp⟩)
    · exact h.elim
  · exact h.elim
end
end Z

/-! ZRev: x[::-1] of a tuple or a list. -/
namespace HT
open PySem PySem.Spec PyProof.Rows
section
variable {prog : Program} {w : World} {A : Around} {E : Value → Shared → Prop} {s : Shared}
theorem zAdjust (n : Nat) : Builtin.Slice.sliceAdjust none none (-1) (n : Int) = ((n : Int) - 1, -1) := by
  simp [Builtin.Slice.sliceAdjust]
theorem zPlaces (n : Nat) : Builtin.Slice.slicePlaces ((n : Int) - 1) (-1) (-1) = n := by
  unfold Builtin.Slice.slicePlaces
  rw [if_neg (by decide)]
  by_cases h : (n : Int) - 1 > -1
  · rw [if_pos h]
    have : ((n : Int) - 1 - -1 - 1) / (- -1) + 1 = (n : Int) := by
      rw [show (- -1 : Int) = 1 by decide, Int.ediv_one]
      omega
    rw [this, Int.toNat_natCast]
  · rw [if_neg h]
    omega
theorem zApplied {sl : Addr} {t : Tok} {n : Nat} {Q : Int × Int × Nat → Shared → Prop} (hs : s.heap.IsSliceOf sl .none .none (.int (-1) t)) (h : Q ((n : Int) - 1, -1, n) s) :
    wpAny (model prog w) A (Builtin.Slice.sliceApplied (.ref sl) (pure (n : Int))) Q E s := by
  obtain ⟨os, hos, hcs, hds⟩ := id hs
  unfold Builtin.Slice.sliceApplied Builtin.Slice.sliceFields
  refine wpAny_bind (wpAny_bind (wpAny_field hos hds (x := .none) rfl ?_))
  refine wpAny_bind (wpAny_field hos hds (x := .none) rfl ?_)
  refine wpAny_bind (wpAny_field hos hds (x := .int (-1) t) rfl (wpAny_pure ?_))
  refine wpAny_bind (slicePart_int ?_)
  show wpAny _ _ (if ((-1 : Int) == 0) = true then _ else _) _ _ s
  rw [if_neg (by decide)]
  refine wpAny_bind (slicePart_none (wpAny_bind (slicePart_none (wpAny_bind (wpAny_pure ?_)))))
  show wpAny _ _ (match Builtin.Slice.sliceAdjust none none (-1) (n : Int) with | (lo, hi) => pure (lo, (-1 : Int), Builtin.Slice.slicePlaces lo hi (-1))) _ _ s
  rw [zAdjust]
  show wpAny _ _ (pure ((n : Int) - 1, (-1 : Int), Builtin.Slice.slicePlaces ((n : Int) - 1) (-1) (-1))) _ _ s
  rw [zPlaces]
  exact wpAny_pure h
theorem zPick (xs : Array Value) : ((List.range xs.size).filterMap fun (m : Nat) => xs[(((xs.size : Int) - 1) + (m : Int) * (-1)).toNat]?).toArray = xs.toList.reverse.toArray := by
  congr 1
  have e : ∀ m ∈ List.range xs.size, xs[(((xs.size : Int) - 1) + (m : Int) * (-1)).toNat]? = xs.toList.reverse[m]? := by
    intro m hm
    have hm := List.mem_range.mp hm
    rw [List.getElem?_reverse (by simpa using hm)]
    have : (((xs.size : Int) - 1) + (m : Int) * (-1)).toNat = xs.toList.length - 1 - m := by
      rw [Array.length_toList]
      omega
    rw [this]
    simp
  have cong : ∀ (l : List Nat) (f g : Nat → Option Value), (∀ m ∈ l, f m = g m) → l.filterMap f = l.filterMap g := by
    intro l f g
    induction l with
    | nil => intro _; rfl
    | cons x l ih =>
      intro h
      rw [List.filterMap_cons, List.filterMap_cons, h x (by simp), ih fun m hm => h m (by simp [hm])]
  rw [cong _ _ _ e]
  have := PySem.W.krv_all xs.toList.reverse.toArray
  simpa using this
theorem getItem_tuple_rev {t sl : Addr} {items : Array Value} {tk : Tok} {Q : Value → Shared → Prop} (ht : IsTup s.heap t items) (hs : s.heap.IsSliceOf sl .none .none (.int (-1) tk))
    (h : Q (.ref s.heap.objs.size) { s with heap := s.heap.push { cls := .type "tuple", data := .seq items.toList.reverse.toArray } })
    (hsz : items.size ≤ sizeLine) : wpAny (model prog w) A (getItem (.ref t) (.ref sl)) Q E s := by
  have hz : sizeOk (.seq items.toList.reverse.toArray) := by
    show items.toList.reverse.toArray.size ≤ sizeLine
    simpa using hsz
  obtain ⟨os, hos, hcs, hds⟩ := id hs
  have hTs : s.TypeIs (.ref sl) "slice" := ⟨os, hos, hcs⟩
  unfold getItem
  try with_reducible refine wpAny_holding ?_
  first | refine wpAny_bind (wpAny_pure ?_) | skip
  refine wpAny_bind (wpAny_sequenceKey ht.typeIs (by decide) ?_)
  refine wpAny_bind (wpAny_callSpecial?_slot (name := Str.ofString "__getitem__") ht.typeIs PyProof.Rows.slot_tuple_getitem ?_)
  refine wpAny_call_entry PyProof.Rows.slot_tuple_getitem ht.typeIs entry_tuple_getitem ?_ (args_tuple_getitem _ _)
  show wpAny _ _ (Builtin.Tuple.tupleItemsOf (.ref t) >>= _) _ _ s
  refine wpAny_bind (tupleItemsOf_ ht ?_)
  refine wpAny_bind (wpAny_typeOf hTs ?_)
  rw [if_pos (by decide)]
  refine wpAny_bind (zApplied hs ?_)
  show wpAny _ _ (if (((items.size : Int) - 1) == 0 && (-1 : Int) == 1 && items.size == items.size) = true then _ else _) _ _ s
  rw [if_neg (by simp), zPick]
  first
    | exact wpAny_bind (m := Builtin.Tuple.tupleExact _) (wpAny_newObj_type (wpAny_pure ⟨_, rfl, wpAny_pure h⟩) hz)
    | exact wpAny_bind (wpAny_bind (m := Builtin.Tuple.tupleExact _) (wpAny_newObj_type (wpAny_pure (wpAny_pure ⟨_, rfl, wpAny_pure h⟩)) hz))
    | exact wpAny_bind (m := Builtin.Tuple.tupleExact _) (wpAny_newObj_type (wpAny_bind (wpAny_pure (wpAny_pure ⟨_, rfl, wpAny_pure h⟩))) hz)
    | exact wpAny_bind (wpAny_bind (m := Builtin.Tuple.tupleExact _) (wpAny_newObj_type (wpAny_pure ⟨_, rfl, wpAny_pure h⟩) hz))
end
end HT
namespace Z
open PySem L2 PySem.Spec PyProof.Rows
section
variable {X : Cx}
/-- x[::-1], of a list or a tuple -/
def tRev (K : PySem.W.Frag) (te : TE) : TE := fun σ H Q => te σ H fun x H1 => ∃ a xs, x = .ref a ∧ ((SqL K H1 a xs ∧ ∀ p, H1 p = none → Q (.ref p) (upd H1 p (.lst xs.reverse))) ∨ (SqT K H1 a xs ∧ ∀ p, H1 p = none → Q (.ref p) (upd H1 p (.tup xs.reverse))))
theorem pe_rev {e : Expr} {te : TE} {k : Nat} {p1 p2 p3 pos : Pos} (he : PE X e te) : PE X (.Subscript e (.Slice none none (some (.UnaryOp .USub (.Constant (.int 1) k p1) p2)) p3) pos) (tRev X.K te) := by
  constructor
  intro pins s σ H Q I h
  refine Subscript_ (thn (he.run pins s σ H _ I h) ?_)
  rintro v s1 ⟨x, H1, I1, r1, a, xs, ex, q⟩
  subst ex
  cases r1
  have step : PO X (some (.UnaryOp .USub (.Constant (.int 1) k p1) p2)) (tPart (tUn (rU fun i => .int (-i)) (tC (.int 1)))) := po_some (pe_un un_neg pe_int)
  refine wpAny_Slice (thn (po_none.run pins s1 σ H1 (fun o H2 => o = none ∧ H2 = H1) I1 ⟨rfl, rfl⟩) ?_)
  rintro vl s2 ⟨l, H2, I2, pl, el, e2⟩
  subst el e2
  refine thn (po_none.run pins s2 σ H2 (fun o H3 => o = none ∧ H3 = H2) I2 ⟨rfl, rfl⟩) ?_
  rintro vu s3 ⟨u, H3, I3, pu, eu, e3⟩
  subst eu e3
  refine thn (step.run pins s3 σ H3 (fun o H4 => o = some (-1) ∧ H4 = H3) I3 ⟨1, rfl, -1, rfl, rfl, rfl⟩) ?_
  rintro vs s4 ⟨o, H4, I4, ps, eo, e4⟩
  subst eo e4
  have I5 : Inv X pins σ H4 { s4 with heap := s4.heap.push { cls := .type "slice", data := .fields #[vl, vu, vs] } } := I4.kept (t' := s4.toks) fun b ob q => Heap.get?_push_of_some _ q
  show wpAny (model X.prog X.w) X.A (subscriptTail e (.Slice none none (some (.UnaryOp .USub (.Constant (.int 1) k p1) p2)) p3) (.ref a) (.ref s4.heap.objs.size)) (EP X pins σ Q) X.xe { s4 with heap := s4.heap.push { cls := .type "slice", data := .fields #[vl, vu, vs] } }
  rcases q with ⟨hx, q⟩ | ⟨hx, q⟩
  · obtain ⟨its, r, ht, hz⟩ := I5.list hx
    have hlen := r.length
    refine tail_any (ops := [.ref a, .ref s4.heap.objs.size]) ht.isList.typeIs (PySem.slot_list_getitem.lookup) ?_ (by with_unfolding_all rfl)
    refine wpAny_getItem_list_slice ht.isList (Heap.IsSliceOf.new _ vl vu vs) pl pu ps (by decide) ?_ (by rw [List.size_toArray]; omega)
    rw [PySem.W.krv_pick]
    refine ⟨.ref _, _, I5.laid (t' := s4.toks) (o := .lst xs.reverse) (fun b ob q => Heap.get?_push_of_some _ q) (Nat.le_refl _) ?_, rfl, q _ (I5.hok.fresh (Nat.le_refl _))⟩
    exact ⟨by rw [List.length_reverse]; exact hz, _, 0, r.reverse, Heap.get?_push_size _ rfl⟩
  · obtain ⟨its, r, ht, hz⟩ := I5.tuple hx
    have hlen := r.length
    refine tail_any (ops := [.ref a, .ref s4.heap.objs.size]) ht.typeIs slot_tuple_getitem.lookup ?_ (by with_unfolding_all rfl)
    cases pl
    cases pu
    generalize hv : (some (-1) : Option Int) = w at ps
    cases ps with
    | none => cases hv
    | int i t =>
      cases hv
      refine HT.getItem_tuple_rev ht (Heap.IsSliceOf.new _ _ _ _) ?_ (by rw [List.size_toArray]; omega)
      refine ⟨.ref _, _, I5.laid (t' := s4.toks) (o := .tup xs.reverse) (fun b ob q => Heap.get?_push_of_some _ q) (Nat.le_refl _) ?_, rfl, q _ (I5.hok.fresh (Nat.le_refl _))⟩
      exact ⟨by rw [List.length_reverse]; exact hz, _, r.reverse, ⟨_, Heap.get?_push_size _ rfl, rfl, _, rfl⟩⟩
end
end Z

/-! ZBj: built-ins and methods. -/
namespace Z
open PySem L2 PySem.Spec PyProof.Rows
section
variable {K : PySem.W.Frag} {E : XW K} {ρ ρ' ρ1 ρ2 ρ3 : List Addr} {H H' H1 H2 H3 : Hp} {d : D} {ds : List D} {v u : V} {vs : List V} {a p : Addr} {i : Nat} {l : Lo} {σ : L2.St} {st st1 st2 : Sto} {Q : VK}
abbrev RC := List V → Hp → VK → Prop
/-- a built-in on data -/
def Cal (K : PySem.W.Frag) (k : List D → Sto → R D) (r : RC) : Prop := ∀ (ρ : List Addr) (H : Hp) (st : Sto) (xs : List D) (vs : List V) (Q : VK) (F : D → Sto → Prop), SR K ρ st H → RDs K ρ H xs vs → (k xs st).post (Kont K ρ H Q) F → r vs H Q
/-- of one argument -/
theorem cal1 {b : Bi} {r : RC} (h : ∀ (ρ : List Addr) (H : Hp) (st : Sto) (x : D) (v : V) (Q : VK) (F : D → Sto → Prop), SR K ρ st H → RD K ρ H x v → (bi1 b x st).post (Kont K ρ H Q) F → r [v] H Q) (h2 : ∀ x y s, bi2 b x y s = .bad) : Cal K (biF b) r := by
  intro ρ H st xs vs Q F S rs hq
  unfold biF at hq
  split at hq
  · cases rs with | cons r1 r2 => cases r2; exact h ρ H st _ _ Q F S r1 hq
  · rw [h2] at hq; exact hq.elim
  · exact hq.elim
theorem cal2 {b : Bi} {r : RC} (h : ∀ (ρ : List Addr) (H : Hp) (st : Sto) (x y : D) (v u : V) (Q : VK) (F : D → Sto → Prop), SR K ρ st H → RD K ρ H x v → RD K ρ H y u → (bi2 b x y st).post (Kont K ρ H Q) F → r [v, u] H Q) (h2 : ∀ x s, bi1 b x s = .bad) : Cal K (biF b) r := by
  intro ρ H st xs vs Q F S rs hq
  unfold biF at hq
  split at hq
  · rw [h2] at hq; exact hq.elim
  · cases rs with | cons r1 r2 => cases r2 with | cons r2 r3 => cases r3; exact h ρ H st _ _ _ _ Q F S r1 r2 hq
  · exact hq.elim
theorem cal_len : Cal K (biF .len) (fun xs H Q => ∃ x n, xs = [x] ∧ LenV K x H n ∧ Q (.int n) H) := by
  refine cal1 (fun ρ H st x v Q F S r h => ?_) fun _ _ _ => rfl
  simp only [bi1, bLen] at h
  split at h
  · cases r.str_inv
    split at h
    · rename_i hl
      exact ⟨_, _, rfl, ⟨by rw [← line_eq]; simpa [Str.length] using hl, rfl⟩, by have := h _ _ _ Wle.refl S (.int _); simpa [Str.length] using this⟩
    · exact h.elim
  · obtain ⟨a, vs, rfl, ha, ra⟩ := r.tup_inv
    exact ⟨_, vs.length, rfl, .inr ⟨vs, ha, rfl⟩, by rw [← ra.length]; exact h _ _ _ Wle.refl S (.int _)⟩
  · obtain ⟨a, vs, rfl, ha, ra⟩ := r.kl_inv
    exact ⟨_, vs.length, rfl, .inl ⟨vs, ha.sq, rfl⟩, by rw [← ra.length]; exact h _ _ _ Wle.refl S (.int _)⟩
  · obtain ⟨a, rfl, ea⟩ := r.obj_inv
    split at h
    · rename_i xs hi
      obtain ⟨_, ea', vs, ha, ra⟩ := S.get hi
      rw [ea] at ea'; cases ea'
      exact ⟨_, vs.length, rfl, .inl ⟨vs, SqL.of ha, rfl⟩, by rw [← ra.length]; exact h _ _ _ Wle.refl S (.int _)⟩
    · exact h.elim
  · exact h.elim
theorem cal_abs : Cal K (biF .abs) (fun xs H Q => ∃ i, xs = [.int i] ∧ Q (.int (if i < 0 then -i else i)) H) := by
  refine cal1 (fun ρ H st x v Q F S r h => ?_) fun _ _ _ => rfl
  simp only [bi1] at h
  split at h
  · cases r; exact ⟨_, rfl, h _ _ _ Wle.refl S (.int _)⟩
  · exact h.elim
theorem cal_int : Cal K (biF .int) (fun xs H Q => (∃ i, xs = [.int i] ∧ Q (.int i) H) ∨ ∃ k, xs = [.bl k] ∧ Q (.int (if k then 1 else 0)) H) := by
  refine cal1 (fun ρ H st x v Q F S r h => ?_) fun _ _ _ => rfl
  simp only [bi1] at h
  split at h
  · cases r; exact .inl ⟨_, rfl, h _ _ _ Wle.refl S (.int _)⟩
  · cases r; exact .inr ⟨_, rfl, h _ _ _ Wle.refl S (.int _)⟩
  · exact h.elim
theorem bls_of : ∀ {xs : List D} {vs : List V} {bs : List Bool}, RDs K ρ H xs vs → bls? xs = some bs → vs = bs.map V.bl
  | [], _, _, r, e => by cases r; cases e; rfl
  | .bl b :: xs, _, bs, r, e => by
    cases r with
    | cons r1 r2 =>
      simp only [bls?, Option.map_eq_some_iff] at e
      obtain ⟨cs, e, rfl⟩ := e
      cases r1
      rw [bls_of r2 e]
      rfl
  | .non :: _, _, _, _, e => by cases e
  | .int _ :: _, _, _, _, e => by cases e
  | .str _ :: _, _, _, _, e => by cases e
  | .tup _ :: _, _, _, _, e => by cases e
  | .kl _ :: _, _, _, _, e => by cases e
  | .obj _ :: _, _, _, _, e => by cases e
theorem ints_of : ∀ {xs : List D} {vs : List V} {bs : List Int}, RDs K ρ H xs vs → ints? xs = some bs → vs = bs.map V.int
  | [], _, _, r, e => by cases r; cases e; rfl
  | .int b :: xs, _, bs, r, e => by
    cases r with
    | cons r1 r2 =>
      simp only [ints?, Option.map_eq_some_iff] at e
      obtain ⟨cs, e, rfl⟩ := e
      cases r1
      rw [ints_of r2 e]
      rfl
  | .non :: _, _, _, _, e => by cases e
  | .bl _ :: _, _, _, _, e => by cases e
  | .str _ :: _, _, _, _, e => by cases e
  | .tup _ :: _, _, _, _, e => by cases e
  | .kl _ :: _, _, _, _, e => by cases e
  | .obj _ :: _, _, _, _, e => by cases e
theorem cal_all : Cal K (biF .all) (rAll K) := by
  refine cal1 (fun ρ H st x v Q F S r h => ?_) fun _ _ _ => rfl
  simp only [bi1] at h
  split at h
  · rename_i xs e
    obtain ⟨a, vs, rfl, ha, ra⟩ := lst_of S r e
    split at h
    · rename_i bs e2
      cases bls_of ra e2
      exact ⟨a, bs, rfl, ha, h _ _ _ Wle.refl S (.bl _)⟩
    · exact h.elim
  · exact h.elim
theorem cal_any : Cal K (biF .any) (rAny K) := by
  refine cal1 (fun ρ H st x v Q F S r h => ?_) fun _ _ _ => rfl
  simp only [bi1] at h
  split at h
  · rename_i xs e
    obtain ⟨a, vs, rfl, ha, ra⟩ := lst_of S r e
    split at h
    · rename_i bs e2
      cases bls_of ra e2
      exact ⟨a, bs, rfl, ha, h _ _ _ Wle.refl S (.bl _)⟩
    · exact h.elim
  · exact h.elim
theorem cal_sum : Cal K (biF .sum) (rSum K) := by
  refine cal1 (fun ρ H st x v Q F S r h => ?_) fun _ _ _ => rfl
  simp only [bi1] at h
  split at h
  · rename_i xs e
    obtain ⟨a, vs, rfl, ha, ra⟩ := lst_of S r e
    split at h
    · rename_i bs e2
      cases ints_of ra e2
      exact ⟨a, bs, rfl, ha, h _ _ _ Wle.refl S (.int _)⟩
    · exact h.elim
  · exact h.elim
theorem vals_signs : ∀ {zs : List Nat} {us : List Value}, us.length = zs.length → (∀ (j : Nat) v, us[j]? = some v → ∃ c u, zs[j]? = some c ∧ v = Value.str ⟨#[c]⟩ u) → Vals (zs.map fun c => V.str ⟨#[c]⟩) us
  | [], [], _, _ => .nil
  | [], _ :: _, h, _ => by simp at h
  | _ :: _, [], h, _ => by simp at h
  | c :: zs, v :: us, h, g => by
    obtain ⟨c', u, e1, e2⟩ := g 0 v rfl
    cases e1
    subst e2
    exact .cons ⟨u, rfl⟩ (vals_signs (by simpa using h) fun j v e => g (j + 1) v e)
def rListS : RC := fun xs H Q => ∃ z : Str, xs = [.str z] ∧ z.length ≤ sizeLine ∧ ∀ l, H l = none → Q (.ref l) (upd H l (.lst (z.cps.toList.map fun c => V.str ⟨#[c]⟩)))
theorem call_listS {X : Cx} (hc : X.calm = true) : CallR X (.type "list") rListS := by
  intro pins s σ H xs us Q I r h
  obtain ⟨z, rfl, hz, q⟩ := h
  cases r with
  | cons r1 r2 =>
    cases r2
    obtain ⟨t, rfl⟩ := r1
    refine call_list_str (I.ok.hd hc) z t (fun h' tk acc' c' kp e hit => ?_) hz
    have hv : Vals (z.cps.toList.map fun c => V.str ⟨#[c]⟩) acc'.toList := vals_signs (by simpa using hit.1) fun j v hj => by
      obtain ⟨c, u, e1, e2⟩ := hit.2 j v (by simpa using hj)
      exact ⟨c, u, by simpa using e1, e2⟩
    have e' : h'.get? s.heap.objs.size = some { cls := .type "list", dict := none, data := .seq acc'.toList.toArray c', slots := #[] } := by simpa using e
    have hz2 : (z.cps.toList.map fun c => V.str ⟨#[c]⟩).length ≤ sizeLine := by rw [List.length_map]; simpa [Str.length] using hz
    exact ⟨.ref s.heap.objs.size, _, I.laid (t' := tk) kp (Nat.le_refl _) (show ObjOk X.prog X.w _ h' _ (.lst _) from ⟨hz2, acc'.toList, c', hv, e'⟩), rfl, q _ (I.hok.fresh (Nat.le_refl _))⟩
theorem rds_signs : ∀ z : List Nat, RDs K ρ H (z.map fun c => D.str [c]) (z.map fun c => V.str ⟨#[c]⟩)
  | [] => .nil
  | c :: z => .cons (.str' rfl) (rds_signs z)
def rListK : RC := fun xs H Q => ∃ (a : Addr) (kvs : List (Key × V)), xs = [.ref a] ∧ Rd H a (.dK kvs) ∧ ∀ p, H p = none → Q (.ref p) (upd H p (.lst (kvs.map fun kv => kV kv.1)))
def rDictK : RC := fun xs H Q => ∃ (a : Addr) (kvs : List (Key × V)), xs = [.ref a] ∧ Rd H a (.dK kvs) ∧ ∀ p, H p = none → Q (.ref p) (upd H p (.dK kvs))
def rDictP (K : PySem.W.Frag) : RC := fun xs H Q => ∃ (a : Addr) (ps : List Addr) (kvs : List (Key × V)), xs = [.ref a] ∧ SqL K H a (ps.map V.ref) ∧ Paired (fun p kv => SqT K H p [kV kv.1, kv.2]) ps kvs ∧ ∀ p, H p = none → Q (.ref p) (upd H p (.dK (L2.mergeK [] kvs)))
theorem rd_of {o : HO} (h : H a = some o) : Rd H a o := by
  first | exact .inl h | exact Or.inl h | exact ⟨_, h⟩
theorem dct_of {x : D} {kvs : List (Ky × D)} (S : SR K ρ st H) (r : RD K ρ H x v) (h : dct? st x = some kvs) : ∃ a ws, v = .ref a ∧ H a = some (.dK ws) ∧ RKs K ρ H kvs ws := by
  unfold dct? at h
  split at h
  · split at h
    · rename_i hi
      cases h
      obtain ⟨a, rfl, ea⟩ := r.obj_inv
      obtain ⟨_, ea', ws, ha, ra⟩ := S.get hi
      rw [ea] at ea'; cases ea'
      exact ⟨a, ws, rfl, ha, ra⟩
    · cases h
  · cases h
theorem rd_key (k : Ky) : RD K ρ H (keyD k) (kV (keyOf k)) := by
  cases k with
  | inl i => exact .int i
  | inr s => exact .strA s
theorem rks_keys {kvs : List (Ky × D)} {ws : List (Key × V)} (h : RKs K ρ H kvs ws) : RDs K ρ H (kvs.map fun kv => keyD kv.1) (ws.map fun kv => kV kv.1) := by
  induction h with
  | nil => exact .nil
  | cons h1 _ ih => exact .cons (rd_key _) ih
theorem rks_putB {kvs : List (Ky × D)} {ws : List (Key × V)} (r : RKs K ρ H kvs ws) (k : Ky) (rd : RD K ρ H d v) : RKs K ρ H (putK kvs k d) (L2.putK ws (keyOf k) v) := by
  have an : (kvs.any fun kv => decide (kv.1 = k)) = ws.any fun kv => decide (kv.1 = keyOf k) := by
    induction r with
    | nil => rfl
    | @cons k2 d v ds vs r1 r2 ih =>
      simp only [List.any_cons, ih]
      congr 1
      exact decide_eq_decide.mpr ⟨fun h => by rw [h], fun h => keyOf_inj h⟩
  unfold putK L2.putK
  rw [← an]
  split
  · rename_i hh
    clear an hh
    induction r with
    | nil => exact .nil
    | @cons k2 d2 v2 ds vs r1 r2 ih =>
      simp only [List.map_cons]
      by_cases e : k2 = k
      · subst e
        simp only [if_true]
        exact .cons rd ih
      · have e' : ¬ keyOf k2 = keyOf k := fun q => e (keyOf_inj q)
        simp only [e, e', if_false]
        exact .cons r1 ih
  · rename_i hh
    clear an hh
    induction r with
    | nil => exact .cons rd .nil
    | cons r1 r2 ih => exact .cons r1 ih
theorem rks_merge {more : List (Ky × D)} {ms : List (Key × V)} (r : RKs K ρ H more ms) : ∀ {kvs : List (Ky × D)} {ws : List (Key × V)}, RKs K ρ H kvs ws → RKs K ρ H (mrgK kvs more) (L2.mergeK ws ms) := by
  induction r with
  | nil => intro _ _ h; exact h
  | cons r1 _ ih => intro _ _ h; exact ih (rks_putB h _ r1)
/-- pairs -/
theorem pairs_at : ∀ {xs : List D} {vs : List V} {kvs : List (Ky × D)}, RDs K ρ H xs vs → optAll pair? xs = some kvs → ∃ (ps : List Addr) (ws : List (Key × V)), vs = ps.map V.ref ∧ Paired (fun p kv => SqT K H p [kV kv.1, kv.2]) ps ws ∧ RKs K ρ H kvs ws
  | [], _, _, r, h => by cases r; cases h; exact ⟨[], [], rfl, .nil, .nil⟩
  | x :: xs, _, _, r, h => by
    cases r with
    | cons r1 r2 =>
      unfold optAll at h
      split at h
      · rename_i y ys e1 e2
        cases h
        obtain ⟨ps, ws, rfl, h1, h2⟩ := pairs_at r2 e2
        unfold pair? at e1
        split at e1
        · rename_i k d
          obtain ⟨q, hq, rfl⟩ := Option.map_eq_some_iff.mp e1
          obtain ⟨a, us, rfl, ha, ra⟩ := r1.tup_inv
          cases ra with
          | cons rk ra =>
            cases ra with
            | cons rv ra =>
              cases ra
              have kk : _ = kV (keyOf q) := key_V rk hq
              refine ⟨a :: ps, (keyOf q, _) :: ws, rfl, .cons ?_ h1, .cons rv h2⟩
              rw [← kk]
              exact ha
        · cases e1
      · cases h
theorem cal_list : Cal K (biF .list) (fun xs H Q => (∃ p ys, xs = [.ref p] ∧ (SqL K H p ys ∨ SqT K H p ys) ∧ ∀ l, H l = none → Q (.ref l) (upd H l (.lst ys))) ∨ rListS xs H Q ∨ rListK xs H Q) := by
  refine cal1 (fun ρ H st x v Q F S r h => ?_) fun _ _ _ => rfl
  simp only [bi1] at h
  split at h
  · cases r.str_inv
    split at h
    · rename_i hl
      refine .inr (.inl ⟨_, rfl, by rw [← line_eq]; simpa [Str.length] using hl, fun l hl => ?_⟩)
      have := newL_post S (rds_signs _) h hl
      simpa using this
    · exact h.elim
  · split at h
    · rename_i xs e
      obtain ⟨a, vs, rfl, ha, ra⟩ := seq_of S r e
      exact .inl ⟨a, vs, rfl, ha.imp id (·.1), fun l hl => newL_post S ra h hl⟩
    · split at h
      · rename_i kvs e
        obtain ⟨a, ws, rfl, ha, ra⟩ := dct_of S r e
        exact .inr (.inr ⟨a, ws, rfl, rd_of ha, fun l hl => newL_post S (rks_keys ra) h hl⟩)
      · exact h.elim
theorem newK_post {F : D → Sto → Prop} {kvs : List (Ky × D)} {ws : List (Key × V)} (S : SR K ρ st H) (r : RKs K ρ H kvs ws) (h : (newK kvs st).post (Kont K ρ H Q) F) (hp : H p = none) : Q (.ref p) (upd H p (.dK ws)) := by
  have w : Wle K ρ H (ρ ++ [p]) (upd H p (.dK ws)) := Wle.new hp _
  exact h _ _ _ w (S.newO hp ⟨ws, upd_same, r.up w⟩) (.obj (by rw [← S.len]; simp))
theorem cal_dict : Cal K (biF .dict) (fun xs H Q => rDictK xs H Q ∨ rDictP K xs H Q) := by
  refine cal1 (fun ρ H st x v Q F S r h => ?_) fun _ _ _ => rfl
  simp only [bi1] at h
  split at h
  · rename_i kvs e
    obtain ⟨a, ws, rfl, ha, ra⟩ := dct_of S r e
    exact .inl ⟨a, ws, rfl, rd_of ha, fun l hl => newK_post S ra h hl⟩
  · split at h
    · rename_i kvs e
      obtain ⟨xs, e1, e2⟩ := Option.bind_eq_some_iff.mp e
      obtain ⟨a, vs, rfl, ha, ra⟩ := lst_of S r e1
      obtain ⟨ps, ws, rfl, h1, h2⟩ := pairs_at ra e2
      exact .inr ⟨a, ps, ws, rfl, ha, h1, fun l hl => newK_post S (rks_merge h2 .nil) h hl⟩
    · exact h.elim
theorem cal_tuple : Cal K (biF .tuple) (fun xs H Q => ∃ p ys, xs = [.ref p] ∧ ((SqL K H p ys ∧ ∀ l, H l = none → Q (.ref l) (upd H l (.tup ys))) ∨ (SqT K H p ys ∧ Q (.ref p) H))) := by
  refine cal1 (fun ρ H st x v Q F S r h => ?_) fun _ _ _ => rfl
  simp only [bi1] at h
  split at h
  · rename_i xs e
    obtain ⟨a, vs, rfl, ha, ra⟩ := seq_of S r e
    rcases ha with ha | ⟨ha, rfl⟩
    · exact ⟨a, vs, rfl, .inl ⟨ha, fun p hp => newT_post S ra h hp⟩⟩
    · exact ⟨a, vs, rfl, .inr ⟨ha, h _ _ _ Wle.refl S (.tup ha ra)⟩⟩
  · exact h.elim
theorem cal_ord : Cal K (biF .ord) (fun xs H Q => ∃ x, xs = [.str x] ∧ x.length = 1 ∧ Q (.int (x.cps.getD 0 0 : Nat)) H) := by
  refine cal1 (fun ρ H st x v Q F S r h => ?_) fun _ _ _ => rfl
  simp only [bi1] at h
  split at h
  · cases r.str_inv; exact ⟨_, rfl, rfl, h _ _ _ Wle.refl S (.int _)⟩
  · exact h.elim
theorem cal_chr : Cal K (biF .chr) (fun xs H Q => ∃ i, xs = [.int i] ∧ 0 ≤ i ∧ i ≤ 1114111 ∧ Q (.str ⟨#[i.toNat]⟩) H) := by
  refine cal1 (fun ρ H st x v Q F S r h => ?_) fun _ _ _ => rfl
  simp only [bi1] at h
  split at h
  · cases r
    split at h
    · rename_i hc
      exact ⟨_, rfl, hc.1, hc.2, h _ _ _ Wle.refl S (.str' rfl)⟩
    · exact h.elim
  · exact h.elim
theorem cal_str : Cal K (biF .str) (fun xs H Q => ∃ i, xs = [.int i] ∧ i.natAbs.log2 < 1920 ∧ Q (.str (toString i)) H) := by
  refine cal1 (fun ρ H st x v Q F S r h => ?_) fun _ _ _ => rfl
  simp only [bi1] at h
  split at h
  · cases r
    split at h
    · rename_i hc
      exact ⟨_, rfl, hc, h _ _ _ Wle.refl S (.str _)⟩
    · exact h.elim
  · exact h.elim
theorem cal_divmod : Cal K (biF .divmod) (fun xs H Q => ∃ i j, xs = [.int i, .int j] ∧ CDiv i j ∧ ∀ p, H p = none → Q (.ref p) (upd H p (.tup [.int (i / j), .int (i % j)]))) := by
  refine cal2 (fun ρ H st x y v u Q F S r r2 h => ?_) fun _ _ => rfl
  simp only [bi2] at h
  split at h
  · cases r; cases r2
    split at h
    · rename_i hc
      exact ⟨_, _, rfl, hc, fun p hp => newT_post S (.cons (.int _) (.cons (.int _) .nil)) h hp⟩
    · exact h.elim
  · exact h.elim
theorem topI_mem : ∀ (ns : List Int) (n : Int), topI n ns ∈ n :: ns ∧ ∀ y ∈ n :: ns, y ≤ topI n ns
  | [], n => ⟨by simp [topI], fun y h => by simp at h; simp [topI, h]⟩
  | m :: ns, n => by
    have e : topI n (m :: ns) = topI (if m > n then m else n) ns := rfl
    obtain ⟨h1, h2⟩ := topI_mem ns (if m > n then m else n)
    rw [e]
    refine ⟨?_, fun y hy => ?_⟩
    · rcases List.mem_cons.mp h1 with h | h
      · rw [h]; split <;> simp
      · exact List.mem_cons_of_mem _ (List.mem_cons_of_mem _ h)
    · have h3 := h2 _ List.mem_cons_self
      have k1 : n ≤ (if m > n then m else n) := by split <;> omega
      have k2 : m ≤ (if m > n then m else n) := by split <;> omega
      rcases List.mem_cons.mp hy with rfl | hy
      · exact Int.le_trans k1 h3
      · rcases List.mem_cons.mp hy with rfl | hy
        · exact Int.le_trans k2 h3
        · exact h2 y (List.mem_cons_of_mem _ hy)
theorem lowI_mem : ∀ (ns : List Int) (n : Int), lowI n ns ∈ n :: ns ∧ ∀ y ∈ n :: ns, lowI n ns ≤ y
  | [], n => ⟨by simp [lowI], fun y h => by simp at h; simp [lowI, h]⟩
  | m :: ns, n => by
    have e : lowI n (m :: ns) = lowI (if m < n then m else n) ns := rfl
    obtain ⟨h1, h2⟩ := lowI_mem ns (if m < n then m else n)
    rw [e]
    refine ⟨?_, fun y hy => ?_⟩
    · rcases List.mem_cons.mp h1 with h | h
      · rw [h]; split <;> simp
      · exact List.mem_cons_of_mem _ (List.mem_cons_of_mem _ h)
    · have h3 := h2 _ List.mem_cons_self
      have k1 : (if m < n then m else n) ≤ n := by split <;> omega
      have k2 : (if m < n then m else n) ≤ m := by split <;> omega
      rcases List.mem_cons.mp hy with rfl | hy
      · exact Int.le_trans h3 k1
      · rcases List.mem_cons.mp hy with rfl | hy
        · exact Int.le_trans h3 k2
        · exact h2 y (List.mem_cons_of_mem _ hy)
theorem cal_min : Cal K (biF .min) (fun xs H Q => (∃ i j, xs = [.int i, .int j] ∧ Q (.int (if j < i then j else i)) H) ∨ rMin K xs H Q) := by
  intro ρ H st xs vs Q F S rs h
  unfold biF at h
  split at h
  · cases rs with | cons r1 r2 =>
    cases r2
    simp only [bi1] at h
    split at h
    · rename_i n ns e
      obtain ⟨xs, e1, e2⟩ := Option.bind_eq_some_iff.mp e
      obtain ⟨a, vs, rfl, ha, ra⟩ := lst_of S r1 e1
      cases ints_of ra e2
      refine .inr ⟨a, n :: ns, rfl, ha, by simp, fun m hm hy => ?_⟩
      obtain ⟨k1, k2⟩ := lowI_mem ns n
      have : m = lowI n ns := Int.le_antisymm (hy _ k1) (k2 _ hm)
      subst this
      exact h _ _ _ Wle.refl S (.int _)
    · exact h.elim
  · cases rs with | cons r1 r2 => cases r2 with | cons r2 r3 =>
    cases r3
    simp only [bi2] at h
    split at h
    · cases r1; cases r2
      exact .inl ⟨_, _, rfl, h _ _ _ Wle.refl S (.int _)⟩
    · exact h.elim
  · exact h.elim
theorem cal_max : Cal K (biF .max) (fun xs H Q => (∃ i j, xs = [.int i, .int j] ∧ Q (.int (if j > i then j else i)) H) ∨ rMax K xs H Q) := by
  intro ρ H st xs vs Q F S rs h
  unfold biF at h
  split at h
  · cases rs with | cons r1 r2 =>
    cases r2
    simp only [bi1] at h
    split at h
    · rename_i n ns e
      obtain ⟨xs, e1, e2⟩ := Option.bind_eq_some_iff.mp e
      obtain ⟨a, vs, rfl, ha, ra⟩ := lst_of S r1 e1
      cases ints_of ra e2
      refine .inr ⟨a, n :: ns, rfl, ha, by simp, fun m hm hy => ?_⟩
      obtain ⟨k1, k2⟩ := topI_mem ns n
      have : m = topI n ns := Int.le_antisymm (k2 _ hm) (hy _ k1)
      subst this
      exact h _ _ _ Wle.refl S (.int _)
    · exact h.elim
  · cases rs with | cons r1 r2 => cases r2 with | cons r2 r3 =>
    cases r3
    simp only [bi2] at h
    split at h
    · cases r1; cases r2
      exact .inl ⟨_, _, rfl, h _ _ _ Wle.refl S (.int _)⟩
    · exact h.elim
  · exact h.elim

end
/-! ### repr -/
mutual
/-- what is read, dicts elsewhere than the modules' own -/
inductive RS (h : Heap) : Value → PyData → Prop
  | none : RS h .none .none
  | bool (b : Bool) : RS h (.bool b) (.bool b)
  | int (i : Int) (t : Tok) : RS h (.int i t) (.int i)
  | str (x : Str) (t : Tok) : RS h (.str x t) (.str x)
  | list {a : Addr} {o : Obj} {vs : Array Value} {n : Nat} {xs : List PyData} : h.get? a = some o → o.cls = .type "list" → o.data = .seq vs n → RSs h vs.toList xs → RS h (.ref a) (.list xs)
  | tuple {a : Addr} {o : Obj} {vs : Array Value} {n : Nat} {xs : List PyData} : h.get? a = some o → o.cls = .type "tuple" → o.data = .seq vs n → RSs h vs.toList xs → RS h (.ref a) (.tuple xs)
  | dict {a : Addr} {o : Obj} {es : Array DictEntry} {n : Nat} {kvs : List (PyData × PyData)} : h.get? a = some o → o.cls = .type "dict" → o.data = .dict es n → (a == sysModules) = false → RSs h (es.toList.map (·.key)) (kvs.map (·.1)) → RSs h (es.toList.map (·.val)) (kvs.map (·.2)) → RS h (.ref a) (.dict kvs)
inductive RSs (h : Heap) : List Value → List PyData → Prop
  | nil : RSs h [] []
  | cons {v : Value} {vs : List Value} {d : PyData} {ds : List PyData} : RS h v d → RSs h vs ds → RSs h (v :: vs) (d :: ds)
end
mutual
theorem RS.reads {h : Heap} : ∀ {v : Value} {d : PyData}, RS h v d → ∃ as, Reads h v d as
  | _, _, .none => ⟨_, .none⟩
  | _, _, .bool b => ⟨_, .bool b⟩
  | _, _, .int i t => ⟨_, .int i t⟩
  | _, _, .str x t => ⟨_, .str x t⟩
  | _, _, .list h1 h2 h3 h4 => let ⟨_, r⟩ := RSs.reads h4; ⟨_, .list h1 h2 h3 r⟩
  | _, _, .tuple h1 h2 h3 h4 => let ⟨_, r⟩ := RSs.reads h4; ⟨_, .tuple h1 h2 h3 r⟩
  | _, _, .dict h1 h2 h3 _ h4 h5 => let ⟨_, r⟩ := RSs.reads h4; let ⟨_, q⟩ := RSs.reads h5; ⟨_, .dict h1 h2 h3 r q⟩
theorem RSs.reads {h : Heap} : ∀ {vs : List Value} {ds : List PyData}, RSs h vs ds → ∃ as, ReadsAll h vs ds as
  | _, _, .nil => ⟨_, .nil⟩
  | _, _, .cons a b => let ⟨_, r⟩ := RS.reads a; let ⟨_, q⟩ := RSs.reads b; ⟨_, .cons r q⟩
end
section
variable {prog : Program} {w : World} {h : Heap}
mutual
theorem RS.rp : ∀ {v : Value} {d : PyData}, RS h v d → d.showable = true → d.shown.length ≤ sizeLine → ∃ bs, ReadAtMost h d.depth bs ∧ ReprK prog w bs h d.depth v d.shown
  | _, _, .none, _, _ => ⟨[], (fun _ z => nomatch z), by simp only [PyData.shown]; exact .of_is ReprIs.none _ _ _⟩
  | _, _, .bool b, _, _ => ⟨[], (fun _ z => nomatch z), by simp only [PyData.shown]; exact .of_is (ReprIs.bool b) _ _ _⟩
  | _, _, .int i t, hs, _ => ⟨[], (fun _ z => nomatch z), by simp only [PyData.shown]; exact .of_is (ReprIs.int t (by simpa [PyData.showable] using hs)) _ _ _⟩
  | _, _, .str x t, _, hz => ⟨[], (fun _ z => nomatch z), by simp only [PyData.shown]; exact .of_is (ReprIs.str x t (by simpa only [PyData.shown] using hz)) _ _ _⟩
  | _, _, .list (a := a) (vs := vs) (xs := xs) h1 h2 h3 h4, hs, hz => by
    have z : (listText (PyData.shownAll xs)).length ≤ sizeLine := by simpa only [PyData.shown] using hz
    obtain ⟨bs, hb, hk⟩ := RSs.rp h4 (by simpa [PyData.showable] using hs) fun t ht => Nat.le_trans (listText_mem_le ht) z
    obtain ⟨as, r⟩ := RS.reads (.list h1 h2 h3 h4)
    have na : a ∉ bs := not_mem_of_deeper r (by simp only [PyData.depth]; omega) hb
    refine ⟨a :: bs, ReadAtMost.cons r (by simp only [PyData.depth]; omega) hb, ?_⟩
    simp only [PyData.depth, PyData.shown]
    obtain ⟨l⟩ := vs
    cases l with
    | nil =>
      have h5 : RSs h [] xs := h4
      cases h5
      simp only [PyData.shownAll, listText_nil]
      exact ReprK.listEmpty h1 h2 h3
    | cons x l => exact ReprK.list h1 h2 h3 na (by simpa using hk.length_eq) fun i y e => hk.item i y (by simpa using e)
  | _, _, .tuple (a := a) (xs := xs) h1 h2 h3 h4, hs, hz => by
    have z : (tupleText (PyData.shownAll xs)).length ≤ sizeLine := by simpa only [PyData.shown] using hz
    obtain ⟨bs, hb, hk⟩ := RSs.rp h4 (by simpa [PyData.showable] using hs) fun t ht => Nat.le_trans (tupleText_mem_le ht) z
    obtain ⟨as, r⟩ := RS.reads (.tuple h1 h2 h3 h4)
    have na : a ∉ bs := not_mem_of_deeper r (by simp only [PyData.depth]; omega) hb
    refine ⟨a :: bs, ReadAtMost.cons r (by simp only [PyData.depth]; omega) hb, ?_⟩
    simp only [PyData.depth, PyData.shown]
    exact ReprK.tuple h1 h2 h3 na hk
  | _, _, .dict (a := a) (es := es) (kvs := kvs) h1 h2 h3 hsys h4 h5, hs, hz => by
    have z : (dictText (PyData.shownKv kvs)).length ≤ sizeLine := by simpa only [PyData.shown] using hz
    obtain ⟨s1, s2⟩ := PyData.showableKv_split kvs (by simpa [PyData.showable] using hs)
    obtain ⟨b1, m1, k1⟩ := RSs.rp h4 s1 fun t ht => let ⟨p, hp, hl⟩ := PyData.shownKv_key_le kvs t ht; Nat.le_trans hl (Nat.le_trans (dictText_mem_le hp) z)
    obtain ⟨b2, m2, k2⟩ := RSs.rp h5 s2 fun t ht => let ⟨p, hp, hl⟩ := PyData.shownKv_val_le kvs t ht; Nat.le_trans hl (Nat.le_trans (dictText_mem_le hp) z)
    obtain ⟨as, r⟩ := RS.reads (.dict h1 h2 h3 hsys h4 h5)
    have hb : ReadAtMost h (PyData.depthKv kvs) (b1 ++ b2) := (m1.mono (PyData.depthAll_keys_le kvs)).append (m2.mono (PyData.depthAll_vals_le kvs))
    have na : a ∉ b1 ++ b2 := not_mem_of_deeper r (by simp only [PyData.depth]; omega) hb
    refine ⟨a :: (b1 ++ b2), ReadAtMost.cons r (by simp only [PyData.depth]; omega) hb, ?_⟩
    simp only [PyData.depth, PyData.shown, PyData.shownKv_eq]
    exact ReprK.dict h1 h2 h3 hsys na (ReprEntriesK.of_two es.toList _ _ (k1.more_le (fun b hb => List.mem_append_left _ hb) (PyData.depthAll_keys_le kvs)) (k2.more_le (fun b hb => List.mem_append_right _ hb) (PyData.depthAll_vals_le kvs)))
theorem RSs.rp : ∀ {vs : List Value} {ds : List PyData}, RSs h vs ds → PyData.showableAll ds = true → (∀ t ∈ PyData.shownAll ds, t.length ≤ sizeLine) → ∃ bs, ReadAtMost h (PyData.depthAll ds) bs ∧ ReprAllK prog w bs h (PyData.depthAll ds) vs (PyData.shownAll ds)
  | _, _, .nil, _, _ => ⟨[], (fun _ z => nomatch z), by simp only [PyData.shownAll]; exact .nil⟩
  | _, _, .cons (d := d) (ds := ds) r rs, hs, hz => by
    have s' : d.showable = true ∧ PyData.showableAll ds = true := by simpa [PyData.showableAll] using hs
    obtain ⟨b1, m1, k1⟩ := RS.rp r s'.1 (hz _ (by simp only [PyData.shownAll]; exact List.mem_cons_self ..))
    obtain ⟨b2, m2, k2⟩ := RSs.rp rs s'.2 fun t ht => hz t (by simp only [PyData.shownAll]; exact List.mem_cons_of_mem _ ht)
    refine ⟨b1 ++ b2, ?_, ?_⟩
    · simp only [PyData.depthAll]
      exact (m1.mono (Nat.le_max_left _ _)).append (m2.mono (Nat.le_max_right _ _))
    · simp only [PyData.depthAll, PyData.shownAll]
      exact .cons ((k1.more fun b hb => List.mem_append_left _ hb).level_le (Nat.le_max_left _ _)) (k2.more_le (fun b hb => List.mem_append_right _ hb) (Nat.le_max_right _ _))
end
theorem RS.ent {a : Addr} {o : Obj} {es : Array DictEntry} {n : Nat} {kvs : List (PyData × PyData)} (h1 : h.get? a = some o) (h2 : o.cls = .type "dict") (h3 : o.data = .dict es n) (hsys : (a == sysModules) = false) (h4 : RSs h (es.toList.map (·.key)) (kvs.map (·.1))) (h5 : RSs h (es.toList.map (·.val)) (kvs.map (·.2)))
    (hs : (PyData.dict kvs).showable = true) (hz : (PyData.dict kvs).shown.length ≤ sizeLine) : ∃ bs, ReadAtMost h (PyData.depthKv kvs) bs ∧ a ∉ bs ∧ ReprEntriesK prog w bs h (PyData.depthKv kvs) es.toList (List.zipWith (fun k v : Str => k ++ ": " ++ v) (PyData.shownAll (kvs.map (·.1))) (PyData.shownAll (kvs.map (·.2)))) := by
  have z : (dictText (PyData.shownKv kvs)).length ≤ sizeLine := by simpa only [PyData.shown] using hz
  obtain ⟨s1, s2⟩ := PyData.showableKv_split kvs (by simpa [PyData.showable] using hs)
  obtain ⟨b1, m1, k1⟩ := RSs.rp (prog := prog) (w := w) h4 s1 fun t ht => let ⟨p, hp, hl⟩ := PyData.shownKv_key_le kvs t ht; Nat.le_trans hl (Nat.le_trans (dictText_mem_le hp) z)
  obtain ⟨b2, m2, k2⟩ := RSs.rp (prog := prog) (w := w) h5 s2 fun t ht => let ⟨p, hp, hl⟩ := PyData.shownKv_val_le kvs t ht; Nat.le_trans hl (Nat.le_trans (dictText_mem_le hp) z)
  obtain ⟨as, r⟩ := RSs.reads h4
  obtain ⟨cs, q⟩ := RSs.reads h5
  have hb : ReadAtMost h (PyData.depthKv kvs) (b1 ++ b2) := (m1.mono (PyData.depthAll_keys_le kvs)).append (m2.mono (PyData.depthAll_vals_le kvs))
  exact ⟨b1 ++ b2, hb, not_mem_of_deeper (.dict h1 h2 h3 r q) (by simp only [PyData.depth]; omega) hb,
    ReprEntriesK.of_two es.toList _ _ (k1.more_le (fun b hb => List.mem_append_left _ hb) (PyData.depthAll_keys_le kvs)) (k2.more_le (fun b hb => List.mem_append_right _ hb) (PyData.depthAll_vals_le kvs))⟩
theorem RS.shows {a : Addr} {d : PyData} (r : RS h (.ref a) d) (hs : d.showable = true) (hz : d.shown.length ≤ sizeLine) : ∃ T idr, ShowsBy prog w h a d T idr := by
  cases r with
  | list h1 h2 h3 h4 =>
    rename_i o vs n xs
    have z : (listText (PyData.shownAll xs)).length ≤ sizeLine := by simpa only [PyData.shown] using hz
    obtain ⟨bs, hb, hk⟩ := RSs.rp (prog := prog) (w := w) h4 (by simpa [PyData.showable] using hs) fun t ht => Nat.le_trans (listText_mem_le ht) z
    obtain ⟨as, r⟩ := RS.reads (.list h1 h2 h3 h4)
    have na : a ∉ bs := not_mem_of_deeper r (by simp only [PyData.depth]; omega) hb
    refine ⟨"list", "list.__repr__", F.slot_list_repr.toG, F.slot_list_str, F.slot_list_format, fun s hk0 => ⟨o, hk0 _ _ h1, h2⟩, fun A E s Q hg hu hk0 hQ => ?_⟩
    simp only [PyData.depth] at hu
    simp only [PyData.shown] at hQ
    obtain ⟨l⟩ := vs
    cases l with
    | nil =>
      have h5 : RSs h [] xs := h4
      cases h5
      simp only [PyData.shownAll, listText_nil] at hQ
      exact call_list_repr_empty ⟨o, hk0 _ _ h1, h2⟩ (hk0 _ _ h1) h3 (hQ s.heap _ _ fun _ _ e => e)
    | cons x l => exact call_list_reprK h1 h2 h3 na (by simpa using hk.length_eq) (fun i y e => hk.item i y (by simpa using e)) hg (fun b _ => Clear.nil b) hu hk0 hQ z
  | tuple h1 h2 h3 h4 =>
    rename_i o vs n xs
    have z : (tupleText (PyData.shownAll xs)).length ≤ sizeLine := by simpa only [PyData.shown] using hz
    obtain ⟨bs, hb, hk⟩ := RSs.rp (prog := prog) (w := w) h4 (by simpa [PyData.showable] using hs) fun t ht => Nat.le_trans (tupleText_mem_le ht) z
    obtain ⟨as, r⟩ := RS.reads (.tuple h1 h2 h3 h4)
    have na : a ∉ bs := not_mem_of_deeper r (by simp only [PyData.depth]; omega) hb
    refine ⟨"tuple", "tuple.__repr__", F.slot_tuple_repr, F.slot_tuple_str, F.slot_tuple_format, fun s hk0 => ⟨o, hk0 _ _ h1, h2⟩, fun A E s Q hg hu hk0 hQ => ?_⟩
    simp only [PyData.depth] at hu
    simp only [PyData.shown] at hQ
    exact call_tuple_reprK h1 h2 h3 na hk hg (fun b _ => Clear.nil b) hu hk0 hQ z
  | dict h1 h2 h3 hsys h4 h5 =>
    rename_i o es n kvs
    obtain ⟨bs, hb, na, hE⟩ := RS.ent (prog := prog) (w := w) h1 h2 h3 hsys h4 h5 hs hz
    refine ⟨"dict", "dict.__repr__", F.slot_dict_repr, F.slot_dict_str, F.slot_dict_format, fun s hk0 => ⟨o, hk0 _ _ h1, h2⟩, fun A E s Q hg hu hk0 hQ => ?_⟩
    simp only [PyData.depth] at hu
    simp only [PyData.shown, PyData.shownKv_eq] at hQ
    exact call_dict_reprK h1 h2 h3 hsys na hE hg (fun b _ => Clear.nil b) hu hk0 hQ (by rw [← PyData.shownKv_eq]; simpa only [PyData.shown] using hz)
theorem repr_of_rs {A : Around} {E : Value → Shared → Prop} {s : Shared} {Q : Value → Shared → Prop} {a : Addr} {d : PyData} (r : RS h (.ref a) d) (hs : d.showable = true) (hg : A.guards = some []) (hu : A.units + (d.depth + 1) < cLine) (hk0 : ∀ b o, h.get? b = some o → s.heap.get? b = some o)
    (hQ : ∀ h' u tk, (∀ b o, s.heap.get? b = some o → h'.get? b = some o) → Q (.str d.shown u) { s with heap := h', toks := tk }) (hz : d.shown.length ≤ sizeLine) : wpAny (model prog w) A (call (.builtin "repr") [.ref a]) Q E s := by
  obtain ⟨T, idr, S⟩ := RS.shows (prog := prog) (w := w) r hs hz
  exact call_repr_slot (by omega) (S.typeIs s hk0) S.slotRepr (S.call A.in1 E s _ hg (by show A.units + 1 + d.depth < cLine; omega) hk0 fun h' u tk hk => ⟨_, _, rfl, hQ h' u tk hk⟩)
end
section
variable {K : PySem.W.Frag} {ρ : List Addr} {H : Hp} {st : Sto} {σ : L2.St}
def kyP : Ky → PyData
  | .inl i => .int i
  | .inr x => .str ⟨x.toArray⟩
theorem pd_rs {X : Cx} {pins : List (Addr × Obj)} {s : Shared} (I : Inv X pins σ H s) (S : SR X.K ρ st H) : ∀ (n : Nat) (d : D) (v : V) (u : Value) (q : PyData), RD X.K ρ H d v → RelV v u → pd st n d = some q → RS s.heap u q := by
  intro n
  induction n with
  | zero => intro d v u q _ _ e; cases e
  | succ n ih =>
    have all : ∀ (ds : List D) (vs : List V) (us : List Value) (qs : List PyData), RDs X.K ρ H ds vs → Vals vs us → optAll (pd st n) ds = some qs → RSs s.heap us qs := by
      intro ds
      induction ds with
      | nil => intro vs us qs r rv e; cases r; cases rv; cases e; exact .nil
      | cons d ds ihs =>
        intro vs us qs r rv e
        cases r with
        | cons r1 r2 =>
          cases rv with
          | cons q1 q2 =>
            unfold optAll at e
            split at e
            · rename_i y ys e1 e2
              cases e
              exact .cons (ih d _ _ y r1 q1 e1) (ihs _ _ ys r2 q2 e2)
            · cases e
    have kvs_ : ∀ (ks : List (Ky × D)) (ws : List (Key × V)) (vs : List (Key × Value)) (es : List DictEntry) (ps : List (PyData × PyData)), RKs X.K ρ H ks ws → KV ws vs → Pairs (mixKind X.prog X.w) es vs →
        optAll (fun kv : Ky × D => (pd st n kv.2).map fun p => ((match kv.1 with | .inl i => PySem.PyData.int i | .inr x => PySem.PyData.str ⟨x.toArray⟩), p)) ks = some ps → RSs s.heap (es.map (·.key)) (ps.map (·.1)) ∧ RSs s.heap (es.map (·.val)) (ps.map (·.2)) := by
      intro ks
      induction ks with
      | nil => intro ws vs es ps r rv pr e; cases r; cases rv; cases pr; cases e; exact ⟨.nil, .nil⟩
      | cons kd ks ihs =>
        intro ws vs es ps r rv pr e
        cases r with
        | @cons k d v ds vs0 r1 r2 =>
          cases rv with
          | @cons a0 b0 l1 l2 q1 q2 =>
            cases pr with
            | @cons e' kv' es' kvs' p1 p2 p3 =>
              unfold optAll at e
              split at e
              · rename_i y ys e1 e2
                cases e
                simp only [Option.map_eq_some_iff] at e1
                obtain ⟨p, e1, rfl⟩ := e1
                obtain ⟨h1, h2⟩ := ihs _ _ _ ys r2 q2 p3 e2
                refine ⟨.cons ?_ h1, .cons ?_ h2⟩
                · show RS s.heap e'.key _
                  have p1' : keyIs b0.1 e'.key = true := p1
                  rw [← q1.1] at p1'
                  rcases keyIs_shape p1' with ⟨i, t, a1, a2⟩ | ⟨x, t, a1, a2⟩
                  · cases k with
                    | inl j =>
                      unfold keyOf at a1
                      cases a1
                      rw [a2]
                      exact .int _ _
                    | inr j => unfold keyOf at a1; cases a1
                  · cases k with
                    | inl j => unfold keyOf at a1; cases a1
                    | inr j =>
                      unfold keyOf at a1
                      cases a1
                      rw [a2]
                      exact .str _ _
                · show RS s.heap e'.val p
                  rw [p2]
                  exact ih _ _ _ p r1 q1.2 e1
              · cases e
    intro d v u q r rv e
    unfold pd at e
    cases d with
    | non => cases r; cases e; cases rv; exact .none
    | bl b => cases r; cases e; cases rv; exact .bool _
    | int b => cases r; cases e; obtain ⟨t, rfl⟩ := rv; exact .int _ _
    | str b => cases r.str_inv; cases e; obtain ⟨t, rfl⟩ := rv; exact .str _ _
    | tup xs =>
      obtain ⟨a, vs, rfl, ha, ra⟩ := r.tup_inv
      cases rv
      simp only [Option.map_eq_some_iff] at e
      obtain ⟨qs, e, rfl⟩ := e
      obtain ⟨its, ri, ⟨o, ho, hc, m, hd⟩, _⟩ := I.tuple ha
      exact .tuple ho hc hd (all xs vs its qs ra ri e)
    | kl xs =>
      obtain ⟨a, vs, rfl, ha, ra⟩ := r.kl_inv
      cases rv
      simp only [Option.map_eq_some_iff] at e
      obtain ⟨qs, e, rfl⟩ := e
      obtain ⟨its, ri, ⟨o, m, ho, hc, _, hd⟩, _⟩ := I.list ha.sq
      exact .list ho hc hd (all xs vs its qs ra ri e)
    | obj i =>
      obtain ⟨a, rfl, ea⟩ := r.obj_inv
      cases rv
      simp only at e
      split at e
      · rename_i xs hi
        obtain ⟨_, ea', vs, ha, ra⟩ := S.get hi
        rw [ea] at ea'; cases ea'
        simp only [Option.map_eq_some_iff] at e
        obtain ⟨qs, e, rfl⟩ := e
        obtain ⟨its, ri, ⟨o, m, ho, hc, _, hd⟩, _⟩ := I.list (SqL.of ha)
        exact .list ho hc hd (all xs vs its qs ra ri e)
      · rename_i ks hi
        obtain ⟨_, ea', ws, ha, ra⟩ := S.get hi
        rw [ea] at ea'; cases ea'
        simp only [Option.map_eq_some_iff] at e
        obtain ⟨qs, e, rfl⟩ := e
        obtain ⟨_, hsys, vs, rel, o, es, ep, ho, hx, hd, _, pr, _⟩ := dk_of I.hok ha
        obtain ⟨h1, h2⟩ := kvs_ ks ws vs es.toList qs ra rel pr e
        exact .dict ho hx.1 hd hsys h1 h2
      · cases e
theorem pd_depth : ∀ (n : Nat) (d : D) (q : PyData), pd st n d = some q → q.depth ≤ n := by
  intro n
  induction n with
  | zero => intro d q e; cases e
  | succ n ih =>
    have all : ∀ (ds : List D) (qs : List PyData), optAll (pd st n) ds = some qs → PyData.depthAll qs ≤ n := by
      intro ds
      induction ds with
      | nil => intro qs e; cases e; simp [PyData.depthAll]
      | cons d ds ihs =>
        intro qs e
        unfold optAll at e
        split at e
        · rename_i y ys e1 e2
          cases e
          have h1 := ih d y e1
          have h2 := ihs ys e2
          simp only [PyData.depthAll]
          omega
        · cases e
    have kvs_ : ∀ (ks : List (Ky × D)) (ps : List (PyData × PyData)), optAll (fun kv : Ky × D => (pd st n kv.2).map fun p => ((match kv.1 with | .inl i => PySem.PyData.int i | .inr x => PySem.PyData.str ⟨x.toArray⟩), p)) ks = some ps → PyData.depthKv ps ≤ n := by
      intro ks
      induction ks with
      | nil => intro ps e; cases e; simp [PyData.depthKv]
      | cons kd ks ihs =>
        intro ps e
        unfold optAll at e
        split at e
        · rename_i y ys e1 e2
          cases e
          simp only [Option.map_eq_some_iff] at e1
          obtain ⟨p, e1, rfl⟩ := e1
          have h1 := ih _ p e1
          have h2 := ihs ys e2
          have h3 : (match kd.1 with | .inl i => PySem.PyData.int i | .inr x => PySem.PyData.str ⟨x.toArray⟩).depth = 0 := by
            cases kd.1 <;> rfl
          simp only [PyData.depthKv, h3]
          omega
        · cases e
    intro d q e
    unfold pd at e
    cases d with
    | non => cases e; simp [PyData.depth]
    | bl b => cases e; simp [PyData.depth]
    | int b => cases e; simp [PyData.depth]
    | str b => cases e; simp [PyData.depth]
    | tup xs =>
      simp only [Option.map_eq_some_iff] at e
      obtain ⟨qs, e, rfl⟩ := e
      have := all xs qs e
      simp only [PyData.depth]; omega
    | kl xs =>
      simp only [Option.map_eq_some_iff] at e
      obtain ⟨qs, e, rfl⟩ := e
      have := all xs qs e
      simp only [PyData.depth]; omega
    | obj i =>
      simp only at e
      split at e
      · simp only [Option.map_eq_some_iff] at e
        obtain ⟨qs, e, rfl⟩ := e
        have := all _ qs e
        simp only [PyData.depth]; omega
      · simp only [Option.map_eq_some_iff] at e
        obtain ⟨qs, e, rfl⟩ := e
        have := kvs_ _ qs e
        simp only [PyData.depth]; omega
      · cases e
end
section
variable {K : PySem.W.Frag} {E : XW K} {ρ ρ' ρ1 ρ2 ρ3 : List Addr} {H H' H1 H2 H3 : Hp} {d : D} {ds : List D} {v u : V} {vs : List V} {a p : Addr} {i : Nat} {l : Lo} {σ : L2.St} {st st1 st2 : Sto} {Q : VK}
/-- repr(x): by what it reads as -/
def rRepr (K : PySem.W.Frag) : RC := fun xs H Q => ∃ (x : V) (d : D) (ρ : List Addr) (st : Sto) (q : PyData), xs = [x] ∧ SR K ρ st H ∧ RD K ρ H d x ∧ pd st fuel d = some q ∧ q.showable = true ∧ q.shown.length ≤ sizeLine ∧ Q (.str q.shown) H
theorem or_repr {X : Cx} (hg : X.A.guards = some []) (hu : X.A.units + 64 < cLine) : CallR X (.builtin "repr") (rRepr X.K) := by
  intro pins s σ H xs us Q I r h
  obtain ⟨x, d, ρ, st, q, rfl, S, rd, e, hs, hl, hq⟩ := h
  cases r with
  | cons r1 r2 =>
    cases r2
    have hr := pd_rs I S _ _ _ _ _ rd r1 e
    have dep := pd_depth _ _ _ e
    have top : ∀ a, RS s.heap (.ref a) q → wpAny (model X.prog X.w) X.A (call (.builtin "repr") [.ref a]) (EP X pins σ Q) X.xe s := fun a hr =>
      repr_of_rs (h := s.heap) hr hs hg (by unfold fuel at dep; omega) (fun _ _ x => x) (fun h' u tk kp => ⟨.str _, H, I.kept (t' := tk) kp, ⟨_, rfl⟩, hq⟩) hl
    cases hr with
    | none => exact PySem.P.repr_of_none ⟨.str _, H, I.tok _, ⟨_, rfl⟩, hq⟩
    | bool b =>
      refine PySem.P.repr_of_bool ⟨.str _, H, I.tok _, ⟨_, rfl⟩, ?_⟩
      cases b <;> exact hq
    | int i t => exact PySem.P.repr_of_int (by simpa [PyData.showable] using hs) ⟨.str _, H, I.tok _, ⟨_, rfl⟩, hq⟩
    | str x t => exact PySem.P.repr_of_str ⟨.str _, H, I.tok _, ⟨_, rfl⟩, hq⟩ (by simpa only [PyData.shown] using hl)
    | list h1 h2 h3 h4 => exact top _ (.list h1 h2 h3 h4)
    | tuple h1 h2 h3 h4 => exact top _ (.tuple h1 h2 h3 h4)
    | dict h1 h2 h3 h4 h5 h6 => exact top _ (.dict h1 h2 h3 h4 h5 h6)
theorem cal_repr : Cal K (biF .repr) (rRepr K) := by
  refine cal1 (fun ρ H st x v Q F S r h => ?_) fun _ _ _ => rfl
  simp only [bi1, shownD] at h
  split at h
  · rename_i t e
    split at e
    · rename_i q eq
      split at e
      · rename_i hc
        cases e
        exact ⟨v, x, ρ, st, q, rfl, S, r, eq, hc.1, by rw [← line_eq]; exact hc.2, h _ _ _ Wle.refl S (.str _)⟩
      · cases e
    · cases e
  · exact h.elim
end
end Z

/-! ZSet: set(xs) of a list of ints. -/
namespace Z
open PySem L2 PySem.Spec PyProof.Rows
/-- a set as it is made -/
abbrev bareSet (w : World) : Obj := { cls := .type "set", dict := none, data := .set #[] 0 (.fresh 0 0 (!w.params.followText "set-order")) }
section
variable {P : Program} {w : World} {A : Around} {E : Value → Shared → Prop} {s : Shared}
/-- what is wished behind the filling of the set at c -/
def Filled (w : World) (s : Shared) (ns : List Int) (s2 : Shared) : Prop := ∃ (h' : Heap) (tk k : Nat), s2 = { s with heap := h', toks := tk } ∧ SetR w h' s.heap.objs.size (fun j => decide (j ∈ ns)) k ∧ k ≤ ns.length ∧ ∀ b o, s.heap.get? b = some o → h'.get? b = some o
theorem int_item {xs : Array Value} {ns : List Int} (h : IntsAre xs.toList ns) (hz : xs.size = ns.length) (i : Nat) (v : Value) (e : xs[i]? = some v) : ∃ k t, ns[i]? = some k ∧ v = .int k t := by
  have hi : i < ns.length := hz ▸ (Array.getElem?_eq_some_iff.mp e).1
  obtain ⟨t, q⟩ := PyProof.Rows.IntsAre.int_at h i v (by rw [Array.getElem?_toList, e])
  have g : ns[i]? = some ns[i] := List.getElem?_eq_getElem hi
  exact ⟨ns[i], t, g, by rw [q, List.getD_eq_getElem?_getD, g]; rfl⟩
/-- the filling itself: the loop over the list's iterator -/
theorem fill_list {l : Addr} {xs : Array Value} (ns : List Int) (hh : A.handled = none) (hl : s.heap.IsList l xs) (hit : IntsAre xs.toList ns) (hb : ns.length + 1 < scanBound) {R : Result → Shared → Prop}
    (hR : ∀ s2, Filled w s ns s2 → R (.ok (.ret .none)) s2) :
    codeAny (model P w) A (.builtin "set.update.loop" ⟨[.ref s.heap.objs.size, .ref (s.heap.push (bareSet w)).objs.size], []⟩) R
      { s with heap := (s.heap.push (bareSet w)).push { cls := .type "list_iterator", data := .fields #[.ref l, .int 0 0] } } := by
  have hz : xs.size = ns.length := by have q := hit.length; rw [Array.length_toList] at q; exact q
  obtain ⟨ol, hol, _⟩ := id hl
  have lS : l < s.heap.objs.size := Heap.lt_size hol
  have sz : (s.heap.push (bareSet w)).objs.size = s.heap.objs.size + 1 := Heap.size_push ..
  have at0 : (s.heap.push (bareSet w)).get? s.heap.objs.size = some (bareSet w) := Heap.get?_push_size _ rfl
  have ne : l ≠ (s.heap.push (bareSet w)).objs.size := fun q => absurd (q.trans sz) (Nat.ne_of_lt (Nat.lt_succ_of_lt lS))
  have out : s.heap.objs.size ∉ [(s.heap.push (bareSet w)).objs.size, l] := by
    intro q
    rcases List.mem_cons.mp q with q | q
    · exact absurd (q.trans sz) (Nat.ne_of_lt (Nat.lt_succ_self _))
    · exact absurd (List.mem_singleton.mp q) (Nat.ne_of_gt lS)
  refine set_update_ints (Walks.list (A := A.in1) hh _ l ne xs).toS s.heap.objs.size out ns hz hb (int_item hit hz) (xs.size - 0) 0 _ rfl (Nat.zero_le _) ⟨⟨_, Heap.get?_push_size _ rfl, rfl, rfl⟩, (hl.push _).push _⟩ ⟨0, Nat.le_refl 0, setR_new_at (Heap.get?_push_of_some _ at0)⟩ ?_
  rintro ⟨h', g', d', tk', os'⟩ k hm hk hS
  cases (show g' = s.gens from hm.gens)
  cases (show d' = s.drawn from hm.drawn)
  cases (show os' = s.os from hm.os)
  refine hR _ ⟨h', tk', k, rfl, hS, hz ▸ hk, fun b o e => ?_⟩
  have bS := Heap.lt_size e
  refine hm.heap b o (fun q => ?_) (Heap.get?_push_of_some _ (Heap.get?_push_of_some _ e))
  rcases List.mem_cons.mp q with q | q
  · exact absurd q (Nat.ne_of_lt bS)
  · exact absurd ((List.mem_singleton.mp q).trans sz) (Nat.ne_of_lt (Nat.lt_succ_of_lt bS))
set_option maxHeartbeats 3200000 in
/-- set(l), l a list of ints -/
theorem call_set_lst {l : Addr} {xs : Array Value} (ns : List Int) {Q : Value → Shared → Prop} (hh : A.handled = none) (hl : s.heap.IsList l xs) (hit : IntsAre xs.toList ns) (hb : ns.length + 1 < scanBound)
    (hQ : ∀ s2, Filled w s ns s2 → Q (.ref s.heap.objs.size) s2) : wpAny (model P w) A (call (.type "set") [.ref l]) Q E s := by
  have g1 := F.called_set.notType; have g2 := F.called_set.canCreate; have g3 := F.typeCall_set_1 (.ref l); have g4 := F.called_set.made; have g5 := F.called_set.sub
  obtain ⟨c, tl, g6⟩ := F.called_set.mro
  refine wpAny_call (codeAny_of_tree (show wpAny _ _ (callAny (.type "set") _) _ _ _ from wpAny_pure ⟨Code.quiet_builtin _ (by decide +kernel), codeAny_builtin F.entry_type_call ?_⟩))
  rw [Around.under_plain (weight_type_call_type "set" [.ref l] []) rfl]
  repeat (any_goals (first | assumption | wp_step))
  -- the set of nothing
  refine codeAny_mono (code_set_led1 (.ref l) (E := E) (Q₁ := fun o t => o = .ref s.heap.objs.size ∧ t = { s with heap := s.heap.push (bareSet w) }) ⟨rfl, rfl⟩) fun r t hr => ?_
  obtain e | fl := r
  · exact hr
  cases fl with
  | ret o =>
    obtain ⟨rfl, rfl⟩ := hr
    have at0 : (s.heap.push (bareSet w)).get? s.heap.objs.size = some (bareSet w) := Heap.get?_push_size _ rfl
    have ty0 : Shared.TypeIs { s with heap := s.heap.push (bareSet w) } (.ref s.heap.objs.size) "set" := ⟨_, at0, rfl⟩
    have f1 := F.called_set.init.lookup; have f2 := F.called_set.init.bind (.ref s.heap.objs.size)
    repeat (any_goals (first | assumption | wp_step))
    -- its filling
    refine codeAny_mono (codeAny_call_builtin (R := wants (fun r t2 => r = .none ∧ Filled w s ns t2) E) F.called_set.init.plain F.entry_set_init (check_set_init_1 ty0 ?_)) fun r2 t2 h2 => ?_
    · obtain ⟨⟨ca, da, ea, sa⟩, q1, q2, nl, q3⟩ := id hl
      simp only at q2 q3
      cases q2; cases q3
      have ql : (s.heap.push (bareSet w)).get? l = some ⟨.type "list", da, .seq xs nl, sa⟩ := Heap.get?_push_of_some _ q1
      have k1 := F.sub_list_set; have k2 := F.sub_list_frozenset
      have k3 : (Value.type "list" == Value.type "dict") = false := by decide
      unfold Builtin.«set.__init__» noKeywords Builtin.Frozenset.updateFrom
      generalize hPI : pyIter = PI
      wp_walk
      subst hPI
      refine wpAny_pyIter_list (⟨_, ql, rfl, nl, rfl⟩ : (s.heap.push (bareSet w)).IsList l xs) (wpAny_bind (wpAny_runValue (fill_list ns (by simp [hh]) hl hit hb fun s2 hf => ?_)))
      exact wpAny_pure (wpAny_pure ⟨rfl, hf⟩)
    · obtain e2 | fl2 := r2
      · exact h2
      cases fl2 with
      | ret v =>
        obtain ⟨rfl, hf⟩ := h2
        obtain ⟨h', tk, k, rfl, hS, hk, hold⟩ := id hf
        repeat (any_goals (first | assumption | wp_step))
        exact hQ _ hf
      | _ => exact h2.elim
  | _ => exact hr.elim
end
end Z

/-! ZChk: whether a term of ZCore is what a Python text says. -/
namespace Z
open PySem L2
def strB (x : Str) (s : List Nat) : Bool := decide (x.cps.toList = s)
/-- the module's names -/
structure Gt where
  cs : List (Str × D)
  fs : List Str
  /-- of each def: its keyword-only parameter and the default -/
  kf : List (Option (Str × D)) := []
  /-- dicts of ints -/
  ds : List (Str × List (Int × Int)) := []
def Gt.kw (G : Gt) (f : Nat) : Option (Str × D) := G.kf.getD f none
def biNames : List Str := ["len", "abs", "int", "all", "any", "list", "tuple", "divmod", "sum", "min", "max", "ord", "chr", "str", "repr", "sorted", "isinstance", "range", "bool", "dict", "set", "enumerate", "zip", "reversed"]
def biName : Bi → Str
  | .len => "len" | .abs => "abs" | .int => "int" | .all => "all" | .any => "any" | .list => "list" | .tuple => "tuple" | .divmod => "divmod" | .sum => "sum"
  | .min => "min" | .max => "max" | .ord => "ord" | .chr => "chr" | .str => "str" | .repr => "repr" | .sorted => "sorted" | .dict => "dict"
def tyName : Ty → Str
  | .int => "int" | .bool => "bool" | .str => "str" | .tuple => "tuple" | .list => "list" | .dict => "dict"
def mtName : Mt → Str
  | .append => "append" | .reverse => "reverse" | .extend => "extend" | .pop => "pop" | .join => "join" | .upper => "upper" | .popi => "pop"
def bopOf : Bop → Operator
  | .add => .Add | .sub => .Sub | .mul => .Mult | .div => .FloorDiv | .mod => .Mod | .pow => .Pow
def copOf : Cop → CmpOp
  | .eq => .Eq | .ne => .NotEq | .lt => .Lt | .le => .LtE | .gt => .Gt | .ge => .GtE | .is => .Is | .isn => .IsNot | .mem => .In | .nmem => .NotIn
def glB (sc : Scope) (x : Str) : Bool := decide (sc.names.lookup x = some .globalImplicit)
def okN (x : Str) : Bool := !(x == ("__debug__" : Str)) && !(x == ("__classdict__" : Str)) && !(x == ("__name__" : Str))
def visB (sc : Scope) (x : Str) : Bool := decide (sc.names.lookup x = some .local) || decide (sc.names.lookup x = some .cell) || decide (sc.names.lookup x = some .free)
def locB (sc : Scope) (x : Str) : Bool := decide (sc.names.lookup x = some .local) || decide (sc.names.lookup x = some .cell)
def lclB (sc : Scope) (x : Str) : Bool := decide (sc.names.lookup x = some .local)
/-- no display whose order is looked at -/
def notSet : Expr → Bool
  | .Set _ _ _ => false
  | _ => true
def noComp : Expr → Bool
  | .ListComp .. | .SetComp .. | .DictComp .. => false
  | _ => true
def noTup : Expr → Bool
  | .Tuple .. | .List .. => false
  | _ => true
def noStar : Expr → Bool
  | .Starred _ _ => false
  | _ => true
/-- not 'super()' -/
def noSuper : Expr → Bool
  | .Call (.Name _ _) [] [] _ => false
  | _ => true
def keyConst (k : Ky) : Option Expr → Bool
  | some (.Constant (.int i) _ _) => decide (k = .inl i)
  | some (.Constant (.str x) _ _) => match k with
    | .inr s => strB x s
    | _ => false
  | _ => false
def keysB : List Ky → List (Option Expr) → Bool
  | [], [] => true
  | k :: ks, e :: es => keyConst k e && keysB ks es
  | _, _ => false

/-- the keywords told, of the one keyword-only parameter -/
def kwB (o : Option (Str × D)) (kws : List Keyword) (d : D) : Bool := match o with
  | some (k, d') => decide (d' = d) && (match kws with
    | [] => true
    | [w] => decide (w.arg = some k)
    | _ => false)
  | none => false
/-- a comprehension -/
def isLc : Expr → Bool
  | .ListComp .. | .DictComp .. => true
  | _ => false
/-- the types of a tuple -/
def tysB (sc : Scope) : List Ty → List Expr → Bool
  | [], [] => true
  | t :: ts, .Name z _ :: zs => decide (z = tyName t) && glB sc z && tysB sc ts zs
  | _, _ => false
def celB (sc : Scope) (x : Str) : Bool := decide (sc.names.lookup x = some .cell)
def isComp : Ex → Bool
  | .comp .. => true
  | _ => false
def isCompD : Ex → Bool
  | .compD .. => true
  | _ => false
structure Ck where
  e : Scope → Expr → Bool
  l : Scope → List Expr → Bool
  /-- a walk: its target, what is walked -/
  w : Scope → Expr → Expr → Bool
  /-- a target; fn: its cells were made at the block's start -/
  t : (Str → Bool) → Scope → Expr → Bool
  ts : (Str → Bool) → Scope → List Expr → Bool
  s : Scope → Stmt → Bool
  b : Scope → List Stmt → Bool
def Ck.no : Ck := ⟨fun _ _ => false, fun _ _ => false, fun _ _ _ => false, fun _ _ _ => false, fun _ _ _ => false, fun _ _ => false, fun _ _ => false⟩
def fnAll : Str → Bool := fun _ => true
def fnOf (sc : Scope) : Str → Bool := fun x => sc.names.lookup x == some .cell
/-- name = [..] stores while the comprehension's frame is there -/
def swB (sc : Scope) (x : Str) (csc : Scope) : Bool := !(csc.names.any fun nk => nk.1 == x && (nk.2 == .local || nk.2 == .cell))

def ck (G : Gt) (N : List Str) : Ex → Ck
  | .nil => { Ck.no with l := fun _ es => es.isEmpty, b := fun _ ss => ss.isEmpty, ts := fun _ _ es => es.isEmpty }
  | .cons a r => { Ck.no with
      l := fun sc es => (match es with | e :: es => (ck G N a).e sc e && noStar e && (ck G N r).l sc es | [] => false)
      ts := fun fn sc es => (match es with | e :: es => (ck G N a).t fn sc e && noStar e && (ck G N r).ts fn sc es | [] => false)
      b := fun sc ss => (match ss with | s :: ss => (ck G N a).s sc s && (ck G N r).b sc ss | [] => false) }
  | .var i => { Ck.no with e := fun sc e => (match e with | .Name x _ => decide (N[i]? = some x) && visB sc x && okN x | _ => false) }
  | .glb i d => { Ck.no with e := fun sc e => (match e with | .Name x _ => decide (G.cs[i]? = some (x, d)) && glB sc x && okN x | _ => false) }
  | .int i => { Ck.no with e := fun _ e => (match e with | .Constant (.int j) _ _ => decide (i = j) | _ => false) }
  | .str i => { Ck.no with e := fun _ e => (match e with | .Constant (.str j) _ _ => strB j i | _ => false) }
  | .bl i => { Ck.no with e := fun _ e => (match e with | .Constant (.bool j) _ _ => decide (i = j) | _ => false) }
  | .non => { Ck.no with e := fun _ e => (match e with | .Constant .none _ _ => true | _ => false) }
  | .bin o a b => { Ck.no with e := fun sc e => (match e with | .BinOp x p y _ => decide (p = bopOf o) && (ck G N a).e sc x && (ck G N b).e sc y | _ => false) }
  | .neg a => { Ck.no with e := fun sc e => (match e with | .UnaryOp .USub x _ => (ck G N a).e sc x | _ => false) }
  | .not a => { Ck.no with e := fun sc e => (match e with | .UnaryOp .Not x _ => (ck G N a).e sc x | _ => false) }
  | .and a b => { Ck.no with e := fun sc e => (match e with | .BoolOp .And (x :: y :: r) p => (ck G N a).e sc x && (ck G N b).e sc (.BoolOp .And (y :: r) p) | _ => false) }
  | .or a b => { Ck.no with e := fun sc e => (match e with | .BoolOp .Or (x :: y :: r) p => (ck G N a).e sc x && (ck G N b).e sc (.BoolOp .Or (y :: r) p) | _ => false) }
  | .one a => { Ck.no with e := fun sc e => (match e with | .BoolOp _ [x] _ => (ck G N a).e sc x | _ => false) }
  | .cmp o a b => { Ck.no with e := fun sc e => (match e with | .Compare x [p] [y] _ => decide (p = copOf o) && notSet y && (ck G N a).e sc x && (ck G N b).e sc y | _ => false) }
  | .cmp2 o q a b c => { Ck.no with e := fun sc e => (match e with | .Compare x [p, r] [y, z] _ => decide (p = copOf o) && decide (r = copOf q) && notSet z && (ck G N a).e sc x && (ck G N b).e sc y && (ck G N c).e sc z | _ => false) }
  | .ite c a b => { Ck.no with e := fun sc e => (match e with | .IfExp z x y _ => (ck G N c).e sc z && (ck G N a).e sc x && (ck G N b).e sc y | _ => false) }
  | .tup es => { Ck.no with e := fun sc e => (match e with | .Tuple xs _ _ => (ck G N es).l sc xs | _ => false) }
  | .lst es => { Ck.no with e := fun sc e => (match e with | .List xs _ => (ck G N es).l sc xs | _ => false) }
  | .dct ks vs => { Ck.no with e := fun sc e => (match e with | .Dict xs ys _ => keysB ks xs && decide (xs.length = ys.length) && decide (ks.length ≤ 15) && (ck G N vs).l sc ys | _ => false) }
  | .ix a i => { Ck.no with e := fun sc e => (match e with | .Subscript x (.Slice _ _ _ _) _ => false | .Subscript x y _ => (ck G N a).e sc x && (ck G N i).e sc y | _ => false) }
  | .sl a lo hi => { Ck.no with e := fun sc e => (match e with | .Subscript x (.Slice p q none _) _ => (ck G N a).e sc x &&
      (match p with | none => isNil lo | some y => !(isNil lo) && (ck G N lo).e sc y) && (match q with | none => isNil hi | some y => !(isNil hi) && (ck G N hi).e sc y) | _ => false) }
  | .rev a => { Ck.no with e := fun sc e => (match e with | .Subscript x (.Slice none none (some (.UnaryOp .USub (.Constant (.int 1) _ _) _)) _) _ => (ck G N a).e sc x | _ => false) }
  | .call f as => { Ck.no with e := fun sc e => (match e with | .Call (.Name x _) es [] _ => decide (G.fs[f]? = some x) && glB sc x && okN x && (ck G N as).l sc es && (G.kw f).isNone | _ => false) }
  | .callK f as kv d => { Ck.no with e := fun sc e => (match e with | .Call (.Name x _) (y :: ys) kws _ => decide (G.fs[f]? = some x) && glB sc x && okN x && (ck G N as).l sc (y :: ys) && (ck G N kv).l sc (kws.map (·.value)) && kwB (G.kw f) kws d | _ => false) }
  | .gix i kvs a => { Ck.no with e := fun sc e => (match e with | .Subscript (.Name _ _) (.Slice _ _ _ _) _ => false | .Subscript (.Name x _) y _ => decide (G.ds[i]? = some (x, kvs)) && glB sc x && okN x && (ck G N a).e sc y | _ => false) }
  | .bi b as => { Ck.no with e := fun sc e => (match e with | .Call (.Name x _) (y :: ys) [] _ => decide (x = biName b) && glB sc x && (ck G N as).l sc (y :: ys) | _ => false) }
  | .isi a t => { Ck.no with e := fun sc e => (match e with | .Call (.Name x _) [y, .Name z _] [] _ => decide (x = "isinstance") && glB sc x && decide (z = tyName t) && glB sc z && noStar y && (ck G N a).e sc y | _ => false) }
  | .mt m o as => { Ck.no with e := fun sc e => (match e with | .Call (.Attribute x n p) es [] q => decide (n = mtName m) && decide (p.endLine = q.line) && decide (es.length < 20) && noSuper x && (ck G N o).e sc x && (ck G N as).l sc es | _ => false) }
  | .comp e tg it c own => { Ck.no with e := fun sc ex => (match ex with
      | .ListComp x [⟨t, i, ifs, 0⟩] csc _ => L2.blkC N sc csc (own.filterMap fun j => (N[j]?).map fun n => (n, j)) && decide ((own.filterMap fun j => (N[j]?).map fun n => (n, j)).map (·.2) = own) && notSet i &&
        (ck G N it).w sc t i && (ck G N tg).t (fnOf csc) (L2.relS csc sc) t && tgOwn own tg && (ck G N e).e (L2.relS csc sc) x &&
        (match ifs with | [] => isNil c | [y] => !(isNil c) && (ck G N c).e (L2.relS csc sc) y | _ => false)
      | _ => false) }
  | .sset b => { Ck.no with e := fun sc e => (match e with | .Call (.Name z _) [.Call (.Name x _) [y] [] _] [] _ => decide (z = "sorted") && glB sc z && decide (x = "set") && glB sc x && noStar y && (ck G N b).e sc y | _ => false) }
  | .comp2 e tg it tg2 it2 own own2 => { Ck.no with e := fun sc ex => (match ex with
      | .ListComp x [⟨t, i, [], 0⟩, ⟨t2, i2, [], 0⟩] csc _ => L2.blkC N sc csc (own.filterMap fun j => (N[j]?).map fun n => (n, j)) && decide ((own.filterMap fun j => (N[j]?).map fun n => (n, j)).map (·.2) = own) && notSet i && notSet i2 && own2.all (own.contains ·) &&
        (ck G N it).w sc t i && (ck G N tg).t (fnOf csc) (L2.relS csc sc) t && tgOwn own tg && (ck G N it2).w (L2.relS csc sc) t2 i2 && (ck G N tg2).t (fnOf csc) (L2.relS csc sc) t2 && tgOwn own2 tg2 && (ck G N e).e (L2.relS csc sc) x
      | _ => false) }
  | .compD ek ev tg it c own => { Ck.no with e := fun sc ex => (match ex with
      | .DictComp x z [⟨t, i, ifs, 0⟩] csc _ => L2.blkC N sc csc (own.filterMap fun j => (N[j]?).map fun n => (n, j)) && decide ((own.filterMap fun j => (N[j]?).map fun n => (n, j)).map (·.2) = own) && notSet i &&
        (ck G N it).w sc t i && (ck G N tg).t (fnOf csc) (L2.relS csc sc) t && tgOwn own tg && (ck G N ek).e (L2.relS csc sc) x && (ck G N ev).e (L2.relS csc sc) z &&
        (match ifs with | [] => isNil c | [y] => !(isNil c) && (ck G N c).e (L2.relS csc sc) y | _ => false)
      | _ => false) }
  | .itR3 a b c => { Ck.no with w := fun sc _ e => (match e with | .Call (.Name x _) [y, z, u] [] _ => decide (x = "range") && glB sc x && noStar y && noStar z && noStar u && (ck G N a).e sc y && (ck G N b).e sc z && (ck G N c).e sc u | _ => false) }
  | .lr1 b => { Ck.no with e := fun sc e => (match e with | .Call (.Name z _) [.Call (.Name x _) [y] [] _] [] _ => decide (z = "list") && glB sc z && decide (x = "range") && glB sc x && noStar y && (ck G N b).e sc y | _ => false) }
  | .lr2 a b => { Ck.no with e := fun sc e => (match e with | .Call (.Name w _) [.Call (.Name x _) [y, z] [] _] [] _ => decide (w = "list") && glB sc w && decide (x = "range") && glB sc x && noStar y && noStar z && (ck G N a).e sc y && (ck G N b).e sc z | _ => false) }
  | .get1 o k => { Ck.no with e := fun sc e => (match e with | .Call (.Attribute x n p) [y] [] q => decide (n = "get") && decide (p.endLine = q.line) && noSuper x && noStar y && (ck G N o).e sc x && (ck G N k).e sc y | _ => false) }
  | .get2 o k d => { Ck.no with e := fun sc e => (match e with | .Call (.Attribute x n p) [y, z] [] q => decide (n = "get") && decide (p.endLine = q.line) && noSuper x && noStar y && noStar z && (ck G N o).e sc x && (ck G N k).e sc y && (ck G N d).e sc z | _ => false) }
  | .lsI a => { Ck.no with e := fun sc e => (match e with | .Call (.Name z _) [.Call (.Attribute y n p) [] [] q] [] _ => decide (z = "list") && glB sc z && decide (n = "items") && decide (p.endLine = q.line) && noSuper y && (ck G N a).e sc y | _ => false) }
  | .isiM a ts => { Ck.no with e := fun sc e => (match e with | .Call (.Name x _) [y, .Tuple zs _ _] [] _ => decide (x = "isinstance") && glB sc x && tysB sc ts zs && noStar y && (ck G N a).e sc y | _ => false) }
  | .itE e => { Ck.no with w := fun sc t x => (match t with | .Tuple _ _ _ => true | _ => false) && (match x with | .Call (.Name z _) [y] [] _ => decide (z = "enumerate") && glB sc z && noStar y && (ck G N e).e sc y | _ => false) }
  | .itK i => { Ck.no with w := fun sc _ e => (match e with | .Name x _ => decide (N[i]? = some x) && visB sc x && okN x | _ => false) }
  | .itS e => { Ck.no with w := fun sc _ x => (ck G N e).e sc x }
  | .itR1 b => { Ck.no with w := fun sc _ e => (match e with | .Call (.Name x _) [y] [] _ => decide (x = "range") && glB sc x && noStar y && (ck G N b).e sc y | _ => false) }
  | .itR2 a b => { Ck.no with w := fun sc _ e => (match e with | .Call (.Name x _) [y, z] [] _ => decide (x = "range") && glB sc x && noStar y && noStar z && (ck G N a).e sc y && (ck G N b).e sc z | _ => false) }
  | .tv i => { Ck.no with t := fun fn sc e => (match e with | .Name x _ => decide (N[i]? = some x) && locB sc x && (fn x || lclB sc x) | _ => false) }
  | .tt ts => { Ck.no with t := fun fn sc e => (match e with | .Tuple xs _ _ => (ck G N ts).ts fn sc xs | _ => false) }
  | .tix o i => { Ck.no with t := fun _ sc e => (match e with | .Subscript _ (.Slice _ _ _ _) _ => false | .Subscript x y _ => (ck G N o).e sc x && (ck G N i).e sc y | _ => false) }
  | .tsl o lo hi => { Ck.no with t := fun _ sc e => (match e with | .Subscript x (.Slice (some y) (some z) none _) _ => (ck G N o).e sc x && (ck G N lo).e sc y && (ck G N hi).e sc z | _ => false) }
  | .expr e => { Ck.no with s := fun sc s => (match s with | .Expr x _ => noComp x && (ck G N e).e sc x | _ => false) }
  | .asg t e => { Ck.no with s := fun sc s => (match s with
      | .Assign [y] x p => noStar y && (ck G N t).t fnAll sc y && (ck G N e).e sc x && (match y with
        | .Name n q => (match x with
          | .ListComp _ _ csc q2 => celB sc n || (isComp e && lclB sc n && decide (q.line = q2.line) && swB sc n csc)
          | .DictComp _ _ _ csc q2 => celB sc n || (isCompD e && lclB sc n && decide (q.line = q2.line) && swB sc n csc)
          | .SetComp .. => false
          | _ => true)
        | .Tuple .. => noTup x
        | .List .. => false
        | _ => true)
      | _ => false) }
  | .sif c a b => { Ck.no with s := fun sc s => (match s with | .If x y z _ => (ck G N c).e sc x && (ck G N a).b sc y && (ck G N b).b sc z | _ => false) }
  | .sfor t it b => { Ck.no with s := fun sc s => (match s with | .For x y z [] _ => notSet y && (ck G N t).t fnAll sc x && (ck G N it).w sc x y && (ck G N b).b sc z | _ => false) }
  | .swh c b => { Ck.no with s := fun sc s => (match s with | .While x z [] _ => (ck G N c).e sc x && (ck G N b).b sc z | _ => false) }
  | .ret e => { Ck.no with s := fun sc s => (match s with | .Return (some x) _ => (ck G N e).e sc x | _ => false) }
  | .retN => { Ck.no with s := fun _ s => (match s with | .Return none _ => true | _ => false) }
  | .pass => { Ck.no with s := fun _ s => (match s with | .Pass _ => true | _ => false) }
  | .brk => { Ck.no with s := fun _ s => (match s with | .Break _ => true | _ => false) }
  | .cnt => { Ck.no with s := fun _ s => (match s with | .Continue _ => true | _ => false) }
  | .lockS _ a => { Ck.no with s := (ck G N a).s }
  | .lockE _ a => { Ck.no with e := fun sc e => isLc e && (ck G N a).e sc e }
  | .rai => { Ck.no with s := fun _ _ => true }
  | .fz _ a => { Ck.no with s := (ck G N a).s }
  | .new a => { Ck.no with s := (ck G N a).s }
where
  /-- a comprehension's target stores its own names alone -/
  tgOwn (own : List Nat) : Ex → Bool
    | .tv i => own.contains i
    | .tt ts => tgOwn own ts
    | .cons a r => tgOwn own a && tgOwn own r
    | .nil => true
    | _ => false
end Z

/-! ZWalk: what is walked; loops; targets; statements, as readings. -/
namespace Z
open PySem L2 PySem.Spec PyProof.Rows
section
variable {K : PySem.W.Frag} {E : XW K} {ρ ρ' ρ1 ρ2 ρ3 : List Addr} {H H' H1 H2 H3 : Hp} {d : D} {ds : List D} {v u : V} {vs : List V} {a p : Addr} {i : Nat} {l l' : Lo} {σ σ' : L2.St} {st st1 st2 : Sto} {Q : VK}

/-! ### what is walked -/
/-- the iterator gives a source's items, as long as the source stands -/
def JR (K : PySem.W.Frag) (src : Src) (ρ : List Addr) (H : Hp) (J : It) : Prop := ∀ (i : Nat) ρ1 H1 st1, Wle K ρ H ρ1 H1 → SR K ρ1 st1 H1 → src.ok st1 = true →
  (src.its.length ≤ i → J.stop i H1) ∧ ∀ d, src.its[i]? = some d → J.go i H1 ∧ ∀ x H2, J.yld i H1 x H2 → SR K ρ1 st1 H2 ∧ Wle K ρ1 H1 ρ1 H2 ∧ RD K ρ1 H2 d x
def wR (E : XW K) (f : Lo → Sto → R Src) : TI := fun σ H R => ∃ ρ l st, LR K ρ H l σ ∧ SR K ρ st H ∧
  (f l st).post (fun src st' => ∀ ρ' H' J, Wle K ρ H ρ' H' → SR K ρ' st' H' → JR K src ρ' H' J → R J H') (E.p ρ H)
theorem wR_of {β : Type} {fa : Lo → Sto → R Src} {k : Src → Sto → R β} {QQ : β → Sto → Prop} {Q : It → Hp → Prop} (L : LR K ρ H l σ) (S : SR K ρ st H) (h : ((fa l st).bind k).post QQ (E.p ρ H))
    (hQ : ∀ src st1 ρ1 H1 J, Wle K ρ H ρ1 H1 → LR K ρ1 H1 l σ → SR K ρ1 st1 H1 → JR K src ρ1 H1 J → (k src st1).post QQ (E.p ρ1 H1) → Q J H1) : wR E fa σ H Q :=
  ⟨ρ, l, st, L, S, R.post_mono (R.post_bind.mp h) (fun d st1 h1 ρ1 H1 v w1 S1 r1 => hQ d st1 ρ1 H1 v w1 (L.up w1) S1 r1 (R.post_mono h1 (fun _ _ x => x) fun _ _ => E.mono w1)) fun _ _ x => x⟩
theorem jr_list {xs : List D} (hi : ρ[i]? = some a) : JR K ⟨xs, some (i, .lst xs)⟩ ρ H (Itl K a) := by
  intro n ρ1 H1 st1 w S ok
  have e : st1[i]? = some (.lst xs) := by simpa [Src.ok] using ok
  obtain ⟨b, eb, vs, ha, ra⟩ := S.get e
  have := w.pre _ _ hi
  rw [this] at eb; cases eb
  have sq : SqL K H1 a vs := SqL.of ha
  refine ⟨fun h => ⟨vs, sq, by rw [← ra.length]; exact h⟩, fun d hd => ?_⟩
  obtain ⟨v, ev, rv⟩ := ra.get hd
  refine ⟨⟨vs, v, sq, ev⟩, ?_⟩
  rintro x H2 ⟨rfl, h⟩
  have := h vs sq
  rw [ev] at this; cases this
  exact ⟨S, Wle.refl, rv⟩
theorem jr_tup {xs : List D} (ha : SqT K H a vs) (ra : RDs K ρ H xs vs) : JR K ⟨xs, none⟩ ρ H (Itt K a) := by
  intro n ρ1 H1 st1 w S _
  have sq := w.tup _ _ ha
  have ra := ra.up w
  refine ⟨fun h => ⟨vs, sq, by rw [← ra.length]; exact h⟩, fun d hd => ?_⟩
  obtain ⟨v, ev, rv⟩ := ra.get hd
  refine ⟨⟨vs, v, sq, ev⟩, ?_⟩
  rintro x H2 ⟨rfl, h⟩
  have := h vs sq
  rw [ev] at this; cases this
  exact ⟨S, Wle.refl, rv⟩
theorem jr_kl {xs : List D} (ha : FL K H a vs) (ra : RDs K ρ H xs vs) : JR K ⟨xs, none⟩ ρ H (Itl K a) := by
  intro n ρ1 H1 st1 w S _
  have sq := (w.fl _ _ ha).sq
  have ra := ra.up w
  refine ⟨fun h => ⟨vs, sq, by rw [← ra.length]; exact h⟩, fun d hd => ?_⟩
  obtain ⟨v, ev, rv⟩ := ra.get hd
  refine ⟨⟨vs, v, sq, ev⟩, ?_⟩
  rintro x H2 ⟨rfl, h⟩
  have := h vs sq
  rw [ev] at this; cases this
  exact ⟨S, Wle.refl, rv⟩
theorem jr_str {z : List Nat} : JR K ⟨z.map fun c => .str [c], none⟩ ρ H (Its ⟨z.toArray⟩) := by
  intro n ρ1 H1 st1 w S _
  refine ⟨fun h => by simpa [Its] using h, fun d hd => ?_⟩
  rw [List.getElem?_map] at hd
  simp only [Option.map_eq_some_iff] at hd
  obtain ⟨c, hc, rfl⟩ := hd
  have hl := (List.getElem?_eq_some_iff.mp hc).1
  refine ⟨by simpa [Its] using hl, ?_⟩
  rintro x H2 ⟨rfl, c', h, rfl⟩
  have : z[n]? = some c' := by simpa using h
  rw [hc] at this; cases this
  exact ⟨S, Wle.refl, .str' rfl⟩
theorem jr_keys {kvs : List (Ky × D)} {o : Obj} {ws : List (Key × V)} {k : Nat} (hk : ρ[k]? = some a) (ho : H a = some (.frz o (.dK ws))) (hr : RKs K ρ H kvs ws) : JR K ⟨kvs.map fun kv => keyD kv.1, some (k, .dctL kvs)⟩ ρ H (Itk a o ws) := by
  intro n ρ1 H1 st1 w S ok
  have e : st1[k]? = some (.dctL kvs) := by simpa [Src.ok] using ok
  have h1 := w.fd _ _ _ ho
  have hl := hr.length
  refine ⟨fun h => ⟨h1, by simpa [hl] using h⟩, fun d hd => ?_⟩
  have rk := rks_keys (hr.up w)
  obtain ⟨v, ev, rv⟩ := rk.get hd
  have hn : n < ws.length := by
    have := (List.getElem?_eq_some_iff.mp ev).1
    simpa using this
  refine ⟨⟨h1, hn⟩, ?_⟩
  rintro x H2 ⟨rfl, key, v2, e2, rfl⟩
  rw [List.getElem?_map, e2] at ev
  cases ev
  exact ⟨S, Wle.refl, rv⟩
theorem jr_rng3 {a b c : Int} : JR K ⟨rng3 a b c, none⟩ ρ H (Itc a c (rgN a b c)) := by
  intro n ρ1 H1 st1 w S _
  have hl : (rng3 a b c).length = rgN a b c := by simp [rng3]
  refine ⟨fun h => by rw [hl] at h; exact h, fun d hd => ?_⟩
  have hn : n < rgN a b c := by rw [← hl]; exact (List.getElem?_eq_some_iff.mp hd).1
  refine ⟨hn, ?_⟩
  rintro x H2 ⟨rfl, rfl⟩
  unfold rng3 at hd
  rw [List.getElem?_map, List.getElem?_range hn] at hd
  cases hd
  exact ⟨S, Wle.refl, .int _⟩
theorem jr_rng {a b : Int} : JR K ⟨rng a b, none⟩ ρ H (Itr a (b - a).toNat) := by
  intro n ρ1 H1 st1 w S _
  have hl : (rng a b).length = (b - a).toNat := by simp [rng]
  refine ⟨fun h => by rw [hl] at h; exact h, fun d hd => ?_⟩
  have hn : n < (b - a).toNat := by rw [← hl]; exact (List.getElem?_eq_some_iff.mp hd).1
  refine ⟨hn, ?_⟩
  rintro x H2 ⟨rfl, rfl⟩
  unfold rng at hd
  rw [List.getElem?_map, List.getElem?_range hn] at hd
  cases hd
  exact ⟨S, Wle.refl, .int _⟩

section
variable {X : Cx}
/-- a list, a tuple, a text -/
def iAny (K : PySem.W.Frag) (te : TE) : TI := fun σ H R => te σ H fun x H1 => (∃ a, x = .ref a ∧ (∃ xs, SqL K H1 a xs) ∧ R (Itl K a) H1) ∨ (∃ a, x = .ref a ∧ (∃ xs, SqT K H1 a xs) ∧ R (Itt K a) H1) ∨ (∃ z, x = .str z ∧ R (Its z) H1) ∨ ∃ d o kvs, x = .ref d ∧ H1 d = some (.frz o (.dK kvs)) ∧ R (Itk d o kvs) H1
theorem pi_any {tg e : Expr} {te : TE} (he : PE X e te) : PI X tg e (iAny X.K te) := by
  constructor
  intro pins s σ H R I h
  refine thn (he.run pins s σ H _ I h) ?_
  rintro v s1 ⟨x, H1, I1, r1, q⟩
  have fresh : ∀ b ∈ [s1.heap.objs.size], FpOk X pins H1 b := by
    intro b hb
    cases (List.mem_singleton.mp hb)
    exact I1.fpOk (Nat.le_refl _) (I1.hok.fresh (Nat.le_refl _))
  rcases q with ⟨a, rfl, ⟨xs, hq⟩, q⟩ | ⟨a, rfl, ⟨xs, hq⟩, q⟩ | ⟨z, rfl, q⟩ | ⟨d, o, kvs, rfl, hd, q⟩
  · cases r1
    obtain ⟨its, rv, pl, hz⟩ := I1.list hq
    apply wpAny_pyIter_list pl.isList
    exact ⟨_, [s1.heap.objs.size], _, _, H1, rfl, I1.kept (t' := s1.toks) fun b o e => Heap.get?_push_of_some _ e, turn_list a _, ⟨_, Heap.get?_push_size _ rfl, rfl, rfl⟩, fresh, q⟩
  · cases r1
    obtain ⟨its, rv, pl, hz⟩ := I1.tuple hq
    apply wpAny_pyIter_tuple (show s1.heap.IsTuple a its.toArray from pl)
    exact ⟨_, [s1.heap.objs.size], _, _, H1, rfl, I1.kept (t' := s1.toks) fun b o e => Heap.get?_push_of_some _ e, turn_tuple a _, ⟨_, Heap.get?_push_size _ rfl, rfl, rfl⟩, fresh, q⟩
  · obtain ⟨t, rfl⟩ := r1
    cases ha : z.cps.all (· < 128) with
    | false => exact wpAny_pyIter_wide ha (pi_one (tk := s1.toks) I1 _ (turn_str _ z t "str_iterator" (.inr rfl)) ⟨_, Heap.get?_push_size _ rfl, rfl, rfl⟩ q)
    | true => exact wpAny_pyIter_ascii ha (pi_one (tk := s1.toks) I1 _ (turn_str _ z t "str_ascii_iterator" (.inl rfl)) ⟨_, Heap.get?_push_size _ rfl, rfl, rfl⟩ q)
  · cases r1
    obtain ⟨hs, hgd, hx, es, ep, vs, hdt, hsz, kv, hm⟩ := I1.frzK hd
    refine iter_keys hs hgd hx hdt (pi_one (tk := s1.toks) I1 _ (turn_keys _ hdt) ⟨_, Heap.get?_push_size _ rfl, rfl, ?_⟩ q)
    rw [hsz] <;> rfl
theorem PI.weak {tg e : Expr} {w w' : TI} (h : PI X tg e w) (k : ∀ σ H R, w' σ H R → w σ H R) : PI X tg e w' := ⟨fun pins s σ H R I q => h.run pins s σ H R I (k _ _ _ q)⟩
end

/-! ### targets -/
/-- what a target may store: its own slots, if they are told -/
def WP : Option (List Nat) → L2.St → L2.St → Prop
  | none, _, _ => True
  | some own, σ, σ' => L2.wipe σ' own = L2.wipe σ own
theorem WP.refl {o : Option (List Nat)} {σ : L2.St} : WP o σ σ := by cases o <;> simp [WP]
theorem WP.trans {o : Option (List Nat)} {a b c : L2.St} (h : WP o a b) (h' : WP o b c) : WP o a c := by
  cases o with
  | none => trivial
  | some o => exact Eq.trans h' h
theorem wipe_len (σ : L2.St) (vs : List Nat) : (L2.wipe σ vs).length = σ.length := L2.wipe_length σ vs
theorem wipe_set {i : Nat} {x : Option V} : ∀ {vs : List Nat} {σ : L2.St}, i ∈ vs → L2.wipe (σ.set i x) vs = L2.wipe σ vs
  | [], _, h => by cases h
  | v :: vs, σ, h => by
    unfold L2.wipe
    by_cases hv : i ∈ vs
    · rw [wipe_set hv]
    · have : i = v := by
        rcases List.mem_cons.mp h with h | h
        · exact h
        · exact absurd h hv
      subst this
      clear h
      induction vs with
      | nil => simp [L2.wipe]
      | cons w vs ih =>
        unfold L2.wipe
        have nw : i ≠ w := fun e => hv (by simp [e])
        have hv' : i ∉ vs := fun e => hv (by simp [e])
        rw [List.set_comm _ _ (Ne.symm nw), ih hv', List.set_comm _ _ nw.symm]
def tR (E : XW K) (o : Option (List Nat)) (f : D → Lo → Sto → R Lo) : TG := fun v σ H Q => ∃ ρ l st d, LR K ρ H l σ ∧ SR K ρ st H ∧ RD K ρ H d v ∧
  (f d l st).post (fun l' st' => ∀ ρ' H' σ', Wle K ρ H ρ' H' → SR K ρ' st' H' → LR K ρ' H' l' σ' → WP o σ σ' → Q σ' H') (E.p ρ H)
def tsR (E : XW K) (o : Option (List Nat)) (f : List D → Lo → Sto → R Lo) : TGs := fun vs σ H Q => ∃ ρ l st ds, LR K ρ H l σ ∧ SR K ρ st H ∧ RDs K ρ H ds vs ∧
  (f ds l st).post (fun l' st' => ∀ ρ' H' σ', Wle K ρ H ρ' H' → SR K ρ' st' H' → LR K ρ' H' l' σ' → WP o σ σ' → Q σ' H') (E.p ρ H)
theorem tR_of {β : Type} {o : Option (List Nat)} {f : D → Lo → Sto → R Lo} {k : Lo → Sto → R β} {QQ : β → Sto → Prop} {Q : L2.St → Hp → Prop} (L : LR K ρ H l σ) (S : SR K ρ st H) (r : RD K ρ H d v) (h : ((f d l st).bind k).post QQ (E.p ρ H))
    (hQ : ∀ l' st1 ρ1 H1 σ', Wle K ρ H ρ1 H1 → SR K ρ1 st1 H1 → LR K ρ1 H1 l' σ' → WP o σ σ' → (k l' st1).post QQ (E.p ρ1 H1) → Q σ' H1) : tR E o f v σ H Q :=
  ⟨ρ, l, st, d, L, S, r, R.post_mono (R.post_bind.mp h) (fun l1 st1 h1 ρ1 H1 σ1 w1 S1 L1 p1 => hQ l1 st1 ρ1 H1 σ1 w1 S1 L1 p1 (R.post_mono h1 (fun _ _ x => x) fun _ _ => E.mono w1)) fun _ _ x => x⟩
theorem t_name {o : Option (List Nat)} {i : Nat} (ho : ∀ own, o = some own → i ∈ own) {Q : L2.St → Hp → Prop} (h : tR E o (fun d l s => R.ok (l.set i (some d)) s) v σ H Q) : gName i v σ H Q := by
  obtain ⟨ρ, l, st, d, L, S, r, h⟩ := h
  refine h ρ H _ Wle.refl S (L.set r i) ?_
  cases o with
  | none => trivial
  | some own => exact wipe_set (ho own rfl)
theorem ts_nil {o : Option (List Nat)} {Q : L2.St → Hp → Prop} (h : tsR E o (fun ds l s => (match ds with | [] => R.ok l s | _ => .bad)) vs σ H Q) : gNil vs σ H Q := by
  obtain ⟨ρ, l, st, ds, L, S, r, h⟩ := h
  cases ds with
  | nil => cases r; exact ⟨rfl, h ρ H _ Wle.refl S L WP.refl⟩
  | cons d ds => exact h.elim
theorem ts_cons {o : Option (List Nat)} {f : D → Lo → Sto → R Lo} {g : List D → Lo → Sto → R Lo} {Q : L2.St → Hp → Prop}
    (h : tsR E o (fun ds l s => (match ds with | d :: ds => (f d l s).bind fun l1 s1 => g ds l1 s1 | [] => .bad)) vs σ H Q) : gCons (tR E o f) (tsR E o g) vs σ H Q := by
  obtain ⟨ρ, l, st, ds, L, S, r, h⟩ := h
  cases ds with
  | nil => exact h.elim
  | cons d ds =>
    cases r with
    | cons r1 r2 =>
      refine ⟨_, _, rfl, tR_of L S r1 h fun l1 st1 ρ1 H1 σ1 w1 S1 L1 p1 h1 => ?_⟩
      exact ⟨ρ1, l1, st1, ds, L1, S1, r2.up w1, R.post_mono h1 (fun l2 st2 q ρ2 H2 σ2 w2 S2 L2 p2 => q ρ2 H2 σ2 (w1.trans w2) S2 L2 (p1.trans p2)) fun _ _ x => x⟩
theorem t_tup {n : Nat} {o : Option (List Nat)} {f : List D → Lo → Sto → R Lo} {Q : L2.St → Hp → Prop} (hE : ∀ ρ H x s, ¬ E.p ρ H x s) (hn : ∀ (ds : List D) (l : Lo) (s : Sto) (Q : Lo → Sto → Prop) (F : D → Sto → Prop), (∀ x s, ¬ F x s) → (f ds l s).post Q F → ds.length = n)
    (h : tR E o (fun d l s => (match d with | .tup ds => f ds l s | _ => .bad)) v σ H Q) : gTup K n (tsR E o f) v σ H Q := by
  obtain ⟨ρ, l, st, d, L, S, r, h⟩ := h
  dsimp only at h
  split at h
  · rename_i ds
    obtain ⟨a, vs, rfl, ha, ra⟩ := r.tup_inv
    refine ⟨a, vs, rfl, ha, ?_, ρ, l, st, ds, L, S, ra, h⟩
    rw [← ra.length]
    exact hn ds l st _ _ (hE ρ H) h
  · exact h.elim

/-! ### o[i] = v -/
def rSetA : TSet := fun o i v H Q => rSetL o i v H Q ∨ ∃ a H4, o = .ref a ∧ DPut H a i v H4 ∧ Q H4
theorem set_any {X : Cx} (hu : X.A.units + 1 < cLine) : PSet X rSetA := by
  intro pins s σ H o i v ov iv u Q I ro ri rv h
  rcases h with h | ⟨a, H4, rfl, g, q⟩
  · exact set_list pins s σ H o i v ov iv u Q I ro ri rv h
  · cases ro
    exact d_setItem hu I g ri rv fun s' I' => ⟨_, I', q⟩
theorem rks_put {kvs : List (Ky × D)} {ws : List (Key × V)} (r : RKs K ρ H kvs ws) (k : Ky) (rd : RD K ρ H d v) : RKs K ρ H (putK kvs k d) (L2.putK ws (keyOf k) v) := by
  have an : (kvs.any fun kv => decide (kv.1 = k)) = ws.any fun kv => decide (kv.1 = keyOf k) := by
    induction r with
    | nil => rfl
    | @cons k2 d v ds vs r1 r2 ih =>
      simp only [List.any_cons, ih]
      congr 1
      exact decide_eq_decide.mpr ⟨fun h => by rw [h], fun h => keyOf_inj h⟩
  unfold putK L2.putK
  rw [← an]
  split
  · rename_i hh
    clear an hh
    induction r with
    | nil => exact .nil
    | @cons k2 d2 v2 ds vs r1 r2 ih =>
      simp only [List.map_cons]
      by_cases e : k2 = k
      · subst e
        simp only [if_true]
        exact .cons rd ih
      · have e' : ¬ keyOf k2 = keyOf k := fun q => e (keyOf_inj q)
        simp only [e, e', if_false]
        exact .cons r1 ih
  · rename_i hh
    clear an hh
    induction r with
    | nil => exact .cons rd .nil
    | cons r1 r2 ih => exact .cons r1 ih
theorem st_set {x y d : D} {xv yv : V} {Q : Hp → Prop} {F : D → Sto → Prop} (S : SR K ρ st H) (rx : RD K ρ H x xv) (ry : RD K ρ H y yv) (rd : RD K ρ H d v)
    (h : (stIx x y d st).post (fun _ st' => ∀ H', Wle K ρ H ρ H' → SR K ρ st' H' → Q H') F) : rSetA xv yv v H Q := by
  unfold stIx at h
  split at h
  · obtain ⟨a, rfl, ea⟩ := rx.obj_inv
    split at h
    · rename_i xs hi
      obtain ⟨_, ea', vs, ha, ra⟩ := S.get hi
      rw [ea] at ea'; cases ea'
      split at h
      · cases ry
        split at h
        · rename_i j hj
          refine .inl ⟨a, vs, _, j, rfl, rfl, ha, by rw [← ra.length]; exact hj, ?_⟩
          obtain ⟨u1, hu1, q1, q2⟩ := (S.ats _ _ _ hi ea).isAt
          have w : Wle K ρ H ρ (upd H a (.lst (vs.set j v))) := Wle.chg hu1 q1 q2 _
          exact h _ w (S.chg (o' := .lst (xs.set j d)) ea hi ⟨_, upd_same, (ra.set rd j).up w⟩).1
        · exact h.elim
      · exact h.elim
    · rename_i kvs hi
      obtain ⟨_, ea', ws, ha, ra⟩ := S.get hi
      rw [ea] at ea'; cases ea'
      split at h
      · rename_i k hk
        cases key_V ry hk
        split at h
        · rename_i hl
          refine .inr ⟨a, _, rfl, DPut.k ha (by rw [← ra.length, ← line_eq]; exact hl), ?_⟩
          obtain ⟨u1, hu1, q1, q2⟩ := (S.ats _ _ _ hi ea).isAt
          have w : Wle K ρ H ρ (upd H a (.dK (L2.putK ws (keyOf k) v))) := Wle.chg hu1 q1 q2 _
          exact h _ w (S.chg (o' := .dct (putK kvs k d)) ea hi ⟨_, upd_same, (rks_put ra k rd).up w⟩).1
        · exact h.elim
      · exact h.elim
    · exact h.elim
  · exact h.elim
end
end Z

/-! ZStm: statements, loops, comprehensions as readings. -/
namespace Z
open PySem L2
section
variable {K : PySem.W.Frag} {E : XW K} {ρ ρ' ρ1 ρ2 ρ3 : List Addr} {H H' H1 H2 H3 : Hp} {d : D} {ds : List D} {v u : V} {vs : List V} {a p : Addr} {i : Nat} {l l' : Lo} {σ σ' : L2.St} {st st1 st2 : Sto} {Q : VK} {D : Ends}
/-- a statement's end -/
def FlK (K : PySem.W.Frag) (D : Ends) (ρ : List Addr) (H : Hp) (σ : L2.St) : Fl → Prop
  | .nx => D.nx σ H
  | .brk => D.bk σ H
  | .cnt => D.ct σ H
  | .ret d => ∀ v, RD K ρ H d v → D.rt v H
def SK (K : PySem.W.Frag) (D : Ends) (ρ : List Addr) (H : Hp) : Fl × Lo → Sto → Prop := fun r st' => ∀ ρ' H' σ', Wle K ρ H ρ' H' → SR K ρ' st' H' → LR K ρ' H' r.2 σ' → FlK K D ρ' H' σ' r.1
theorem SK.up {r : Fl × Lo} (h : SK K D ρ H r st) (w : Wle K ρ H ρ' H') : SK K D ρ' H' r st := fun ρ2 H2 σ2 w2 => h ρ2 H2 σ2 (w.trans w2)
def sR (E : XW K) (f : Lo → Sto → R (Fl × Lo)) : TS := fun D σ H => ∃ ρ l st, LR K ρ H l σ ∧ SR K ρ st H ∧ (f l st).post (SK K D ρ H) (E.p ρ H)
theorem sR_mk {f : Lo → Sto → R (Fl × Lo)} {QQ : Fl × Lo → Sto → Prop} (L : LR K ρ H l σ) (S : SR K ρ st H) (h : (f l st).post QQ (E.p ρ H)) (hq : ∀ r s, QQ r s → SK K D ρ H r s) : sR E f D σ H := ⟨ρ, l, st, L, S, R.post_mono h hq fun _ _ x => x⟩
/-- a statement, then the rest -/
theorem s_seq {f g : Lo → Sto → R (Fl × Lo)} (h : sR E (fun l s => (f l s).bind fun r1 s1 => (match r1.1 with | .nx => g r1.2 s1 | _ => .ok r1 s1)) D σ H) : tSeq (sR E f) (sR E g) D σ H := by
  obtain ⟨ρ, l, st, L, S, h⟩ := h
  refine ⟨ρ, l, st, L, S, R.post_mono (R.post_bind.mp h) ?_ fun _ _ x => x⟩
  rintro ⟨fl, l1⟩ st1 h1 ρ1 H1 σ1 w1 S1 L1
  cases fl with
  | nx => exact ⟨ρ1, l1, st1, L1, S1, R.post_mono h1 (fun _ _ q => q.up w1) fun _ _ => E.mono w1⟩
  | brk => exact h1 ρ1 H1 σ1 w1 S1 L1
  | cnt => exact h1 ρ1 H1 σ1 w1 S1 L1
  | ret d => exact h1 ρ1 H1 σ1 w1 S1 L1
theorem s_nil (h : sR (K := K) E (fun l s => R.ok (.nx, l) s) D σ H) : tNext D σ H := by
  obtain ⟨ρ, l, st, L, S, h⟩ := h
  exact h ρ H σ Wle.refl S L
theorem s_brk (h : sR (K := K) E (fun l s => R.ok (.brk, l) s) D σ H) : tBreak D σ H := by
  obtain ⟨ρ, l, st, L, S, h⟩ := h
  exact h ρ H σ Wle.refl S L
theorem s_cnt (h : sR (K := K) E (fun l s => R.ok (.cnt, l) s) D σ H) : tCont D σ H := by
  obtain ⟨ρ, l, st, L, S, h⟩ := h
  exact h ρ H σ Wle.refl S L
theorem s_retN (h : sR (K := K) E (fun l s => R.ok (.ret .non, l) s) D σ H) : tRetN D σ H := by
  obtain ⟨ρ, l, st, L, S, h⟩ := h
  exact h ρ H σ Wle.refl S L _ .non
theorem s_expr {f : Lo → Sto → R Z.D} (h : sR (K := K) E (fun l s => (f l s).bind fun _ s1 => .ok (.nx, l) s1) D σ H) : tDrop (eR E f) D σ H := by
  obtain ⟨ρ, l, st, L, S, h⟩ := h
  exact eR_of L S h fun d st1 ρ1 H1 v w1 L1 S1 r1 h1 => h1 ρ1 H1 σ w1 S1 L1
theorem s_ret {f : Lo → Sto → R Z.D} (h : sR (K := K) E (fun l s => (f l s).bind fun d s1 => .ok (.ret d, l) s1) D σ H) : tRet (eR E f) D σ H := by
  obtain ⟨ρ, l, st, L, S, h⟩ := h
  exact eR_of L S h fun d st1 ρ1 H1 v w1 L1 S1 r1 h1 => h1 ρ1 H1 σ w1 S1 L1 v r1
theorem s_asg {f : Lo → Sto → R Z.D} {t : Z.D → Lo → Sto → R Lo} (h : sR (K := K) E (fun l s => (f l s).bind fun d s1 => (t d l s1).bind fun l1 s2 => .ok (.nx, l1) s2) D σ H) : tAsg (eR E f) (tR E none t) D σ H := by
  obtain ⟨ρ, l, st, L, S, h⟩ := h
  exact eR_of L S h fun d st1 ρ1 H1 v w1 L1 S1 r1 h1 => tR_of L1 S1 r1 h1 fun l2 st2 ρ2 H2 σ2 w2 S2 L2 p2 h2 => h2 ρ2 H2 σ2 (w1.trans w2) S2 L2
theorem s_if {c : Lo → Sto → R Bool} {f g : Lo → Sto → R (Fl × Lo)} (h : sR (K := K) E (fun l s => (c l s).bind fun k s1 => if k = true then f l s1 else g l s1) D σ H) : tIfS (bR E c) (sR E f) (sR E g) D σ H := by
  obtain ⟨ρ, l, st, L, S, h⟩ := h
  refine bR_of L S h fun k st1 ρ1 H1 w1 L1 S1 h1 => ?_
  cases k with
  | true => exact ⟨ρ1, l, st1, L1, S1, R.post_mono h1 (fun _ _ q => q.up w1) fun _ _ x => x⟩
  | false => exact ⟨ρ1, l, st1, L1, S1, R.post_mono h1 (fun _ _ q => q.up w1) fun _ _ x => x⟩
/-- the end of a turn -/
theorem turn_end {D : Ends} {r : Fl × Lo} {k : Lo → Sto → R (Fl × Lo)} {QQ : Fl × Lo → Sto → Prop} {F : Z.D → Sto → Prop}
    (h : (match r.1 with
      | .nx => k r.2 st1
      | .cnt => k r.2 st1
      | .brk => R.ok (.nx, r.2) st1
      | .ret v => R.ok (.ret v, r.2) st1).post QQ F) (N : L2.St → Hp → Prop) (hq : ∀ r s, QQ r s → SK K D ρ H r s) (w : Wle K ρ H ρ1 H1) (S : SR K ρ1 st1 H1) (L : LR K ρ1 H1 r.2 σ)
    (hN : (k r.2 st1).post QQ F → N σ H1) : FlK K { D with nx := N, ct := N, bk := D.nx } ρ1 H1 σ r.1 := by
  obtain ⟨fl, l1⟩ := r
  cases fl with
  | nx => exact hN h
  | cnt => exact hN h
  | brk => exact hq _ _ h ρ1 H1 σ w S L
  | ret v => exact hq _ _ h ρ1 H1 σ w S L
theorem s_for {fw : Lo → Sto → R Src} {t : Z.D → Lo → Sto → R Lo} {b : Lo → Sto → R (Fl × Lo)} (h : sR (K := K) E (fun l s => (fw l s).bind fun src s1 => forL src t b src.its l s1) D σ H) : tFor (wR E fw) (tR E none t) (sR E b) D σ H := by
  obtain ⟨ρ, l, st, L, S, h⟩ := h
  refine wR_of L S h fun src st1 ρ1 H1 J w1 L1 S1 jr h1 => ?_
  refine ⟨fun i m σ' H' => m = src.its.length - i ∧ i ≤ src.its.length ∧ ∃ ρ' l' st', Wle K ρ1 H1 ρ' H' ∧ LR K ρ' H' l' σ' ∧ SR K ρ' st' H' ∧ (forL src t b (src.its.drop i) l' st').post (SK K D ρ H) (E.p ρ' H'),
    ⟨src.its.length, by simp, Nat.zero_le _, ρ1, l, st1, Wle.refl, L1, S1, h1⟩, ?_⟩
  rintro i m σ' H' ⟨rfl, hi, ρ', l', st', w', L', S', h'⟩
  by_cases hl : i < src.its.length
  · right
    rw [List.drop_eq_getElem_cons hl] at h'
    unfold forL at h'
    split at h'
    · rename_i ok
      obtain ⟨go, yl⟩ := (jr i ρ' H' st' w' S' ok).2 src.its[i] (by simp [hl])
      refine ⟨go, fun σ2 H2 => ∃ ρ2 l2 st2, Wle K ρ1 H1 ρ2 H2 ∧ LR K ρ2 H2 l2 σ2 ∧ SR K ρ2 st2 H2 ∧ (forL src t b (src.its.drop (i + 1)) l2 st2).post (SK K D ρ H) (E.p ρ2 H2), ?_, ?_⟩
      · rintro σ2 H2 ⟨ρ2, l2, st2, w2, q⟩
        exact ⟨src.its.length - (i + 1), by omega, rfl, hl, ρ2, l2, st2, w2, q⟩
      · intro x H2 y
        obtain ⟨S2, w2, r2⟩ := yl x H2 y
        refine tR_of (L'.up w2) S2 r2 (R.post_mono h' (fun _ _ x => x) fun _ _ => E.mono w2) fun l3 st3 ρ3 H3 σ3 w3 S3 L3 _ h3 => ?_
        refine sR_mk (QQ := fun r s => (match r.1 with
          | .nx => forL src t b (src.its.drop (i + 1)) r.2 s
          | .cnt => forL src t b (src.its.drop (i + 1)) r.2 s
          | .brk => R.ok (.nx, r.2) s
          | .ret v => R.ok (.ret v, r.2) s).post (SK K D ρ H) (E.p ρ3 H3)) L3 S3 (R.post_bind.mp h3) ?_
        intro r s hq ρ4 H4 σ4 w4 S4 L4
        have wall := (w1.trans w').trans (w2.trans (w3.trans w4))
        refine turn_end hq _ (fun _ _ x => x) wall S4 L4 fun hk => ?_
        exact ⟨ρ4, r.2, s, w'.trans (w2.trans (w3.trans w4)), L4, S4, R.post_mono hk (fun _ _ x => x) fun _ _ => E.mono w4⟩
    · exact h'.elim
  · left
    have e : i = src.its.length := by omega
    subst e
    rw [List.drop_length] at h'
    unfold forL at h'
    split at h'
    · rename_i ok
      exact ⟨(jr _ ρ' H' st' w' S' ok).1 (Nat.le_refl _), h' ρ' H' σ' (w1.trans w') S' L'⟩
    · exact h'.elim
theorem s_while {c : Lo → Sto → R Bool} {b : Lo → Sto → R (Fl × Lo)} {n : Nat} (h : sR (K := K) E (fun l s => whL c b n l s) D σ H) : tWhile (bR E c) (sR E b) D σ H := by
  obtain ⟨ρ, l, st, L, S, h⟩ := h
  refine ⟨fun m σ' H' => ∃ ρ' l' st', Wle K ρ H ρ' H' ∧ LR K ρ' H' l' σ' ∧ SR K ρ' st' H' ∧ (whL c b m l' st').post (SK K D ρ H) (E.p ρ' H'), ⟨n, ρ, l, st, Wle.refl, L, S, h⟩, ?_⟩
  rintro m σ' H' ⟨ρ', l', st', w', L', S', h'⟩
  cases m with
  | zero => exact h'.elim
  | succ m =>
    unfold whL at h'
    refine bR_of L' S' h' fun k st1 ρ1 H1 w1 L1 S1 h1 => ?_
    cases k with
    | true =>
      simp only [if_true] at h1 ⊢
      refine ⟨fun σ2 H2 => ∃ ρ2 l2 st2, Wle K ρ H ρ2 H2 ∧ LR K ρ2 H2 l2 σ2 ∧ SR K ρ2 st2 H2 ∧ (whL c b m l2 st2).post (SK K D ρ H) (E.p ρ2 H2), fun σ2 H2 q => ⟨m, Nat.lt_succ_self m, q⟩, ?_⟩
      refine sR_mk (QQ := fun r s => (match r.1 with
        | .nx => whL c b m r.2 s
        | .cnt => whL c b m r.2 s
        | .brk => R.ok (.nx, r.2) s
        | .ret v => R.ok (.ret v, r.2) s).post (SK K D ρ H) (E.p ρ1 H1)) L1 S1 (R.post_bind.mp h1) ?_
      intro r s hq ρ4 H4 σ4 w4 S4 L4
      refine turn_end hq _ (fun _ _ x => x) (w'.trans (w1.trans w4)) S4 L4 fun hk => ?_
      exact ⟨ρ4, r.2, s, w'.trans (w1.trans w4), L4, S4, R.post_mono hk (fun _ _ x => x) fun _ _ => E.mono w4⟩
    | false =>
      simp only [Bool.false_eq_true, if_false] at h1 ⊢
      exact h1 ρ1 H1 σ' (w'.trans w1) S1 L1

/-! ### comprehensions -/
/-- no exception is wished -/
def E0 : XW K := ⟨fun _ _ _ _ => False, fun _ x => x⟩
theorem noex_post {α : Type} {r : R α} {Q : α → Sto → Prop} {F : Z.D → Sto → Prop} (h : r.noex.post Q F) : r.post Q fun _ _ => False := by
  cases r with
  | ok a s => exact h
  | ex a s => exact h
  | bad => exact h
theorem e_comp {fw : Lo → Sto → R Src} {t : Z.D → Lo → Sto → R Lo} {c : Lo → Sto → R Bool} {e : Lo → Sto → R Z.D} {own : List Nat}
    (h : eR (K := K) E (fun l s => (fw l s).bind fun src s1 => (comL src (wipe l own) t c e s1.length src.its [] (s1 ++ [.lst []])).noex.bind fun _ s2 => .ok (.obj s1.length) s2) σ H Q) :
    tLc (wR E fw) (tR (K := K) E0 (some own) t) (bR (K := K) E0 c) (eR (K := K) E0 e) own σ H Q := by
  obtain ⟨ρ, l, st, L, S, h⟩ := h
  refine wR_of L S h fun src st1 ρ1 H1 J w1 L1 S1 jr h1 => ?_
  intro D hD
  have wN : Wle K ρ1 H1 (ρ1 ++ [D]) (upd H1 D (.lst [])) := Wle.new hD _
  have SN : SR K (ρ1 ++ [D]) (st1 ++ [.lst []]) (upd H1 D (.lst [])) := S1.newO hD ⟨[], upd_same, .nil⟩
  have atk : (ρ1 ++ [D])[st1.length]? = some D := by rw [← S1.len]; simp
  -- what is wanted at the end
  let G : Unit → Sto → Prop := fun _ s2 => Kont K ρ H Q (.obj st1.length) s2
  have h1 := noex_post (R.post_mono (R.post_bind.mp h1) (Q' := G) (fun _ _ x => x) fun _ _ x => x)
  refine ⟨fun i m H' => m = src.its.length - i ∧ i ≤ src.its.length ∧ ∃ ρ' acc st', Wle K (ρ1 ++ [D]) (upd H1 D (.lst [])) ρ' H' ∧ SR K ρ' st' H' ∧
      (comL src (wipe l own) t c e st1.length (src.its.drop i) acc st').post G fun _ _ => False,
    ⟨src.its.length, by simp, Nat.zero_le _, ρ1 ++ [D], [], st1 ++ [.lst []], Wle.refl, SN, by rw [List.drop_zero]; exact h1⟩, ?_⟩
  rintro i m H' ⟨rfl, hi, ρ', acc, st', w', S', h'⟩
  have wl := wN.trans w'
  have atk' : ρ'[st1.length]? = some D := w'.pre _ _ atk
  by_cases hl : i < src.its.length
  · right
    rw [List.drop_eq_getElem_cons hl] at h'
    unfold comL at h'
    split at h'
    · rename_i ok
      obtain ⟨go, yl⟩ := (jr i ρ' H' st' wl S' ok.1).2 src.its[i] (by simp [hl])
      refine ⟨go, fun H2 => ∃ ρ2 acc2 st2, Wle K (ρ1 ++ [D]) (upd H1 D (.lst [])) ρ2 H2 ∧ SR K ρ2 st2 H2 ∧ (comL src (wipe l own) t c e st1.length (src.its.drop (i + 1)) acc2 st2).post G fun _ _ => False, ?_, ?_⟩
      · rintro H2 ⟨ρ2, acc2, st2, q⟩
        exact ⟨src.its.length - (i + 1), by omega, rfl, hl, ρ2, acc2, st2, q⟩
      · intro x H2 y
        obtain ⟨S2, w2, r2⟩ := yl x H2 y
        have L2' : LR K ρ' H2 (wipe l own) (L2.wipe σ own) := (L1.up (wl.trans w2)).wipe own
        refine tR_of (E := E0) L2' S2 r2 h' fun l3 st3 ρ3 H3 σ3 w3 S3 L3 p3 h3 => ?_
        refine ⟨?_, ?_⟩
        · have : L2.wipe σ3 own = L2.wipe (L2.wipe σ own) own := p3
          rw [this]
          have idem : ∀ (vs ws : List Nat) (σ : L2.St), (∀ i ∈ vs, i ∈ ws) → L2.wipe (L2.wipe σ vs) ws = L2.wipe σ ws := by
            intro vs
            induction vs with
            | nil => intro ws σ _; rfl
            | cons v vs ih =>
              intro ws σ hv
              show L2.wipe ((L2.wipe σ vs).set v none) ws = _
              rw [wipe_set (hv v (by simp)), ih ws σ fun i hi => hv i (by simp [hi])]
          exact idem own own σ fun _ h => h
        · refine bR_of (E := E0) L3 S3 h3 fun b st4 ρ4 H4 w4 L4 S4 h4 => ?_
          cases b with
          | true =>
            simp only [if_true] at h4 ⊢
            refine eR_of (E := E0) L4 S4 h4 fun y st5 ρ5 H5 v w5 L5 S5 r5 h5 => ?_
            split at h5
            · rename_i hc
              have w25 := (w'.trans w2).trans (w3.trans (w4.trans w5))
              have atD := w25.pre _ _ atk
              obtain ⟨_, e1, ws, hD5, ra⟩ := S5.get hc.1
              rw [atD] at e1; cases e1
              refine ⟨ws, hD5, by rw [← ra.length, ← line_eq]; exact hc.2, ?_⟩
              obtain ⟨u1, hu1, q1, q2⟩ := (S5.ats _ _ _ hc.1 atD).isAt
              have w6 : Wle K ρ5 H5 ρ5 (upd H5 D (.lst (ws ++ [v]))) := Wle.chg hu1 q1 q2 _
              exact ⟨ρ5, acc ++ [y], _, w25.trans w6, (S5.chg (o' := .lst (acc ++ [y])) atD hc.1 ⟨_, upd_same, (ra.append (.cons r5 .nil)).up w6⟩).1, h5⟩
            · exact h5.elim
          | false =>
            simp only [Bool.false_eq_true, if_false] at h4 ⊢
            exact ⟨ρ4, acc, st4, (w'.trans w2).trans (w3.trans w4), S4, h4⟩
    · exact h'.elim
  · left
    have e : i = src.its.length := by omega
    subst e
    rw [List.drop_length] at h'
    unfold comL at h'
    split at h'
    · rename_i ok
      exact ⟨(jr _ ρ' H' st' wl S' ok.1).1 (Nat.le_refl _), h' ρ' H' _ (w1.trans wl) S' (.obj atk')⟩
    · exact h'.elim
theorem e_compD {fw : Lo → Sto → R Src} {t : Z.D → Lo → Sto → R Lo} {c : Lo → Sto → R Bool} {e e2 : Lo → Sto → R Z.D} {own : List Nat}
    (h : eR (K := K) E (fun l s => (fw l s).bind fun src s1 => (comD src (wipe l own) t c e e2 s1.length src.its [] (s1 ++ [.dct []])).noex.bind fun _ s2 => .ok (.obj s1.length) s2) σ H Q) :
    tDc (wR E fw) (tR (K := K) E0 (some own) t) (bR (K := K) E0 c) (eR (K := K) E0 e) (eR (K := K) E0 e2) own σ H Q := by
  obtain ⟨ρ, l, st, L, S, h⟩ := h
  refine wR_of L S h fun src st1 ρ1 H1 J w1 L1 S1 jr h1 => ?_
  intro D hD
  have wN : Wle K ρ1 H1 (ρ1 ++ [D]) (upd H1 D (.dK [])) := Wle.new hD _
  have SN : SR K (ρ1 ++ [D]) (st1 ++ [.dct []]) (upd H1 D (.dK [])) := S1.newO hD ⟨[], upd_same, .nil⟩
  have atk : (ρ1 ++ [D])[st1.length]? = some D := by rw [← S1.len]; simp
  let G : Unit → Sto → Prop := fun _ s2 => Kont K ρ H Q (.obj st1.length) s2
  have h1 := noex_post (R.post_mono (R.post_bind.mp h1) (Q' := G) (fun _ _ x => x) fun _ _ x => x)
  refine ⟨fun i m H' => m = src.its.length - i ∧ i ≤ src.its.length ∧ ∃ ρ' acc st', Wle K (ρ1 ++ [D]) (upd H1 D (.dK [])) ρ' H' ∧ SR K ρ' st' H' ∧
      (comD src (wipe l own) t c e e2 st1.length (src.its.drop i) acc st').post G fun _ _ => False,
    ⟨src.its.length, by simp, Nat.zero_le _, ρ1 ++ [D], [], st1 ++ [.dct []], Wle.refl, SN, by rw [List.drop_zero]; exact h1⟩, ?_⟩
  rintro i m H' ⟨rfl, hi, ρ', acc, st', w', S', h'⟩
  have wl := wN.trans w'
  have atk' : ρ'[st1.length]? = some D := w'.pre _ _ atk
  by_cases hl : i < src.its.length
  · right
    rw [List.drop_eq_getElem_cons hl] at h'
    unfold comD at h'
    split at h'
    · rename_i ok
      obtain ⟨go, yl⟩ := (jr i ρ' H' st' wl S' ok.1).2 src.its[i] (by simp [hl])
      refine ⟨go, fun H2 => ∃ ρ2 acc2 st2, Wle K (ρ1 ++ [D]) (upd H1 D (.dK [])) ρ2 H2 ∧ SR K ρ2 st2 H2 ∧ (comD src (wipe l own) t c e e2 st1.length (src.its.drop (i + 1)) acc2 st2).post G fun _ _ => False, ?_, ?_⟩
      · rintro H2 ⟨ρ2, acc2, st2, q⟩
        exact ⟨src.its.length - (i + 1), by omega, rfl, hl, ρ2, acc2, st2, q⟩
      · intro x H2 y
        obtain ⟨S2, w2, r2⟩ := yl x H2 y
        have L2' : LR K ρ' H2 (wipe l own) (L2.wipe σ own) := (L1.up (wl.trans w2)).wipe own
        refine tR_of (E := E0) L2' S2 r2 h' fun l3 st3 ρ3 H3 σ3 w3 S3 L3 p3 h3 => ?_
        refine ⟨?_, ?_⟩
        · have : L2.wipe σ3 own = L2.wipe (L2.wipe σ own) own := p3
          rw [this]
          have idem : ∀ (vs ws : List Nat) (σ : L2.St), (∀ i ∈ vs, i ∈ ws) → L2.wipe (L2.wipe σ vs) ws = L2.wipe σ ws := by
            intro vs
            induction vs with
            | nil => intro ws σ _; rfl
            | cons v vs ih =>
              intro ws σ hv
              show L2.wipe ((L2.wipe σ vs).set v none) ws = _
              rw [wipe_set (hv v (by simp)), ih ws σ fun i hi => hv i (by simp [hi])]
          exact idem own own σ fun _ h => h
        · refine bR_of (E := E0) L3 S3 h3 fun b st4 ρ4 H4 w4 L4 S4 h4 => ?_
          cases b with
          | true =>
            simp only [if_true] at h4 ⊢
            refine eR_of (E := E0) L4 S4 h4 fun y st5 ρ5 H5 v w5 L5 S5 r5 h5 => ?_
            refine eR_of (E := E0) L5 S5 h5 fun z st6 ρ6 H6 u w6 L6 S6 r6 h6 => ?_
            split at h6
            · rename_i k hk
              split at h6
              · rename_i hc
                have w26 := (w'.trans w2).trans (w3.trans (w4.trans (w5.trans w6)))
                have atD := w26.pre _ _ atk
                obtain ⟨_, e1, ws, hD6, ra⟩ := S6.get hc.1
                rw [atD] at e1; cases e1
                refine ⟨ws, keyOf k, key_V (r5.up w6) hk, hD6, by rw [← ra.length, ← line_eq]; exact hc.2, ?_⟩
                obtain ⟨u1, hu1, q1, q2⟩ := (S6.ats _ _ _ hc.1 atD).isAt
                have w7 : Wle K ρ6 H6 ρ6 (upd H6 D (.dK (L2.putK ws (keyOf k) u))) := Wle.chg hu1 q1 q2 _
                exact ⟨ρ6, putK acc k z, _, w26.trans w7, (S6.chg (o' := .dct (putK acc k z)) atD hc.1 ⟨_, upd_same, (rks_put ra k r6).up w7⟩).1, h6⟩
              · exact h6.elim
            · exact h6.elim
          | false =>
            simp only [Bool.false_eq_true, if_false] at h4 ⊢
            exact ⟨ρ4, acc, st4, (w'.trans w2).trans (w3.trans w4), S4, h4⟩
    · exact h'.elim
  · left
    have e : i = src.its.length := by omega
    subst e
    rw [List.drop_length] at h'
    unfold comD at h'
    split at h'
    · rename_i ok
      exact ⟨(jr _ ρ' H' st' wl S' ok.1).1 (Nat.le_refl _), h' ρ' H' _ (w1.trans wl) S' (.obj atk')⟩
    · exact h'.elim
theorem r_assoc' {α β γ : Type} {r : R α} {k : α → Sto → R β} {f : β → Sto → R γ} : (r.bind k).bind f = r.bind fun d s => (k d s).bind f := by cases r <;> rfl
theorem wipe_idem : ∀ (vs ws : List Nat) (σ : L2.St), (∀ i ∈ vs, i ∈ ws) → L2.wipe (L2.wipe σ vs) ws = L2.wipe σ ws := by
  intro vs
  induction vs with
  | nil => intro ws σ _; rfl
  | cons v vs ih =>
    intro ws σ hv
    show L2.wipe ((L2.wipe σ vs).set v none) ws = _
    rw [wipe_set (hv v (by simp)), ih ws σ fun i hi => hv i (by simp [hi])]
theorem e_comp2 {fw w2 : Lo → Sto → R Src} {t t2 : Z.D → Lo → Sto → R Lo} {e : Lo → Sto → R Z.D} {own own2 : List Nat}
    (h : eR (K := K) E (fun l s => (fw l s).bind fun src s1 => (com2 src (wipe l own) t w2 own2 t2 e s1.length src.its [] (s1 ++ [.lst []])).noex.bind fun _ s2 => .ok (.obj s1.length) s2) σ H Q) :
    tLc2 (wR E fw) (tR (K := K) E0 (some own) t) (bR (K := K) E0 fun _ s => .ok true s) (wR (K := K) E0 w2) (tR (K := K) E0 (some own2) t2) (bR (K := K) E0 fun _ s => .ok true s) (eR (K := K) E0 e) own own2 σ H Q := by
  obtain ⟨ρ, l, st, L, S, h⟩ := h
  refine wR_of L S h fun src st1 ρ1 H1 J w1 L1 S1 jr h1 => ?_
  intro D hD
  have wN : Wle K ρ1 H1 (ρ1 ++ [D]) (upd H1 D (.lst [])) := Wle.new hD _
  have SN : SR K (ρ1 ++ [D]) (st1 ++ [.lst []]) (upd H1 D (.lst [])) := S1.newO hD ⟨[], upd_same, .nil⟩
  have atk : (ρ1 ++ [D])[st1.length]? = some D := by rw [← S1.len]; simp
  let G : Unit → Sto → Prop := fun _ s2 => Kont K ρ H Q (.obj st1.length) s2
  have h1 := noex_post (R.post_mono (R.post_bind.mp h1) (Q' := G) (fun _ _ x => x) fun _ _ x => x)
  refine ⟨fun i m H' => m = src.its.length - i ∧ i ≤ src.its.length ∧ ∃ ρ' acc st', Wle K (ρ1 ++ [D]) (upd H1 D (.lst [])) ρ' H' ∧ SR K ρ' st' H' ∧
      (com2 src (wipe l own) t w2 own2 t2 e st1.length (src.its.drop i) acc st').post G fun _ _ => False,
    ⟨src.its.length, by simp, Nat.zero_le _, ρ1 ++ [D], [], st1 ++ [.lst []], Wle.refl, SN, by rw [List.drop_zero]; exact h1⟩, ?_⟩
  rintro i m H' ⟨rfl, hi, ρ', acc, st', w', S', h'⟩
  have wl := wN.trans w'
  by_cases hl : i < src.its.length
  · right
    rw [List.drop_eq_getElem_cons hl] at h'
    unfold com2 at h'
    split at h'
    · rename_i ok
      obtain ⟨go, yl⟩ := (jr i ρ' H' st' wl S' ok.1).2 src.its[i] (by simp [hl])
      refine ⟨go, fun H2 => ∃ ρ2 acc2 st2, Wle K (ρ1 ++ [D]) (upd H1 D (.lst [])) ρ2 H2 ∧ SR K ρ2 st2 H2 ∧ (com2 src (wipe l own) t w2 own2 t2 e st1.length (src.its.drop (i + 1)) acc2 st2).post G fun _ _ => False, ?_, ?_⟩
      · rintro H2 ⟨ρ2, acc2, st2, q⟩
        exact ⟨src.its.length - (i + 1), by omega, rfl, hl, ρ2, acc2, st2, q⟩
      · intro x H2 y
        obtain ⟨S2, w2', r2⟩ := yl x H2 y
        have L2' : LR K ρ' H2 (wipe l own) (L2.wipe σ own) := (L1.up (wl.trans w2')).wipe own
        refine tR_of (E := E0) L2' S2 r2 h' fun l3 st3 ρ3 H3 σ3 w3 S3 L3 p3 h3 => ?_
        refine ⟨?_, ρ3, l3, st3, L3, S3, fun ρ4 H4 w4 S4 => ?_⟩
        · have : L2.wipe σ3 own = L2.wipe (L2.wipe σ own) own := p3
          rw [this]
          exact wipe_idem own own σ fun _ h => h
        · simp only [if_true]
          refine wR_of (E := E0) (L3.up w4) S4 h3 fun src2 st5 ρ5 H5 J2 w5 L5 S5 jr2 h5 => ?_
          have wb5 := (w'.trans w2').trans (w3.trans (w4.trans w5))
          refine ⟨fun j m H6 => m = src2.its.length - j ∧ j ≤ src2.its.length ∧ ∃ ρ6 acc6 st6, Wle K ρ5 H5 ρ6 H6 ∧ SR K ρ6 st6 H6 ∧
              ((comA src2 (wipe l3 own2) t2 e st1.length (src2.its.drop j) acc6 st6).bind fun acc2 s3 => com2 src (wipe l own) t w2 own2 t2 e st1.length (src.its.drop (i + 1)) acc2 s3).post G fun _ _ => False,
            ⟨src2.its.length, by simp, Nat.zero_le _, ρ5, acc, st5, Wle.refl, S5, by rw [List.drop_zero]; exact h5⟩, ?_⟩
          rintro j m H6 ⟨rfl, hj, ρ6, acc6, st6, w6, S6, h6⟩
          have wb6 := wb5.trans w6
          by_cases hl2 : j < src2.its.length
          · right
            rw [List.drop_eq_getElem_cons hl2] at h6
            unfold comA at h6
            split at h6
            · rename_i ok2
              obtain ⟨go2, yl2⟩ := (jr2 j ρ6 H6 st6 w6 S6 ok2.1).2 src2.its[j] (by simp [hl2])
              refine ⟨go2, fun H7 => ∃ ρ7 acc7 st7, Wle K ρ5 H5 ρ7 H7 ∧ SR K ρ7 st7 H7 ∧
                ((comA src2 (wipe l3 own2) t2 e st1.length (src2.its.drop (j + 1)) acc7 st7).bind fun acc2 s3 => com2 src (wipe l own) t w2 own2 t2 e st1.length (src.its.drop (i + 1)) acc2 s3).post G fun _ _ => False, ?_, ?_⟩
              · rintro H7 ⟨ρ7, acc7, st7, q⟩
                exact ⟨src2.its.length - (j + 1), by omega, rfl, hl2, ρ7, acc7, st7, q⟩
              · intro x7 H7 y7
                obtain ⟨S7, w7, r7⟩ := yl2 x7 H7 y7
                have L7 : LR K ρ6 H7 (wipe l3 own2) (L2.wipe σ3 own2) := (L5.up (w6.trans w7)).wipe own2
                rw [r_assoc'] at h6
                refine tR_of (E := E0) L7 S7 r7 h6 fun l8 st8 ρ8 H8 σ8 w8 S8 L8 p8 h8 => ?_
                refine ⟨?_, ρ8, l8, st8, L8, S8, fun ρ9 H9 w9 S9 => ?_⟩
                · have : L2.wipe σ8 own2 = L2.wipe (L2.wipe σ3 own2) own2 := p8
                  rw [this]
                  exact wipe_idem own2 own2 σ3 fun _ h => h
                · simp only [if_true]
                  rw [r_assoc'] at h8
                  refine eR_of (E := E0) (L8.up w9) S9 h8 fun y st10 ρ10 H10 v w10 L10 S10 r10 h10 => ?_
                  split at h10
                  · rename_i hc
                    have wa := w6.trans (w7.trans (w8.trans (w9.trans w10)))
                    have wbD := wb5.trans wa
                    have atD := wbD.pre _ _ atk
                    obtain ⟨_, e1, ws, hD10, ra⟩ := S10.get hc.1
                    rw [atD] at e1; cases e1
                    refine ⟨ws, hD10, by rw [← ra.length, ← line_eq]; exact hc.2, ?_⟩
                    obtain ⟨u1, hu1, q1, q2⟩ := (S10.ats _ _ _ hc.1 atD).isAt
                    have w11 : Wle K ρ10 H10 ρ10 (upd H10 D (.lst (ws ++ [v]))) := Wle.chg hu1 q1 q2 _
                    exact ⟨ρ10, acc6 ++ [y], _, wa.trans w11, (S10.chg (o' := .lst (acc6 ++ [y])) atD hc.1 ⟨_, upd_same, (ra.append (.cons r10 .nil)).up w11⟩).1, h10⟩
                  · exact h10.elim
            · exact h6.elim
          · left
            have e6 : j = src2.its.length := by omega
            subst e6
            rw [List.drop_length] at h6
            unfold comA at h6
            split at h6
            · rename_i ok2
              exact ⟨(jr2 _ ρ6 H6 st6 w6 S6 ok2.1).1 (Nat.le_refl _), ρ6, acc6, st6, wb6, S6, h6⟩
            · exact h6.elim
    · exact h'.elim
  · left
    have e' : i = src.its.length := by omega
    subst e'
    rw [List.drop_length] at h'
    unfold com2 at h'
    split at h'
    · rename_i ok
      exact ⟨(jr _ ρ' H' st' wl S' ok.1).1 (Nat.le_refl _), h' ρ' H' (.ref D) ((w1.trans wN).trans w') S' (.obj (w'.pre _ _ atk))⟩
    · exact h'.elim

end
end Z

/-! ZSnd: a checked term reads as its text runs. -/
namespace Z
open PySem L2 PySem.Spec PyProof.Rows
/-- what a def promises: it runs as the evaluator says -/
def spF (K : PySem.W.Frag) (fs : List Fn) (n i : Nat) : Sp := fun vs H Q _ => ∃ ρ st ds, SR K ρ st H ∧ RDs K ρ H ds vs ∧ (callN fs n i ds st).post (Kont K ρ H Q) fun _ _ => False
/-- what a call binds, of a def with at most one keyword-only parameter -/
def BindK (K : PySem.W.Frag) (fd : FuncData) (ps : List Str) (k : Str) (d : D) : Prop :=
  (∀ (s : Shared) (us : List Value) (w : Value), K.In s.heap → us.length + 1 = ps.length → BindsTo s fd ⟨us, [(k, w)]⟩ (ps.zip (us ++ [w]))) ∧
  ∃ (v : V) (u : Value), RelV v u ∧ (∀ ρ H, RD K ρ H d v) ∧ ∀ (s : Shared) (us : List Value), K.In s.heap → us.length + 1 = ps.length → BindsTo s fd ⟨us, []⟩ (ps.zip (us ++ [u]))
def BindAny (K : PySem.W.Frag) (fd : FuncData) (ps : List Str) : Option (Str × D) → Prop
  | none => Binds K fd ps []
  | some (k, d) => BindK K fd ps k d
/-- a module's dict of ints -/
def entsI : List DictEntry → Option (List (Int × Int))
  | [] => some []
  | ⟨h, .int k _, .int v _⟩ :: r => if h = hashInt k then (entsI r).map ((k, v) :: ·) else none
  | _ => none
def CstD (K : PySem.W.Frag) (mg : Str → Option Value) (x : Str) (kvs : List (Int × Int)) : Prop := ∃ (a : Addr) (es : Array DictEntry) (n : Nat), mg x = some (.ref a) ∧ K.lookup a = some ⟨.type "dict", none, .dict es n, #[]⟩ ∧ entsI es.toList = some kvs
/-- what is known of the context -/
structure Wd (G : Gt) (fs : List Fn) (n : Nat) (N : List Str) (X : Cx) : Prop where
  nN : X.N = N
  nd : X.N.Nodup
  calm : X.calm = true
  kind : X.env.scope.kind = .function
  room : Room n X.A
  gd : X.A.guards = some []
  cst : ∀ (i : Nat) (x : Str) (d : D), G.cs[i]? = some (x, d) → ∃ v u, X.mg x = some u ∧ RelV v u ∧ ∀ ρ H, RD X.K ρ H d v
  fns : ∀ (i : Nat) (x : Str), G.fs[i]? = some x → ∃ f fd ps, X.mg x = some (.ref f) ∧ PySem.W.keepIn X.K (.ref f) = true ∧ BindAny X.K fd ps (G.kw i) ∧ FnG X.prog X.w X.K X.mg X.base CX0 n f fd 0 ps (spF X.K fs n i)
  bis : ∀ x ∈ biNames, X.mg x = none
  dct : ∀ (i : Nat) (x : Str) (kvs : List (Int × Int)), G.ds[i]? = some (x, kvs) → CstD X.K X.mg x kvs
section
variable {X : Cx} {K : PySem.W.Frag} {ρ ρ' ρ1 ρ2 ρ3 : List Addr} {H H' H1 H2 H3 : Hp} {d : D} {ds : List D} {v u : V} {vs : List V} {a p : Addr} {i : Nat} {l : Lo} {σ : L2.St} {st st1 st2 : Sto} {Q : VK}
theorem Wd.hu {G : Gt} {fs : List Fn} {n : Nat} {N : List Str} (h : Wd G fs n N X) : X.A.units + 1 < cLine := by have := h.room.units; omega

/-! ### tests -/
theorem asB_post {E : XW K} {F : Lo → Sto → R D} {Q : Bool → Hp → Prop} (h : bR E (fun l s => (F l s).bind asB) σ H Q) : eR E F σ H fun x H1 => ∃ c, x = .bl c ∧ Q c H1 := by
  obtain ⟨ρ, l, st, L, S, h⟩ := h
  refine eR_of L S h fun d st1 ρ1 H1 v w1 L1 S1 r1 h1 => ?_
  cases d with
  | bl b => cases r1; exact ⟨b, rfl, h1 ρ1 H1 w1 S1⟩
  | _ => exact h1.elim
theorem pt_of {e : Expr} {f : Lo → Sto → R D} {E : XW X.K} (h : PE X e (eR E f)) (he : ∀ whole, PySem.isTrue e X.env whole = (do let v ← whole; standAt e.pos; holding [v] (truthy v))) : PT X e (bR E fun l s => (f l s).bind asB) :=
  PT.weak (pt_val h he) fun _ _ _ q => asB_post q
theorem pt_cmp2 {e : Expr} {t : TE} {f : Lo → Sto → R D} {E : XW X.K} (h : PT X e (tTest t)) (w : ∀ σ H Q, eR E f σ H Q → t σ H Q) : PT X e (bR E fun l s => (f l s).bind asB) :=
  PT.weak h fun _ _ _ q => w _ _ _ (asB_post q)

/-! ### calm operators -/
theorem calm_bin : ∀ o, Calm2 (bin o) := by
  intro o x y s d s' h
  cases o <;> simp only [bin, opAdd, opMul, newL] at h <;> repeat' (first | (cases h; done) | split at h)
theorem calm_cmp : ∀ o, Calm2 (cmp o) := by
  intro o x y s d s' h
  unfold cmp at h
  split at h <;> cases h
theorem calm_ix : Calm2 opIx := by
  intro x y s d s' h
  unfold opIx at h
  split at h <;> (try split at h) <;> (try split at h) <;> (try split at h) <;> cases h
/-- a text's operator as the evaluator's -/
theorem op_bin (o : Bop) : ∃ r, OpR X (binaryOp (bopOf o)) r ∧ Two X.K (bin o) r := by
  cases o
  · exact ⟨_, or_add, two_add⟩
  · exact ⟨_, op_sub, two_sub⟩
  · exact ⟨_, or_mul, two_mul⟩
  · exact ⟨_, op_fdivW, two_div⟩
  · exact ⟨_, op_mod, two_mod⟩
  · exact ⟨_, op_pow, two_pow⟩
theorem op_cmp (hu : X.A.units + 64 < cLine) (o : Cop) : ∃ r, OpR X (compareOp (copOf o)) r ∧ Two X.K (cmp o) r := by
  have h1 : X.A.units + 1 < cLine := by omega
  cases o
  · exact ⟨_, op_eqZ hu, two_cmp b_eq⟩
  · exact ⟨_, op_neZ hu, two_cmp b_ne⟩
  · exact ⟨_, op_lt, two_cmp (b_lt fun _ _ _ => rfl)⟩
  · exact ⟨_, op_le, two_cmp (b_lt fun _ _ _ => rfl)⟩
  · exact ⟨_, op_gt, two_cmp (b_lt fun _ _ _ => rfl)⟩
  · exact ⟨_, op_ge, two_cmp (b_lt fun _ _ _ => rfl)⟩
  · exact ⟨_, or_is, two_cmp b_is⟩
  · exact ⟨_, or_isn, two_cmp b_isn⟩
  · exact ⟨_, or_in h1, two_cmp b_in⟩
  · exact ⟨_, or_nin h1, two_cmp b_nin⟩
theorem nomark_of {e : Expr} (h : notSet e = true) (o : CmpOp) : behindInMarks o e = false := by
  cases e <;> first | rfl | (simp [notSet] at h)
theorem nomark2 {o p : CmpOp} {b c : Expr} (h : notSet c = true) : lastMarks [o, p] [b, c] = false := nomark_of h p

/-! ### readings of the evaluator's expressions -/
variable {E : XW K}
theorem e_var {n : Nat} (h : eR E (fun l s => (match l[n]? with | some (some d) => R.ok d s | _ => .bad)) σ H Q) : tVar n σ H Q := by
  obtain ⟨ρ, l, st, L, S, h⟩ := h
  dsimp only at h
  split at h
  · rename_i d e
    obtain ⟨v, e1, r⟩ := L.at_ n d e
    exact ⟨v, e1, h ρ H v Wle.refl S r⟩
  · exact h.elim
theorem e_const {d : D} {v : V} (r : ∀ ρ H, RD K ρ H d v) (h : eR E (fun _ s => R.ok d s) σ H Q) : tC v σ H Q := by
  obtain ⟨ρ, l, st, L, S, h⟩ := h
  exact h ρ H v Wle.refl S (r _ _)
theorem e_neg {f : Lo → Sto → R D} (h : eR E (fun l s => (f l s).bind fun x s1 => (match x with | .int i => .ok (.int (-i)) s1 | _ => .bad)) σ H Q) : tUn (rU fun i => .int (-i)) (eR E f) σ H Q := by
  obtain ⟨ρ, l, st, L, S, h⟩ := h
  refine eR_of L S h fun d st1 ρ1 H1 v w1 L1 S1 r1 h1 => ?_
  cases d with
  | int i => cases r1; exact ⟨i, rfl, h1 ρ1 H1 _ w1 S1 (.int _)⟩
  | _ => exact h1.elim
theorem bR_mk {f : Lo → Sto → R Bool} {Q : Bool → Hp → Prop} (L : LR K ρ H l σ) (S : SR K ρ st H) (h : (f l st).post (fun b st' => ∀ ρ' H', Wle K ρ H ρ' H' → SR K ρ' st' H' → Q b H') (E.p ρ H)) : bR E f σ H Q := ⟨ρ, l, st, L, S, h⟩
/-- not x, as a value -/
theorem e_not {f : Lo → Sto → R D} (h : eR E (fun l s => ((f l s).bind asB).bind fun b s1 => .ok (.bl (!b)) s1) σ H Q) : tNotV (eR E f) σ H Q := by
  obtain ⟨ρ, l, st, L, S, h⟩ := h
  have : bR E (fun l s => (f l s).bind asB) σ H fun b H1 => Q (.bl (!b)) H1 :=
    bR_of (fa := fun l s => (f l s).bind asB) L S h fun b st1 ρ1 H1 w1 L1 S1 h1 => h1 ρ1 H1 _ w1 S1 (.bl _)
  exact asB_post this
theorem e_and {f g : Lo → Sto → R D} (h : eR E (fun l s => ((f l s).bind asB).bind fun k s1 => if k = true then g l s1 else .ok (.bl false) s1) σ H Q) : tAndV (eR E f) (eR E g) σ H Q := by
  obtain ⟨ρ, l, st, L, S, h⟩ := h
  have : bR E (fun l s => (f l s).bind asB) σ H fun c H1 => if c = true then eR E g σ H1 Q else Q (.bl false) H1 := by
    refine bR_of (fa := fun l s => (f l s).bind asB) L S h fun b st1 ρ1 H1 w1 L1 S1 h1 => ?_
    cases b with
    | true => exact eR_last L1 S1 h1 w1 fun _ _ q => q
    | false => exact h1 ρ1 H1 _ w1 S1 (.bl _)
  exact asB_post this
theorem e_or {f g : Lo → Sto → R D} (h : eR E (fun l s => ((f l s).bind asB).bind fun k s1 => if k = true then .ok (.bl true) s1 else g l s1) σ H Q) : tOrV (eR E f) (eR E g) σ H Q := by
  obtain ⟨ρ, l, st, L, S, h⟩ := h
  have : bR E (fun l s => (f l s).bind asB) σ H fun c H1 => if c = true then Q (.bl true) H1 else eR E g σ H1 Q := by
    refine bR_of (fa := fun l s => (f l s).bind asB) L S h fun b st1 ρ1 H1 w1 L1 S1 h1 => ?_
    cases b with
    | false => exact eR_last L1 S1 h1 w1 fun _ _ q => q
    | true => exact h1 ρ1 H1 _ w1 S1 (.bl _)
  exact asB_post this
theorem e_ite {f g : Lo → Sto → R D} {c : Lo → Sto → R Bool} (h : eR E (fun l s => (c l s).bind fun k s1 => if k = true then f l s1 else g l s1) σ H Q) : tIf (bR E c) (eR E f) (eR E g) σ H Q := by
  obtain ⟨ρ, l, st, L, S, h⟩ := h
  refine bR_of L S h fun b st1 ρ1 H1 w1 L1 S1 h1 => ?_
  cases b with
  | true => exact eR_last L1 S1 h1 w1 fun _ _ q => q
  | false => exact eR_last L1 S1 h1 w1 fun _ _ q => q
/-- the same as tests -/
theorem r_assoc {α β γ : Type} {r : R α} {k : α → Sto → R β} {f : β → Sto → R γ} : (r.bind k).bind f = r.bind fun d s => (k d s).bind f := by cases r <;> rfl
theorem bR_last {f : Lo → Sto → R Bool} {Q Q' : Bool → Hp → Prop} (L : LR K ρ H l σ) (S : SR K ρ st H) (h : (f l st).post (fun b st' => ∀ ρ2 H2, Wle K ρ' H' ρ2 H2 → SR K ρ2 st' H2 → Q b H2) (E.p ρ H)) (w : Wle K ρ' H' ρ H) (hQ : ∀ v H1, Q v H1 → Q' v H1) : bR E f σ H Q' :=
  ⟨ρ, l, st, L, S, R.post_mono h (fun d st1 h1 ρ1 H1 w1 S1 => hQ _ _ (h1 ρ1 H1 (w.trans w1) S1)) fun _ _ x => x⟩
theorem b_not {f : Lo → Sto → R D} {Q : Bool → Hp → Prop} (h : bR E (fun l s => (((f l s).bind asB).bind fun b s1 => R.ok (.bl (!b)) s1).bind asB) σ H Q) : tNot (bR E fun l s => (f l s).bind asB) σ H Q := by
  obtain ⟨ρ, l, st, L, S, h⟩ := h
  dsimp only at h
  rw [r_assoc] at h
  exact bR_of (fa := fun l s => (f l s).bind asB) L S h fun b st1 ρ1 H1 w1 L1 S1 h1 => h1 ρ1 H1 w1 S1
theorem b_and {f g : Lo → Sto → R D} {Q : Bool → Hp → Prop} (h : bR E (fun l s => (((f l s).bind asB).bind fun k s1 => if k = true then g l s1 else R.ok (.bl false) s1).bind asB) σ H Q) :
    tAnd (bR E fun l s => (f l s).bind asB) (bR E fun l s => (g l s).bind asB) σ H Q := by
  obtain ⟨ρ, l, st, L, S, h⟩ := h
  dsimp only at h
  rw [r_assoc] at h
  refine bR_of (fa := fun l s => (f l s).bind asB) L S h fun b st1 ρ1 H1 w1 L1 S1 h1 => ?_
  cases b with
  | true => exact bR_last L1 S1 h1 w1 fun _ _ q => q
  | false => exact h1 ρ1 H1 w1 S1
theorem b_or {f g : Lo → Sto → R D} {Q : Bool → Hp → Prop} (h : bR E (fun l s => (((f l s).bind asB).bind fun k s1 => if k = true then R.ok (.bl true) s1 else g l s1).bind asB) σ H Q) :
    tOr (bR E fun l s => (f l s).bind asB) (bR E fun l s => (g l s).bind asB) σ H Q := by
  obtain ⟨ρ, l, st, L, S, h⟩ := h
  dsimp only at h
  rw [r_assoc] at h
  refine bR_of (fa := fun l s => (f l s).bind asB) L S h fun b st1 ρ1 H1 w1 L1 S1 h1 => ?_
  cases b with
  | false => exact bR_last L1 S1 h1 w1 fun _ _ q => q
  | true => exact h1 ρ1 H1 w1 S1
def tIfB (c t u : TT) : TT := fun σ H Q => c σ H fun k H1 => if k = true then t σ H1 Q else u σ H1 Q
theorem pt_ifExp {c x y : Expr} {pos : Pos} {tc t u : TT} (hc : PT X c tc) (hx : PT X x t) (hy : PT X y u) : PT X (.IfExp c x y pos) (tIfB tc t u) := by
  constructor
  intro pins s σ H Q I h
  unfold PySem.isTrue
  refine wpAny_bind (thn (hc.run pins s σ H _ I h) ?_)
  rintro b s1 ⟨H1, I1, q1⟩
  cases b with
  | true => exact hx.run pins s1 σ H1 Q I1 q1
  | false => exact hy.run pins s1 σ H1 Q I1 q1
theorem b_ite {f g : Lo → Sto → R D} {c : Lo → Sto → R Bool} {Q : Bool → Hp → Prop} (h : bR E (fun l s => ((c l s).bind fun k s1 => if k = true then f l s1 else g l s1).bind asB) σ H Q) :
    tIfB (bR E c) (bR E fun l s => (f l s).bind asB) (bR E fun l s => (g l s).bind asB) σ H Q := by
  obtain ⟨ρ, l, st, L, S, h⟩ := h
  dsimp only at h
  rw [r_assoc] at h
  refine bR_of L S h fun b st1 ρ1 H1 w1 L1 S1 h1 => ?_
  cases b with
  | true => exact bR_last L1 S1 h1 w1 fun _ _ q => q
  | false => exact bR_last L1 S1 h1 w1 fun _ _ q => q
/-- a chain of two comparisons -/
theorem e_chain {f g h' : Lo → Sto → R D} {k k' : D → D → Sto → R D} {r r' : R2} (hk : Two K k r) (hk' : Two K k' r') (hc : Calm2 k) (hc' : Calm2 k')
    (h : eR E (fun l s => (f l s).bind fun x s1 => (g l s1).bind fun y s2 => ((k x y s2).bind asB).bind fun b s3 => if b = true then (h' l s3).bind fun z s4 => k' y z s4 else .ok (.bl false) s3) σ H Q) :
    tChain r r' (eR E f) (eR E g) (eR E h') σ H Q := by
  obtain ⟨ρ, l, st, L, S, h⟩ := h
  refine eR_of L S h fun x st1 ρ1 H1 v w1 L1 S1 r1 h1 => eR_of L1 S1 h1 fun y st2 ρ2 H2 u w2 L2 S2 r2 h2 => ?_
  rw [r_assoc, R.post_bind] at h2
  refine hk ρ2 H2 st2 x y v u _ (E.p ρ2 H2) (hc _ _ _) S2 (r1.up w2) r2 (R.post_mono h2 (fun d st3 h3 ρ3 H3 w w3 S3 r3 => ?_) fun _ _ x => x)
  cases d with
  | bl b =>
    cases r3
    refine ⟨b, rfl, ?_⟩
    have h3 := R.post_mono h3 (fun _ _ x => x) fun _ _ => E.mono w3
    cases b with
    | true =>
      simp only [asB, R.bind_ok, if_true] at h3 ⊢
      refine eR_of (L2.up w3) S3 h3 fun z st4 ρ4 H4 zv w4 L4 S4 r4 h4 => ?_
      exact hk' ρ4 H4 st4 y z u zv Q _ (hc' _ _ _) S4 ((r2.up w3).up w4) r4 (R.post_mono h4 (fun _ _ q => q.up ((w1.trans w2).trans (w3.trans w4))) fun _ _ x => x)
    | false =>
      simp only [asB, R.bind_ok, Bool.false_eq_true, if_false] at h3 ⊢
      exact h3 ρ3 H3 _ ((w1.trans w2).trans w3) S3 (.bl _)
  | _ => exact h3.elim
end
end Z

/-! ZSne: further readings of the evaluator's expressions. -/
namespace Z
open PySem L2 PySem.Spec PyProof.Rows
section
variable {X : Cx} {K : PySem.W.Frag} {ρ ρ' ρ1 ρ2 ρ3 : List Addr} {H H' H1 H2 H3 : Hp} {d : D} {ds : List D} {v u : V} {vs : List V} {a p : Addr} {i : Nat} {l : Lo} {σ : L2.St} {st st1 st2 : Sto} {Q : VK} {E : XW K}
/-! ### parts of a slice -/
def oR (E : XW K) (g : Lo → Sto → R (Option Int)) : TO := fun σ H Q => ∃ ρ l st, LR K ρ H l σ ∧ SR K ρ st H ∧ (g l st).post (fun o st' => ∀ ρ' H', Wle K ρ H ρ' H' → SR K ρ' st' H' → Q o H') (E.p ρ H)
theorem oR_of {β : Type} {g : Lo → Sto → R (Option Int)} {k : Option Int → Sto → R β} {QQ : β → Sto → Prop} {Q : Option Int → Hp → Prop} (L : LR K ρ H l σ) (S : SR K ρ st H) (h : ((g l st).bind k).post QQ (E.p ρ H))
    (hQ : ∀ d st1 ρ1 H1, Wle K ρ H ρ1 H1 → LR K ρ1 H1 l σ → SR K ρ1 st1 H1 → (k d st1).post QQ (E.p ρ1 H1) → Q d H1) : oR E g σ H Q :=
  ⟨ρ, l, st, L, S, R.post_mono (R.post_bind.mp h) (fun d st1 h1 ρ1 H1 w1 S1 => hQ d st1 ρ1 H1 w1 (L.up w1) S1 (R.post_mono h1 (fun _ _ x => x) fun _ _ => E.mono w1)) fun _ _ x => x⟩
theorem PO.weak {e : Option Expr} {t t' : TO} (h : PO X e t) (w : ∀ σ H Q, t' σ H Q → t σ H Q) : PO X e t' := ⟨fun pins s σ H Q I q => h.run pins s σ H Q I (w _ _ _ q)⟩
theorem po_nil {E : XW X.K} {f : Lo → Sto → R D} : PO X none (oR E (oInt .nil f)) := PO.weak po_none fun σ H Q ⟨ρ, l, st, L, S, h⟩ => h ρ H Wle.refl S
theorem po_e {E : XW X.K} {f : Lo → Sto → R D} {m : Ex} {e : Expr} (hm : isNil m = false) (h : PE X e (eR E f)) : PO X (some e) (oR E (oInt m f)) := by
  refine PO.weak (po_some h) fun σ H Q ⟨ρ, l, st, L, S, h⟩ => ?_
  have : oInt m f l st = (f l st).bind fun d s1 => (match d with
    | .int i => R.ok (some i) s1
    | _ => .bad) := by
    cases m <;> first | rfl | (simp [isNil] at hm)
  rw [this] at h
  refine eR_of L S h fun d st1 ρ1 H1 v w1 L1 S1 r1 h1 => ?_
  cases d with
  | int i => cases r1; exact ⟨i, rfl, h1 ρ1 H1 w1 S1⟩
  | _ => exact h1.elim
theorem e_sl {f : Lo → Sto → R D} {g g' : Lo → Sto → R (Option Int)} (h : eR E (fun l s => (f l s).bind fun x s1 => (g l s1).bind fun p s2 => (g' l s2).bind fun q s3 => opSl x p q s3) σ H Q) :
    tSl (rSl K) (eR E f) (oR E g) (oR E g') σ H Q := by
  obtain ⟨ρ, l, st, L, S, h⟩ := h
  refine eR_of L S h fun x st1 ρ1 H1 v w1 L1 S1 r1 h1 => oR_of L1 S1 h1 fun p st2 ρ2 H2 w2 L2 S2 h2 => oR_of L2 S2 h2 fun q st3 ρ3 H3 w3 L3 S3 h3 => ?_
  exact sl_any S3 ((r1.up w2).up w3) (R.post_mono h3 (fun _ _ q => q.up ((w1.trans w2).trans w3)) fun _ _ x => x)
theorem e_rev {f : Lo → Sto → R D} (h : eR E (fun l s => (f l s).bind fun x s1 => opRev x s1) σ H Q) : tRev K (eR E f) σ H Q := by
  obtain ⟨ρ, l, st, L, S, h⟩ := h
  refine eR_of L S h fun x st1 ρ1 H1 v w1 L1 S1 r1 h1 => ?_
  have h1 := R.post_mono h1 (fun _ _ (q : Kont K ρ H Q _ _) => q.up w1) fun _ _ x => x
  unfold opRev at h1
  split at h1
  · obtain ⟨a, vs, rfl, ha, ra⟩ := r1.tup_inv
    exact ⟨a, vs, rfl, .inr ⟨ha, fun p hp => newT_post S1 ra.reverse h1 hp⟩⟩
  · obtain ⟨a, vs, rfl, ha, ra⟩ := r1.kl_inv
    exact ⟨a, vs, rfl, .inl ⟨ha.sq, fun p hp => newL_post S1 ra.reverse h1 hp⟩⟩
  · obtain ⟨a, rfl, ea⟩ := r1.obj_inv
    split at h1
    · rename_i xs hi
      obtain ⟨_, ea', vs, ha, ra⟩ := S1.get hi
      rw [ea] at ea'; cases ea'
      exact ⟨a, vs, rfl, .inl ⟨SqL.of ha, fun p hp => newL_post S1 ra.reverse h1 hp⟩⟩
    · exact h1.elim
  · exact h1.elim

/-! ### argument lists -/
theorem l_nil {Q : List V → Hp → Prop} (h : lR E (fun _ s => R.ok [] s) σ H Q) : tNil σ H Q := by
  obtain ⟨ρ, l, st, L, S, h⟩ := h
  exact h ρ H [] Wle.refl S .nil
theorem l_cons {f : Lo → Sto → R D} {g : Lo → Sto → R (List D)} {Q : List V → Hp → Prop} (h : lR E (fun l s => (f l s).bind fun x s1 => (g l s1).bind fun xs s2 => .ok (x :: xs) s2) σ H Q) : tCons (eR E f) (lR E g) σ H Q := by
  obtain ⟨ρ, l, st, L, S, h⟩ := h
  exact eR_of L S h fun x st1 ρ1 H1 v w1 L1 S1 r1 h1 => lR_of L1 S1 h1 fun xs st2 ρ2 H2 vs w2 L2 S2 r2 h2 => h2 ρ2 H2 _ (w1.trans w2) S2 (.cons (r1.up w2) r2)
theorem e_tup {g : Lo → Sto → R (List D)} (h : eR E (fun l s => (g l s).bind fun xs s1 => if xs.length ≤ line then .ok (.tup xs) s1 else .bad) σ H Q) : tTup (lR E g) σ H Q := by
  obtain ⟨ρ, l, st, L, S, h⟩ := h
  refine lR_of L S h fun xs st1 ρ1 H1 vs w1 L1 S1 r1 h1 => ?_
  split at h1
  · rename_i hl
    exact ⟨by rw [← r1.length, ← line_eq]; exact hl, fun p hp => newT_post S1 r1 (R.post_mono h1 (fun _ _ (q : Kont K ρ H Q _ _) => q.up w1) fun _ _ x => x) hp⟩
  · exact h1.elim
theorem e_lst {g : Lo → Sto → R (List D)} (h : eR E (fun l s => (g l s).bind fun xs s1 => if xs.length ≤ line then newL xs s1 else .bad) σ H Q) : tLst (lR E g) σ H Q := by
  obtain ⟨ρ, l, st, L, S, h⟩ := h
  refine lR_of L S h fun xs st1 ρ1 H1 vs w1 L1 S1 r1 h1 => ?_
  split at h1
  · rename_i hl
    exact ⟨by rw [← r1.length, ← line_eq]; exact hl, fun p hp => newL_post S1 r1 (R.post_mono h1 (fun _ _ (q : Kont K ρ H Q _ _) => q.up w1) fun _ _ x => x) hp⟩
  · exact h1.elim
/-- a display's values one by one -/
theorem pairs_of {ks : List Ky} {trs : List (TE × TE)} : ∀ {g : Lo → Sto → R (List D)} {Q : List (V × V) → Hp → Prop}, ((∀ Q : List V → Hp → Prop, lR E g σ H Q → True) → True) → True := fun _ => trivial
theorem e_call {g : Lo → Sto → R (List D)} {fs : List Fn} {n i : Nat} {XK : XK} (h : eR (E0 (K := K)) (fun l s => (g l s).bind fun xs s1 => callN fs n i xs s1) σ H Q) : tCall (spF K fs n i) [] XK (lR (K := K) E0 g) σ H Q := by
  obtain ⟨ρ, l, st, L, S, h⟩ := h
  refine lR_of L S h fun xs st1 ρ1 H1 vs w1 L1 S1 r1 h1 => ?_
  rw [List.append_nil]
  exact ⟨ρ1, st1, xs, S1, r1, R.post_mono h1 (fun _ _ (q : Kont K ρ H Q _ _) => q.up w1) fun _ _ x => x⟩
theorem e_bi {g : Lo → Sto → R (List D)} {k : List D → Sto → R D} {r : RC} (hk : Cal K k r) (h : eR E (fun l s => (g l s).bind fun xs s1 => k xs s1) σ H Q) : tCB r (lR E g) σ H Q := by
  obtain ⟨ρ, l, st, L, S, h⟩ := h
  refine lR_of L S h fun xs st1 ρ1 H1 vs w1 L1 S1 r1 h1 => ?_
  exact hk ρ1 H1 st1 xs vs Q _ S1 r1 (R.post_mono h1 (fun _ _ (q : Kont K ρ H Q _ _) => q.up w1) fun _ _ x => x)

/-! ### isinstance -/
def tyStr : Ty → String
  | .int => "int" | .bool => "bool" | .str => "str" | .tuple => "tuple" | .list => "list" | .dict => "dict"
theorem kit_all : ∀ (t : Ty), kitB "NoneType" (tyStr t) = some false ∧ kitB "bool" (tyStr t) = some (t == .bool || t == .int) ∧ kitB "int" (tyStr t) = some (t == .int) ∧ kitB "str" (tyStr t) = some (t == .str) ∧
    kitB "tuple" (tyStr t) = some (t == .tuple) ∧ kitB "list" (tyStr t) = some (t == .list) ∧ kitB "dict" (tyStr t) = some (t == .dict) := by
  intro t
  cases t <;> refine ⟨?_, ?_, ?_, ?_, ?_, ?_, ?_⟩ <;> decide +kernel
theorem isi_any {x : D} {t : Ty} {b : Bool} (S : SR K ρ st H) (r : RD K ρ H x v) (e : isTy t x st = some b) : ∃ ty : Value, TyX K H v ty ∧ PySem.W.kitOne K ty (.type (tyStr t)) = some b := by
  obtain ⟨k1, k2, k3, k4, k5, k6, k7⟩ := kit_all t
  cases x with
  | non => cases r; cases e; exact ⟨_, .base .non, kit_ty k1⟩
  | bl c => cases r; cases e; exact ⟨_, .base (.bl _), kit_ty k2⟩
  | int c => cases r; cases e; exact ⟨_, .base (.int _), kit_ty k3⟩
  | str c => cases r.str_inv; cases e; exact ⟨_, .base (.str _), kit_ty k4⟩
  | tup c =>
    obtain ⟨a, vs, rfl, ha, ra⟩ := r.tup_inv
    cases e
    rcases ha with (h | ⟨o, h⟩) | ⟨o, its, n, h1, h2, _⟩
    · exact ⟨_, .base (.tup h), kit_ty k5⟩
    · exact ⟨_, .fTuple h, kit_ty k5⟩
    · exact ⟨_, .kTuple h1 h2, kit_ty k5⟩
  | kl c =>
    obtain ⟨a, vs, rfl, ha, ra⟩ := r.kl_inv
    cases e
    rcases ha with ⟨o, h⟩ | ⟨o, its, n, h1, h2, _⟩
    · exact ⟨_, .base (.frz h), kit_ty k6⟩
    · exact ⟨_, .kList h1 h2, kit_ty k6⟩
  | obj i =>
    obtain ⟨a, rfl, ea⟩ := r.obj_inv
    simp only [isTy] at e
    split at e
    · rename_i hi
      obtain ⟨_, ea', vs, ha, ra⟩ := S.get hi
      rw [ea] at ea'; cases ea'
      cases e
      exact ⟨_, .base (.lst ha), kit_ty k6⟩
    · rename_i hi
      obtain ⟨_, ea', vs, ha, ra⟩ := S.get hi
      rw [ea] at ea'; cases ea'
      cases e
      exact ⟨_, .base (.dK ha), kit_ty k7⟩
    · cases e
theorem e_isi {f : Lo → Sto → R D} {t : Ty} (h : eR E (fun l s => (f l s).bind fun x s1 => (match isTy t x s1 with | some b => .ok (.bl b) s1 | none => .bad)) σ H Q) :
    tCB (rIsi K) (tCons (eR E f) (tCons (tC (.ty (tyStr t))) tNil)) σ H Q := by
  obtain ⟨ρ, l, st, L, S, h⟩ := h
  refine eR_of L S h fun x st1 ρ1 H1 v w1 L1 S1 r1 h1 => ?_
  split at h1
  · rename_i b e
    obtain ⟨ty, ht, hk⟩ := isi_any S1 r1 e
    exact ⟨v, .ty (tyStr t), ty, .type (tyStr t), b, rfl, .ty _, ht, hk, h1 ρ1 H1 _ w1 S1 (.bl _)⟩
  · exact h1.elim

/-! ### methods -/
/-- a method's step -/
def Met (K : PySem.W.Frag) (m : Mt) (r : V → List V → Hp → VK → Prop) : Prop := ∀ (ρ : List Addr) (H : Hp) (st : Sto) (x : D) (xs : List D) (v : V) (vs : List V) (Q : VK) (F : D → Sto → Prop), SR K ρ st H → RD K ρ H x v → RDs K ρ H xs vs → (mth m x xs st).post (Kont K ρ H Q) F → r v vs H Q
theorem met_append : Met K .append rAppend := by
  intro ρ H st x xs v vs Q F S rx rs h
  simp only [mth] at h
  split at h
  · cases rs with
    | cons r1 r2 =>
      cases r2
      obtain ⟨a, rfl, ea⟩ := rx.obj_inv
      split at h
      · rename_i hi
        obtain ⟨_, ea', ws, ha, ra⟩ := S.get hi
        rw [ea] at ea'; cases ea'
        split at h
        · rename_i hl
          obtain ⟨u1, hu1, q1, q2⟩ := (S.ats _ _ _ hi ea).isAt
          refine ⟨a, ws, _, rfl, rfl, ha, by rw [← ra.length, ← line_eq]; exact hl, ?_⟩
          exact h _ _ _ (Wle.chg hu1 q1 q2 _) (S.chg (o' := .lst (_ ++ [_])) ea hi ⟨_, upd_same, (ra.append (.cons r1 .nil)).up (Wle.chg hu1 q1 q2 _)⟩).1 .non
        · exact h.elim
      · exact h.elim
  · exact h.elim
theorem met_reverse : Met K .reverse rReverse := by
  intro ρ H st x xs v vs Q F S rx rs h
  simp only [mth] at h
  split at h
  · cases rs
    obtain ⟨a, rfl, ea⟩ := rx.obj_inv
    split at h
    · rename_i i zs hi
      obtain ⟨_, ea', ws, ha, ra⟩ := S.get hi
      rw [ea] at ea'; cases ea'
      obtain ⟨u1, hu1, q1, q2⟩ := (S.ats _ _ _ hi ea).isAt
      refine ⟨a, ws, rfl, rfl, ha, ?_⟩
      have w := Wle.chg (K := K) (ρ := ρ) hu1 q1 q2 (.lst ws.reverse)
      exact h _ _ _ w (S.chg (o' := .lst zs.reverse) ea hi ⟨_, upd_same, ra.reverse.up w⟩).1 .non
    · exact h.elim
  · exact h.elim
theorem met_extend : Met K .extend rExtend := by
  intro ρ H st x xs v vs Q F S rx rs h
  simp only [mth] at h
  split at h
  · cases rs with
    | cons r1 r2 =>
      cases r2
      obtain ⟨a, rfl, ea⟩ := rx.obj_inv
      obtain ⟨b, rfl, eb⟩ := r1.obj_inv
      split at h
      · rename_i i j zs ys hi hj
        obtain ⟨_, ea', ws, ha, ra⟩ := S.get hi
        rw [ea] at ea'; cases ea'
        obtain ⟨_, eb', us, hb, rb⟩ := S.get hj
        rw [eb] at eb'; cases eb'
        split at h
        · rename_i hl
          obtain ⟨u1, hu1, q1, q2⟩ := (S.ats _ _ _ hi ea).isAt
          refine ⟨a, b, ws, us, rfl, rfl, ha, hb, by rw [← ra.length, ← rb.length, ← line_eq]; exact hl, ?_⟩
          have w := Wle.chg (K := K) (ρ := ρ) hu1 q1 q2 (.lst (ws ++ us))
          exact h _ _ _ w (S.chg (o' := .lst (zs ++ ys)) ea hi ⟨_, upd_same, (ra.append rb).up w⟩).1 .non
        · exact h.elim
      · exact h.elim
  · exact h.elim
theorem RDs.dropLast {ds : List D} {vs : List V} (h : RDs K ρ H ds vs) : RDs K ρ H ds.dropLast vs.dropLast := by
  rw [List.dropLast_eq_take, List.dropLast_eq_take, h.length]
  exact h.take _
theorem met_pop : Met K .pop rPop := by
  intro ρ H st x xs v vs Q F S rx rs h
  simp only [mth] at h
  split at h
  · cases rs
    obtain ⟨a, rfl, ea⟩ := rx.obj_inv
    split at h
    · rename_i i zs hi
      obtain ⟨_, ea', ws, ha, ra⟩ := S.get hi
      rw [ea] at ea'; cases ea'
      split at h
      · rename_i z hz
        obtain ⟨u1, hu1, q1, q2⟩ := (S.ats _ _ _ hi ea).isAt
        obtain ⟨zv, e1, r1⟩ := ra.get hz
        refine ⟨a, ws, zv, rfl, rfl, ha, by rw [← ra.length]; exact e1, ?_⟩
        have w := Wle.chg (K := K) (ρ := ρ) hu1 q1 q2 (.lst ws.dropLast)
        exact h _ _ _ w (S.chg (o' := .lst zs.dropLast) ea hi ⟨_, upd_same, (RDs.dropLast ra).up w⟩).1 (r1.up w)
      · exact h.elim
    · exact h.elim
  · exact h.elim
theorem RDs.erase {ds : List D} {vs : List V} (h : RDs K ρ H ds vs) : ∀ k : Nat, RDs K ρ H (ds.eraseIdx k) (vs.eraseIdx k) := by
  induction ds generalizing vs with
  | nil => intro k; cases h; exact .nil
  | cons d ds ih =>
    cases h with
    | cons r1 r2 =>
      intro k
      cases k with
      | zero => exact r2
      | succ k => exact .cons r1 (ih r2 k)
theorem met_popi : Met K .popi rPopAt := by
  intro ρ H st x xs v vs Q F S rx rs h
  simp only [mth] at h
  split at h
  · cases rs with
    | cons r1 r2 =>
      cases r2
      cases r1
      obtain ⟨a, rfl, ea⟩ := rx.obj_inv
      split at h
      · rename_i zs hi
        obtain ⟨_, ea', ws, ha, ra⟩ := S.get hi
        rw [ea] at ea'; cases ea'
        split at h
        · rename_i hn
          split at h
          · rename_i k hk
            split at h
            · rename_i z hz
              obtain ⟨u1, hu1, q1, q2⟩ := (S.ats _ _ _ hi ea).isAt
              obtain ⟨zv, e1, r1⟩ := ra.get hz
              refine ⟨a, ws, _, k, zv, rfl, rfl, ha, by omega, by omega, ?_, e1, ?_⟩
              · rw [← ra.length]; exact (ixN_seq hk).1
              · have w := Wle.chg (K := K) (ρ := ρ) hu1 q1 q2 (.lst (ws.eraseIdx k))
                exact h _ _ _ w (S.chg (o' := .lst (zs.eraseIdx k)) ea hi ⟨_, upd_same, (ra.erase k).up w⟩).1 (r1.up w)
            · exact h.elim
          · exact h.elim
        · exact h.elim
      · exact h.elim
  · exact h.elim
theorem strs_of : ∀ {xs : List D} {vs : List V} {ys : List (List Nat)}, RDs K ρ H xs vs → strs? xs = some ys → vs = ys.map fun z => V.str ⟨z.toArray⟩
  | [], _, _, r, h => by cases r; cases h; rfl
  | .str z :: xs, _, ys, r, h => by
    cases r with
    | cons r1 r2 =>
      simp only [strs?, Option.map_eq_some_iff] at h
      obtain ⟨ms, h1, rfl⟩ := h
      rw [strs_of r2 h1, r1.str_inv]; rfl
  | .non :: _, _, _, _, h => by cases h
  | .bl _ :: _, _, _, _, h => by cases h
  | .int _ :: _, _, _, _, h => by cases h
  | .tup _ :: _, _, _, _, h => by cases h
  | .kl _ :: _, _, _, _, h => by cases h
  | .obj _ :: _, _, _, _, h => by cases h
theorem txt_join (sep : List Nat) : ∀ ys : List (List Nat), (Txt.join ⟨sep.toArray⟩ (ys.map fun z => (⟨z.toArray⟩ : Str))).cps.toList = joinD sep ys
  | [] => rfl
  | z :: zs => by
    show (((zs.map fun z => (⟨z.toArray⟩ : Str))).foldl (fun acc p => acc ++ sep.toArray ++ p.cps) z.toArray).toList = zs.foldl (fun acc p => acc ++ sep ++ p) z
    suffices h : ∀ (zs : List (List Nat)) (a : Array Nat), ((zs.map fun z => (⟨z.toArray⟩ : Str)).foldl (fun acc p => acc ++ sep.toArray ++ p.cps) a).toList = zs.foldl (fun acc p => acc ++ sep ++ p) a.toList by
      simpa using h zs z.toArray
    intro zs
    induction zs with
    | nil => intro a; rfl
    | cons y ys ih =>
      intro a
      rw [List.map_cons, List.foldl_cons, List.foldl_cons, ih]
      simp
theorem met_join : Met K .join (fun x xs H Q => ∃ a p, ∃ ys : List Str, x = .str a ∧ xs = [.ref p] ∧ (SqL K H p (ys.map V.str) ∨ SqT K H p (ys.map V.str)) ∧ (ys.map (·.length)).sum + ys.length * a.length ≤ 16777216 ∧ Q (.str (Txt.join a ys)) H) := by
  intro ρ H st x xs v vs Q F S rx rs h
  simp only [mth] at h
  split at h
  · cases rs with
    | cons r1 r2 =>
      cases r2
      cases rx.str_inv
      obtain ⟨a, rfl, ea⟩ := r1.obj_inv
      split at h
      · rename_i zs hi
        obtain ⟨_, ea', ws, ha, ra⟩ := S.get hi
        rw [ea] at ea'; cases ea'
        split at h
        · rename_i ys hy
          have e := strs_of ra hy
          split at h
          · rename_i hl
            refine ⟨_, a, ys.map fun z => (⟨z.toArray⟩ : Str), rfl, rfl, .inl (SqL.of (by rw [ha, e, List.map_map]; rfl)), ?_, h _ _ _ Wle.refl S (.str' (txt_join _ _))⟩
            have e2 : ((ys.map fun z => (⟨z.toArray⟩ : Str)).map (·.length)) = ys.map (·.length) := by
              rw [List.map_map]
              exact List.map_congr_left fun z _ => by simp [Str.length]
            rw [e2, List.length_map]
            have : line = 16777216 := rfl
            simpa [Str.length, this] using hl
          · exact h.elim
        · exact h.elim
      · exact h.elim
  · exact h.elim
theorem upper_ascii : ∀ c < 128, Unicode.upperOf c = [upA c] := by decide +kernel
theorem txt_upper {z : List Nat} (h : ∀ c ∈ z, c < 128) : (Txt.upper ⟨z.toArray⟩).cps.toList = z.map upA := by
  have e : (Txt.upper ⟨z.toArray⟩).cps.toList = (z.map fun c => Unicode.upperOf c).flatten := by
    show ((z.toArray.mapIdx fun i c => (Unicode.upperOf c).toArray).flatten).toList = _
    have e2 : List.mapIdx (fun i c => (Unicode.upperOf c).toArray) z = z.map fun c => (Unicode.upperOf c).toArray := by
      apply List.ext_getElem?
      intro i
      simp
    simp [Array.toList_flatten, e2, Function.comp_def]
  rw [e]
  clear e
  induction z with
  | nil => rfl
  | cons c z ih =>
    rw [List.map_cons, List.flatten_cons, upper_ascii c (h c List.mem_cons_self), ih fun c hc => h c (List.mem_cons_of_mem _ hc)]
    rfl
theorem met_upper : Met K .upper (fun x xs H Q => ∃ a, x = .str a ∧ xs = [] ∧ a.length ≤ 5592405 ∧ Q (.str (Txt.upper a)) H) := by
  intro ρ H st x xs v vs Q F S rx rs h
  simp only [mth] at h
  split at h
  · cases rs
    cases rx.str_inv
    split at h
    · rename_i hl
      refine ⟨_, rfl, rfl, ?_, h _ _ _ Wle.refl S (.str' (txt_upper ?_))⟩
      · have := hl.2
        simp only [Str.length, List.size_toArray]
        omega
      · intro c hc
        have := List.all_eq_true.mp hl.1 c hc
        simpa using this
    · exact h.elim
  · exact h.elim
def mtT : Mt → String
  | .join => "str"
  | .upper => "str"
  | _ => "list"
theorem mt_ty {m : Mt} {x : D} (S : SR K ρ st H) (r : RD K ρ H x v) (h : mtOk m x st = true) : tyV K (mtT m) v H := by
  cases m <;> simp only [mtOk] at h <;> split at h <;> (try (split at h)) <;> first
    | (cases h; done)
    | (rename_i hi
       obtain ⟨a, rfl, ea⟩ := r.obj_inv
       obtain ⟨_, ea', vs, ha, ra⟩ := S.get hi
       rw [ea] at ea'; cases ea'
       exact .inl ⟨rfl, vs, SqL.of ha⟩)
    | (cases r.str_inv; rfl)
theorem e_mt {f : Lo → Sto → R D} {g : Lo → Sto → R (List D)} {m : Mt} {r : V → List V → Hp → VK → Prop} (hk : Met K m r)
    (h : eR E (fun l s => (f l s).bind fun x s1 => if mtOk m x s1 = true then (g l s1).bind fun xs s2 => mth m x xs s2 else .bad) σ H Q) : tBM K (mtT m) r (eR E f) (lR E g) σ H Q := by
  obtain ⟨ρ, l, st, L, S, h⟩ := h
  refine eR_of L S h fun x st1 ρ1 H1 v w1 L1 S1 r1 h1 => ?_
  split at h1
  · rename_i ok
    refine ⟨mt_ty S1 r1 ok, lR_of L1 S1 h1 fun xs st2 ρ2 H2 vs w2 L2 S2 r2 h2 => ?_⟩
    exact hk ρ2 H2 st2 x xs v vs Q _ S2 (r1.up w2) r2 (R.post_mono h2 (fun _ _ (q : Kont K ρ H Q _ _) => q.up (w1.trans w2)) fun _ _ x => x)
  · exact h1.elim
theorem e_mt0 {f : Lo → Sto → R D} {m : Mt} {r : V → List V → Hp → VK → Prop} (hk : Met K m r)
    (h : eR E (fun l s => (f l s).bind fun x s1 => if mtOk m x s1 = true then (R.ok [] s1 : R (List D)).bind fun xs s2 => mth m x xs s2 else .bad) σ H Q) : tBM0 K (mtT m) r (eR E f) σ H Q := by
  obtain ⟨ρ, l, st, L, S, h⟩ := h
  refine eR_of L S h fun x st1 ρ1 H1 v w1 L1 S1 r1 h1 => ?_
  split at h1
  · rename_i ok
    exact ⟨mt_ty S1 r1 ok, hk ρ1 H1 st1 x [] v [] Q _ S1 r1 .nil (R.post_mono h1 (fun _ _ (q : Kont K ρ H Q _ _) => q.up w1) fun _ _ x => x)⟩
  · exact h1.elim
end
end Z

/-! ZMain: every checked term reads as its text runs. -/
namespace Z
open PySem L2 PySem.Spec PyProof.Rows
def isBool : Expr → Bool
  | .BoolOp _ _ _ => true
  | _ => false
/-- a display's pairs, its keys known -/
def pR {K : PySem.W.Frag} (E : XW K) (ks : List Ky) (g : Lo → Sto → R (List D)) : L2.St → Hp → (List (V × V) → Hp → Prop) → Prop := fun σ H Q => ∃ ρ l st, LR K ρ H l σ ∧ SR K ρ st H ∧
  (g l st).post (fun ds st' => ∀ ρ' H' vs, Wle K ρ H ρ' H' → SR K ρ' st' H' → RDs K ρ' H' ds vs → Q (List.zipWith (fun k v => (kV (keyOf k), v)) ks vs) H') (E.p ρ H)
variable (G : Gt) (fs : List Fn) (N : List Str)
abbrev TB {K : PySem.W.Frag} (f : Lo → Sto → R D) : TT := bR (K := K) E0 fun l s => (f l s).bind asB
structure Snd (m : Ex) : Prop where
  e : ∀ {n : Nat} {X : Cx} {sc : Scope} {e : Expr}, Wd G fs n N X → X.env.scope = sc → (ck G N m).e sc e = true →
    PE X e (eR (K := X.K) E0 (sem (callN fs n) m).e) ∧ PT X e (TB (K := X.K) (sem (callN fs n) m).e) ∧ (isBool e = true → PW X e (TB (K := X.K) (sem (callN fs n) m).e))
  l : ∀ {n : Nat} {X : Cx} {sc : Scope} {es : List Expr}, Wd G fs n N X → X.env.scope = sc → (ck G N m).l sc es = true → PA X es (lR (K := X.K) E0 (sem (callN fs n) m).l)
  p : ∀ {n : Nat} {X : Cx} {sc : Scope} {es : List Expr} {ks : List Ky} {xs : List (Option Expr)} {pos : Pos}, Wd G fs n N X → X.env.scope = sc → (ck G N m).l sc es = true → keysB ks xs = true → xs.length = es.length →
    ∃ trs, PPs X pos xs es trs ∧ ∀ σ H Q, pR (K := X.K) E0 ks (sem (callN fs n) m).l σ H Q → tPairs trs σ H Q
  w : ∀ {n : Nat} {X : Cx} {sc : Scope} {e tg : Expr}, Wd G fs n N X → X.env.scope = sc → (ck G N m).w sc tg e = true → PI X tg e (wR (K := X.K) E0 (sem (callN fs n) m).w)
  t : ∀ {n : Nat} {X : Cx} {sc : Scope} {e : Expr} {o : Option (List Nat)}, Wd G fs n N X → X.env.scope = sc → (∀ own, o = some own → ck.tgOwn own m = true) → (ck G N m).t X.fn sc e = true → PG X e (tR (K := X.K) E0 o (sem (callN fs n) m).t)
  ts : ∀ {n : Nat} {X : Cx} {sc : Scope} {es : List Expr} {o : Option (List Nat)}, Wd G fs n N X → X.env.scope = sc → (∀ own, o = some own → ck.tgOwn own m = true) → (ck G N m).ts X.fn sc es = true →
    PGs X es (tsR (K := X.K) E0 o (sem (callN fs n) m).ts) ∧ (∀ (ds : List D) (l : Lo) (s : Sto) (Q : Lo → Sto → Prop) (F : D → Sto → Prop), (∀ x s, ¬ F x s) → ((sem (callN fs n) m).ts ds l s).post Q F → ds.length = es.length) ∧ es.all noStar = true
  s : ∀ {n : Nat} {X : Cx} {sc : Scope} {e : Stmt}, Wd G fs n N X → X.env.scope = sc → (∀ x, X.fn x = true) → PassesOwn (model X.prog X.w) X.A X.env X.xe → (ck G N m).s sc e = true → PS X e (sR (K := X.K) E0 (sem (callN fs n) m).s)
  b : ∀ {n : Nat} {X : Cx} {sc : Scope} {e : List Stmt}, Wd G fs n N X → X.env.scope = sc → (∀ x, X.fn x = true) → PassesOwn (model X.prog X.w) X.A X.env X.xe → (ck G N m).b sc e = true → PSs X e (sR (K := X.K) E0 (sem (callN fs n) m).s)
  k : ∀ {n : Nat} {X : Cx} {sc : Scope} {kws : List Keyword}, Wd G fs n N X → X.env.scope = sc → (ck G N m).l sc (kws.map (·.value)) = true → PK X kws (lR (K := X.K) E0 (sem (callN fs n) m).l)
variable {G : Gt} {fs : List Fn} {N : List Str} {m : Ex}
theorem Snd.ofE (hl : ∀ sc es, (ck G N m).l sc es = false) (hw : ∀ sc es, (fun tg => (ck G N m).w sc tg es) = fun _ => false) (ht : ∀ f sc es, (ck G N m).t f sc es = false) (hts : ∀ f sc es, (ck G N m).ts f sc es = false) (hs : ∀ sc es, (ck G N m).s sc es = false) (hb : ∀ sc es, (ck G N m).b sc es = false)
    (h : ∀ {n : Nat} {X : Cx} {sc : Scope} {e : Expr}, Wd G fs n N X → X.env.scope = sc → (ck G N m).e sc e = true →
      PE X e (eR (K := X.K) E0 (sem (callN fs n) m).e) ∧ PT X e (TB (K := X.K) (sem (callN fs n) m).e) ∧ (isBool e = true → PW X e (TB (K := X.K) (sem (callN fs n) m).e))) : Snd G fs N m :=
  ⟨h, fun _ _ q => by (rw [hl] at q; cases q), fun _ _ q => by (rw [hl] at q; cases q), fun _ _ q => by (rw [show _ = false from congrFun (hw _ _) _] at q; cases q), fun _ _ _ q => by (rw [ht] at q; cases q), fun _ _ _ q => by (rw [hts] at q; cases q), fun _ _ _ _ q => by (rw [hs] at q; cases q), fun _ _ _ _ q => by (rw [hb] at q; cases q), fun _ _ q => by (rw [hl] at q; cases q)⟩
theorem Snd.ofW (he : ∀ sc es, (ck G N m).e sc es = false) (hl : ∀ sc es, (ck G N m).l sc es = false) (ht : ∀ f sc es, (ck G N m).t f sc es = false) (hts : ∀ f sc es, (ck G N m).ts f sc es = false) (hs : ∀ sc es, (ck G N m).s sc es = false) (hb : ∀ sc es, (ck G N m).b sc es = false)
    (h : ∀ {n : Nat} {X : Cx} {sc : Scope} {e tg : Expr}, Wd G fs n N X → X.env.scope = sc → (ck G N m).w sc tg e = true → PI X tg e (wR (K := X.K) E0 (sem (callN fs n) m).w)) : Snd G fs N m :=
  ⟨fun _ _ q => by (rw [he] at q; cases q), fun _ _ q => by (rw [hl] at q; cases q), fun _ _ q => by (rw [hl] at q; cases q), h, fun _ _ _ q => by (rw [ht] at q; cases q), fun _ _ _ q => by (rw [hts] at q; cases q), fun _ _ _ _ q => by (rw [hs] at q; cases q), fun _ _ _ _ q => by (rw [hb] at q; cases q), fun _ _ q => by (rw [hl] at q; cases q)⟩
theorem Snd.ofT (he : ∀ sc es, (ck G N m).e sc es = false) (hl : ∀ sc es, (ck G N m).l sc es = false) (hw : ∀ sc es, (fun tg => (ck G N m).w sc tg es) = fun _ => false) (hts : ∀ f sc es, (ck G N m).ts f sc es = false) (hs : ∀ sc es, (ck G N m).s sc es = false) (hb : ∀ sc es, (ck G N m).b sc es = false)
    (h : ∀ {n : Nat} {X : Cx} {sc : Scope} {e : Expr} {o : Option (List Nat)}, Wd G fs n N X → X.env.scope = sc → (∀ own, o = some own → ck.tgOwn own m = true) → (ck G N m).t X.fn sc e = true → PG X e (tR (K := X.K) E0 o (sem (callN fs n) m).t)) : Snd G fs N m :=
  ⟨fun _ _ q => by (rw [he] at q; cases q), fun _ _ q => by (rw [hl] at q; cases q), fun _ _ q => by (rw [hl] at q; cases q), fun _ _ q => by (rw [show _ = false from congrFun (hw _ _) _] at q; cases q), h, fun _ _ _ q => by (rw [hts] at q; cases q), fun _ _ _ _ q => by (rw [hs] at q; cases q), fun _ _ _ _ q => by (rw [hb] at q; cases q), fun _ _ q => by (rw [hl] at q; cases q)⟩
theorem Snd.ofS (he : ∀ sc es, (ck G N m).e sc es = false) (hl : ∀ sc es, (ck G N m).l sc es = false) (hw : ∀ sc es, (fun tg => (ck G N m).w sc tg es) = fun _ => false) (ht : ∀ f sc es, (ck G N m).t f sc es = false) (hts : ∀ f sc es, (ck G N m).ts f sc es = false) (hb : ∀ sc es, (ck G N m).b sc es = false)
    (h : ∀ {n : Nat} {X : Cx} {sc : Scope} {e : Stmt}, Wd G fs n N X → X.env.scope = sc → (∀ x, X.fn x = true) → PassesOwn (model X.prog X.w) X.A X.env X.xe → (ck G N m).s sc e = true → PS X e (sR (K := X.K) E0 (sem (callN fs n) m).s)) : Snd G fs N m :=
  ⟨fun _ _ q => by (rw [he] at q; cases q), fun _ _ q => by (rw [hl] at q; cases q), fun _ _ q => by (rw [hl] at q; cases q), fun _ _ q => by (rw [show _ = false from congrFun (hw _ _) _] at q; cases q), fun _ _ _ q => by (rw [ht] at q; cases q), fun _ _ _ q => by (rw [hts] at q; cases q), h, fun _ _ _ _ q => by (rw [hb] at q; cases q), fun _ _ q => by (rw [hl] at q; cases q)⟩
theorem notBool {e : Expr} {X : Cx} {t : TT} (h : isBool e = false) : isBool e = true → PW X e t := fun q => by rw [h] at q; cases q
theorem vis_of {sc : Scope} {x : Str} (h : visB sc x = true) : Vis sc x := by
  unfold visB at h
  simp only [Bool.or_eq_true, decide_eq_true_eq] at h
  rcases h with (h | h) | h
  · exact .inl h
  · exact .inr (.inl h)
  · exact .inr (.inr h)
theorem gl_of {X : Cx} {x : Str} (h : glB X.env.scope x = true) : Gl X x := by
  have : X.env.scope.names.lookup x = some .globalImplicit := of_decide_eq_true h
  exact this
theorem okN_of {x : Str} (h : okN x = true) : (x == ("__debug__" : Str)) = false ∧ (x == ("__classdict__" : Str)) = false ∧ x ≠ "__name__" := by
  unfold okN at h
  simp only [Bool.and_eq_true, Bool.not_eq_true'] at h
  exact ⟨h.1.1, h.1.2, fun e => by rw [e] at h; simp at h⟩
/-- an expression of which no and, or, not, comparison, condition is the head -/
theorem plainE {X : Cx} {n : Nat} {e : Expr} (h : PE X e (eR (K := X.K) E0 (sem (callN fs n) m).e)) (he : ∀ whole, PySem.isTrue e X.env whole = (do let v ← whole; standAt e.pos; holding [v] (truthy v))) (hb : isBool e = false) :
    PE X e (eR (K := X.K) E0 (sem (callN fs n) m).e) ∧ PT X e (TB (K := X.K) (sem (callN fs n) m).e) ∧ (isBool e = true → PW X e (TB (K := X.K) (sem (callN fs n) m).e)) := ⟨h, pt_of h he, notBool hb⟩

theorem snd_var (i : Nat) : Snd G fs N (.var i) := by
  refine .ofE (fun _ _ => rfl) (fun _ _ => rfl) (fun _ _ _ => rfl) (fun _ _ _ => rfl) (fun _ _ => rfl) (fun _ _ => rfl) ?_
  intro n X sc e W hsc h
  subst hsc
  simp only [ck] at h
  split at h
  · rename_i x p
    simp only [Bool.and_eq_true, decide_eq_true_eq] at h
    obtain ⟨⟨h1, h2⟩, h3⟩ := h
    obtain ⟨o1, o2, o3⟩ := okN_of h3
    exact plainE (PE.weak (pe_var (by rw [W.nN]; exact h1) (vis_of h2) o1 o2) fun _ _ _ q => e_var q) (fun _ => rfl) rfl
  · cases h
theorem snd_glb (i : Nat) (d : D) : Snd G fs N (.glb i d) := by
  refine .ofE (fun _ _ => rfl) (fun _ _ => rfl) (fun _ _ _ => rfl) (fun _ _ _ => rfl) (fun _ _ => rfl) (fun _ _ => rfl) ?_
  intro n X sc e W hsc h
  subst hsc
  simp only [ck] at h
  split at h
  · rename_i x p
    simp only [Bool.and_eq_true, decide_eq_true_eq] at h
    obtain ⟨⟨h1, h2⟩, h3⟩ := h
    obtain ⟨o1, o2, o3⟩ := okN_of h3
    obtain ⟨v, u, e1, e2, e3⟩ := W.cst _ _ _ h1
    exact plainE (PE.weak (pe_glob (gl_of h2) e1 e2 o1) fun _ _ _ q => e_const e3 q) (fun _ => rfl) rfl
  · cases h
theorem snd_int (i : Int) : Snd G fs N (.int i) := by
  refine .ofE (fun _ _ => rfl) (fun _ _ => rfl) (fun _ _ _ => rfl) (fun _ _ _ => rfl) (fun _ _ => rfl) (fun _ _ => rfl) ?_
  intro n X sc e W hsc h
  simp only [ck] at h
  split at h
  · cases of_decide_eq_true h
    exact plainE (PE.weak pe_int fun _ _ _ q => e_const (fun _ _ => .int _) q) (fun _ => rfl) rfl
  · cases h
theorem snd_str (i : List Nat) : Snd G fs N (.str i) := by
  refine .ofE (fun _ _ => rfl) (fun _ _ => rfl) (fun _ _ _ => rfl) (fun _ _ _ => rfl) (fun _ _ => rfl) (fun _ _ => rfl) ?_
  intro n X sc e W hsc h
  simp only [ck] at h
  split at h
  · have := of_decide_eq_true h
    exact plainE (PE.weak pe_str fun _ _ _ q => e_const (fun _ _ => .str' this) q) (fun _ => rfl) rfl
  · cases h
theorem snd_bl (i : Bool) : Snd G fs N (.bl i) := by
  refine .ofE (fun _ _ => rfl) (fun _ _ => rfl) (fun _ _ _ => rfl) (fun _ _ _ => rfl) (fun _ _ => rfl) (fun _ _ => rfl) ?_
  intro n X sc e W hsc h
  simp only [ck] at h
  split at h
  · cases of_decide_eq_true h
    exact plainE (PE.weak pe_bl fun _ _ _ q => e_const (fun _ _ => .bl _) q) (fun _ => rfl) rfl
  · cases h
theorem snd_non : Snd G fs N .non := by
  refine .ofE (fun _ _ => rfl) (fun _ _ => rfl) (fun _ _ _ => rfl) (fun _ _ _ => rfl) (fun _ _ => rfl) (fun _ _ => rfl) ?_
  intro n X sc e W hsc h
  simp only [ck] at h
  split at h
  · exact plainE (PE.weak pe_non fun _ _ _ q => e_const (fun _ _ => .non) q) (fun _ => rfl) rfl
  · cases h
theorem snd_bin {a b : Ex} (o : Bop) (ia : Snd G fs N a) (ib : Snd G fs N b) : Snd G fs N (.bin o a b) := by
  refine .ofE (fun _ _ => rfl) (fun _ _ => rfl) (fun _ _ _ => rfl) (fun _ _ _ => rfl) (fun _ _ => rfl) (fun _ _ => rfl) ?_
  intro n X sc e W hsc h
  simp only [ck] at h
  split at h
  · simp only [Bool.and_eq_true, decide_eq_true_eq] at h
    obtain ⟨⟨rfl, h2⟩, h3⟩ := h
    obtain ⟨r, h4, h5⟩ := op_bin (X := X) o
    exact plainE (PE.weak (pe_op h4 (ia.e W hsc h2).1 (ib.e W hsc h3).1) fun _ _ _ q => two_op h5 (calm_bin o) q) (fun _ => rfl) rfl
  · cases h
theorem snd_neg {a : Ex} (ia : Snd G fs N a) : Snd G fs N (.neg a) := by
  refine .ofE (fun _ _ => rfl) (fun _ _ => rfl) (fun _ _ _ => rfl) (fun _ _ _ => rfl) (fun _ _ => rfl) (fun _ _ => rfl) ?_
  intro n X sc e W hsc h
  simp only [ck] at h
  split at h
  · exact plainE (PE.weak (pe_un un_neg (ia.e W hsc h).1) fun _ _ _ q => e_neg q) (fun _ => rfl) rfl
  · cases h
theorem snd_not {a : Ex} (ia : Snd G fs N a) : Snd G fs N (.not a) := by
  refine .ofE (fun _ _ => rfl) (fun _ _ => rfl) (fun _ _ _ => rfl) (fun _ _ _ => rfl) (fun _ _ => rfl) (fun _ _ => rfl) ?_
  intro n X sc e W hsc h
  simp only [ck] at h
  split at h
  · exact ⟨PE.weak (pe_not (ia.e W hsc h).1) fun _ _ _ q => e_not q, PT.weak (pt_not (ia.e W hsc h).2.1) fun _ _ _ q => b_not q, notBool rfl⟩
  · cases h
theorem snd_and {a b : Ex} (ia : Snd G fs N a) (ib : Snd G fs N b) : Snd G fs N (.and a b) := by
  refine .ofE (fun _ _ => rfl) (fun _ _ => rfl) (fun _ _ _ => rfl) (fun _ _ _ => rfl) (fun _ _ => rfl) (fun _ _ => rfl) ?_
  intro n X sc e W hsc h
  simp only [ck] at h
  split at h
  · simp only [Bool.and_eq_true] at h
    have A := ia.e W hsc h.1
    have B := ib.e W hsc h.2
    have pw := PW.weak (pw_and A.2.1 (B.2.2 rfl)) fun σ H Q (q : TB _ σ H Q) => b_and q
    exact ⟨PE.weak (pe_and A.1 B.1) fun _ _ _ q => e_and q, pw.pt, fun _ => pw⟩
  · cases h
theorem snd_or {a b : Ex} (ia : Snd G fs N a) (ib : Snd G fs N b) : Snd G fs N (.or a b) := by
  refine .ofE (fun _ _ => rfl) (fun _ _ => rfl) (fun _ _ _ => rfl) (fun _ _ _ => rfl) (fun _ _ => rfl) (fun _ _ => rfl) ?_
  intro n X sc e W hsc h
  simp only [ck] at h
  split at h
  · simp only [Bool.and_eq_true] at h
    have A := ia.e W hsc h.1
    have B := ib.e W hsc h.2
    have pw := PW.weak (pw_or A.2.1 (B.2.2 rfl)) fun σ H Q (q : TB _ σ H Q) => b_or q
    exact ⟨PE.weak (pe_or A.1 B.1) fun _ _ _ q => e_or q, pw.pt, fun _ => pw⟩
  · cases h
theorem snd_one {a : Ex} (ia : Snd G fs N a) : Snd G fs N (.one a) := by
  refine .ofE (fun _ _ => rfl) (fun _ _ => rfl) (fun _ _ _ => rfl) (fun _ _ _ => rfl) (fun _ _ => rfl) (fun _ _ => rfl) ?_
  intro n X sc e W hsc h
  simp only [ck] at h
  split at h
  · rename_i op x p
    have A := ia.e W hsc h
    have pw : PW X (.BoolOp op [x] p) (TB (K := X.K) (sem (callN fs n) (.one a)).e) := by
      cases op
      · exact pw_and1 A.2.1
      · exact pw_or1 A.2.1
    exact ⟨pe_one A.1, pw.pt, fun _ => pw⟩
  · cases h
theorem snd_cmp {a b : Ex} (o : Cop) (ia : Snd G fs N a) (ib : Snd G fs N b) : Snd G fs N (.cmp o a b) := by
  refine .ofE (fun _ _ => rfl) (fun _ _ => rfl) (fun _ _ _ => rfl) (fun _ _ _ => rfl) (fun _ _ => rfl) (fun _ _ => rfl) ?_
  intro n X sc e W hsc h
  simp only [ck] at h
  split at h
  · simp only [Bool.and_eq_true, decide_eq_true_eq] at h
    obtain ⟨⟨⟨rfl, h1⟩, h2⟩, h3⟩ := h
    obtain ⟨r, h4, h5⟩ := op_cmp (X := X) W.room.units o
    have A := (ia.e W hsc h2).1
    have B := (ib.e W hsc h3).1
    exact ⟨PE.weak (pe_cmpR h4 A B (nomark_of h1 _)) fun _ _ _ q => two_op h5 (calm_cmp o) q, pt_cmp2 (pt_cmpR h4 A B (nomark_of h1 _)) fun _ _ _ q => two_op h5 (calm_cmp o) q, notBool rfl⟩
  · cases h
theorem snd_cmp2 {a b c : Ex} (o o' : Cop) (ia : Snd G fs N a) (ib : Snd G fs N b) (ic : Snd G fs N c) : Snd G fs N (.cmp2 o o' a b c) := by
  refine .ofE (fun _ _ => rfl) (fun _ _ => rfl) (fun _ _ _ => rfl) (fun _ _ _ => rfl) (fun _ _ => rfl) (fun _ _ => rfl) ?_
  intro n X sc e W hsc h
  simp only [ck] at h
  split at h
  · simp only [Bool.and_eq_true, decide_eq_true_eq] at h
    obtain ⟨⟨⟨⟨⟨rfl, rfl⟩, h1⟩, h2⟩, h3⟩, h4⟩ := h
    obtain ⟨r, h5, h6⟩ := op_cmp (X := X) W.room.units o
    obtain ⟨r', h7, h8⟩ := op_cmp (X := X) W.room.units o'
    have A := (ia.e W hsc h2).1
    have B := (ib.e W hsc h3).1
    have C := (ic.e W hsc h4).1
    exact ⟨PE.weak (pe_chain h5 h7 A B C (nomark2 h1)) fun _ _ _ q => e_chain h6 h8 (calm_cmp o) (calm_cmp o') q, pt_cmp2 (pt_chain h5 h7 A B C (nomark2 h1)) fun _ _ _ q => e_chain h6 h8 (calm_cmp o) (calm_cmp o') q, notBool rfl⟩
  · cases h
theorem snd_ite {a b c : Ex} (ic : Snd G fs N c) (ia : Snd G fs N a) (ib : Snd G fs N b) : Snd G fs N (.ite c a b) := by
  refine .ofE (fun _ _ => rfl) (fun _ _ => rfl) (fun _ _ _ => rfl) (fun _ _ _ => rfl) (fun _ _ => rfl) (fun _ _ => rfl) ?_
  intro n X sc e W hsc h
  simp only [ck] at h
  split at h
  · simp only [Bool.and_eq_true] at h
    have C := ic.e W hsc h.1.1
    have A := ia.e W hsc h.1.2
    have B := ib.e W hsc h.2
    exact ⟨PE.weak (pe_ifExp C.2.1 A.1 B.1) fun _ _ _ q => e_ite q, PT.weak (pt_ifExp C.2.1 A.2.1 B.2.1) fun _ _ _ q => b_ite q, notBool rfl⟩
  · cases h
theorem snd_tup {es : Ex} (ie : Snd G fs N es) : Snd G fs N (.tup es) := by
  refine .ofE (fun _ _ => rfl) (fun _ _ => rfl) (fun _ _ _ => rfl) (fun _ _ _ => rfl) (fun _ _ => rfl) (fun _ _ => rfl) ?_
  intro n X sc e W hsc h
  simp only [ck] at h
  split at h
  · exact plainE (PE.weak (pe_tup (ie.l W hsc h)) fun _ _ _ q => e_tup q) (fun _ => rfl) rfl
  · cases h
theorem snd_lst {es : Ex} (ie : Snd G fs N es) : Snd G fs N (.lst es) := by
  refine .ofE (fun _ _ => rfl) (fun _ _ => rfl) (fun _ _ _ => rfl) (fun _ _ _ => rfl) (fun _ _ => rfl) (fun _ _ => rfl) ?_
  intro n X sc e W hsc h
  simp only [ck] at h
  split at h
  · exact plainE (PE.weak (pe_lst (ie.l W hsc h)) fun _ _ _ q => e_lst q) (fun _ => rfl) rfl
  · cases h
def rIxI (K : PySem.W.Frag) : R2 := fun x y H Q => ∃ (a : Addr) (z : Int) (es : Array DictEntry) (n : Nat) (kvs : List (Int × Int)) (kv : Int × Int), x = .ref a ∧ y = .int z ∧ K.lookup a = some ⟨.type "dict", none, .dict es n, #[]⟩ ∧ entsI es.toList = some kvs ∧ kvs.find? (fun kv => decide (kv.1 = z)) = some kv ∧ Q (.int kv.2) H
theorem entsI_keys : ∀ {l : List DictEntry} {kvs : List (Int × Int)}, entsI l = some kvs → (∀ e ∈ l, ∃ k t, e.key = .int k t ∧ e.hash = hashInt k) ∧ ∀ (z : Int) (kv : Int × Int), kvs.find? (fun kv => decide (kv.1 = z)) = some kv → ∃ t, (l.find? fun e => Value.isInt z e.key).map (·.val) = some (.int kv.2 t)
  | [], _, h => by
    cases h
    exact ⟨(by intro e he; cases he), by intro z kv h; simp at h⟩
  | ⟨h0, .int k t, .int v u⟩ :: r, kvs, h => by
    simp only [entsI] at h
    split at h
    · rename_i eh
      simp only [Option.map_eq_some_iff] at h
      obtain ⟨ms, h1, rfl⟩ := h
      have ih := entsI_keys h1
      refine ⟨fun e he => ?_, fun z kv hf => ?_⟩
      · rcases List.mem_cons.mp he with rfl | he
        · exact ⟨k, t, rfl, eh⟩
        · exact ih.1 e he
      · by_cases hk : k = z
        · subst hk
          simp at hf
          subst hf
          exact ⟨u, by simp [Value.isInt]⟩
        · rw [List.find?_cons_of_neg (by simpa using hk)] at hf
          obtain ⟨t2, e2⟩ := ih.2 z kv hf
          refine ⟨t2, ?_⟩
          rw [List.find?_cons_of_neg (by simp [Value.isInt]; exact hk)]
          exact e2
    · cases h
theorem ix_I {X : Cx} : IxR X (rIxI X.K) := by
  intro value slice pins s σ H x y v u Q I rx ry h hs
  obtain ⟨a, z, es, n, kvs, kv, rfl, rfl, hl, he, hf, q⟩ := h
  obtain rfl : v = Value.ref a := rx
  obtain ⟨t, rfl⟩ := ry
  obtain ⟨k1, k2⟩ := entsI_keys he
  obtain ⟨t2, e2⟩ := k2 z kv hf
  have hm : s.heap.MapOf (intKind X.prog X.w) a (fun k => findBy Value.isInt es k) := ⟨_, es, n, I.kIn _ _ hl, ⟨rfl, rfl, rfl⟩, rfl, fun e he => by
    obtain ⟨k, t, e1, e2⟩ := k1 e (Array.mem_toList_iff.mpr he)
    exact ⟨k, by rw [e1]; exact intKind_is _ _ _ _, e2⟩, fun _ => rfl⟩
  have hv : findBy Value.isInt es z = some (.int kv.2 t2) := by
    obtain ⟨l⟩ := es
    unfold findBy
    rw [List.find?_toArray]
    exact e2
  exact tail_any hm.typeIs slot_dict_getitem.lookup (wpAny_getItem_of (intKind_is X.prog X.w z t) hm hv ⟨.int kv.2, H, I.tok _, ⟨t2, rfl⟩, q⟩) hs
theorem snd_gix {b : Ex} (i : Nat) (kvs : List (Int × Int)) (ib : Snd G fs N b) : Snd G fs N (.gix i kvs b) := by
  refine .ofE (fun _ _ => rfl) (fun _ _ => rfl) (fun _ _ _ => rfl) (fun _ _ _ => rfl) (fun _ _ => rfl) (fun _ _ => rfl) ?_
  intro n X sc e W hsc h
  subst hsc
  simp only [ck] at h
  split at h
  · cases h
  · rename_i x px y p hy
    simp only [Bool.and_eq_true, decide_eq_true_eq] at h
    obtain ⟨⟨⟨h1, h2⟩, h3⟩, h4⟩ := h
    obtain ⟨o1, o2, o3⟩ := okN_of h3
    obtain ⟨a, es, m, e1, e2, e3⟩ := W.dct _ _ _ h1
    have pn : PE X (.Name x px) (tC (.ref a)) := pe_glob (gl_of h2) e1 rfl o1
    refine plainE (PE.weak (pe_ix ix_I pn (ib.e W rfl h4).1 ?_) fun σ H Q q => ?_) (fun _ => rfl) rfl
    · intro o i
      cases y <;> first | rfl | exact absurd rfl (hy _ _ _ _) | exact (hy _ _ _ _ rfl).elim | exact hy.elim
    · obtain ⟨ρ, l, st, L, S, q⟩ := q
      refine eR_of L S q fun d st1 ρ1 H1 v w1 L1 S1 r1 q => ?_
      split at q
      · cases r1
        split at q
        · rename_i kv hf
          exact ⟨a, _, es, m, kvs, kv, rfl, rfl, e2, e3, hf, q ρ1 H1 _ w1 S1 (.int _)⟩
        · exact q.elim
      · exact q.elim
  · cases h
theorem snd_ix {a b : Ex} (ia : Snd G fs N a) (ib : Snd G fs N b) : Snd G fs N (.ix a b) := by
  refine .ofE (fun _ _ => rfl) (fun _ _ => rfl) (fun _ _ _ => rfl) (fun _ _ _ => rfl) (fun _ _ => rfl) (fun _ _ => rfl) ?_
  intro n X sc e W hsc h
  simp only [ck] at h
  split at h
  · cases h
  · rename_i x y p hy
    simp only [Bool.and_eq_true] at h
    refine plainE (PE.weak (pe_ix (or_ix W.hu) (ia.e W hsc h.1).1 (ib.e W hsc h.2).1 ?_) fun _ _ _ q => two_op two_ix calm_ix q) (fun _ => rfl) rfl
    intro o i
    cases y <;> first | rfl | exact absurd rfl (hy _ _ _ _)
  · cases h
theorem snd_sl {a b c : Ex} (ia : Snd G fs N a) (ib : Snd G fs N b) (ic : Snd G fs N c) : Snd G fs N (.sl a b c) := by
  refine .ofE (fun _ _ => rfl) (fun _ _ => rfl) (fun _ _ _ => rfl) (fun _ _ _ => rfl) (fun _ _ => rfl) (fun _ _ => rfl) ?_
  intro n X sc e W hsc h
  simp only [ck] at h
  split at h
  · simp only [Bool.and_eq_true] at h
    obtain ⟨⟨h1, h2⟩, h3⟩ := h
    have part : ∀ {m : Ex} {o : Option Expr}, Snd G fs N m → (match o with | none => isNil m | some y => !(isNil m) && (ck G N m).e sc y) = true → PO X o (oR (K := X.K) E0 (oInt m (sem (callN fs n) m).e)) := by
      intro m o im hm
      cases o with
      | none =>
        cases m <;> first | exact po_nil | (simp [isNil] at hm)
      | some y =>
        simp only [Bool.and_eq_true, Bool.not_eq_true'] at hm
        exact po_e hm.1 (im.e W hsc hm.2).1
    exact plainE (PE.weak (pe_slice or_sl (ia.e W hsc h1).1 (part ib h2) (part ic h3)) fun _ _ _ q => e_sl q) (fun _ => rfl) rfl
  · cases h
theorem snd_rev {a : Ex} (ia : Snd G fs N a) : Snd G fs N (.rev a) := by
  refine .ofE (fun _ _ => rfl) (fun _ _ => rfl) (fun _ _ _ => rfl) (fun _ _ _ => rfl) (fun _ _ => rfl) (fun _ _ => rfl) ?_
  intro n X sc e W hsc h
  simp only [ck] at h
  split at h
  · exact plainE (PE.weak (pe_rev (ia.e W hsc h).1) fun _ _ _ q => e_rev q) (fun _ => rfl) rfl
  · cases h
end Z

/-! ZMaim: calls, displays, comprehensions, targets, statements. -/
namespace Z
open PySem L2 PySem.Spec PyProof.Rows
variable {G : Gt} {fs : List Fn} {N : List Str} {m : Ex}
theorem star_of {e : Expr} (h : noStar e = true) (es : List Expr) (env : Env) : starEach (e :: es) env = (false, eval e env) :: starEach es env := by
  cases e <;> first | rfl | (simp [noStar] at h)
theorem stars_any : ∀ {es : List Expr} {pos : Pos} {env : Env}, es.all noStar = true → (backTo pos (starEach es env)).any (·.1) = false
  | [], _, _, _ => rfl
  | e :: es, pos, env, h => by
    simp only [List.all_cons, Bool.and_eq_true] at h
    rw [star_of h.1]
    have ih := stars_any (pos := pos) (env := env) h.2
    simpa [backTo] using ih
theorem stars_all : ∀ {es : List Expr} {pos : Pos} {env : Env}, es.all noStar = true → (backTo pos (starEach es env)).all (fun x => !x.1) = true
  | [], _, _, _ => rfl
  | e :: es, pos, env, h => by
    simp only [List.all_cons, Bool.and_eq_true] at h
    rw [star_of h.1]
    have ih := stars_all (pos := pos) (env := env) h.2
    simpa [backTo] using ih
theorem ckl_star : ∀ (m : Ex) {sc : Scope} {es : List Expr}, (ck G N m).l sc es = true → es.all noStar = true := by
  intro m
  induction m with
  | nil => intro sc es h; cases es <;> first | rfl | (simp [ck] at h)
  | cons a r _ ir =>
    intro sc es h
    cases es with
    | nil => rfl
    | cons e es =>
      simp only [ck, Bool.and_eq_true] at h
      simp only [List.all_cons, Bool.and_eq_true]
      exact ⟨h.1.2, ir h.2⟩
  | _ => intro sc es h; simp [ck, Ck.no] at h
theorem assign_of {e : Expr} (h : noStar e = true) (es : List Expr) (env : Env) : assignEach (e :: es) env = (false, assign e env) :: assignEach es env := by
  cases e <;> first | rfl | (simp [noStar] at h)
theorem assign_len : ∀ {es : List Expr} {env : Env}, es.all noStar = true → (assignEach es env).length = es.length ∧ (assignEach es env).findIdx? (·.1) = none
  | [], _, _ => ⟨rfl, rfl⟩
  | e :: es, env, h => by
    simp only [List.all_cons, Bool.and_eq_true] at h
    rw [assign_of h.1]
    obtain ⟨i1, i2⟩ := assign_len (env := env) h.2
    exact ⟨by simp [i1], by simp [List.findIdx?_cons, i2]⟩

theorem snd_nil : Snd G fs N .nil := by
  refine ⟨fun _ _ q => by (simp [ck, Ck.no] at q), fun _ _ q => ?_, fun _ _ q k1 k2 => ?_, fun _ _ q => by (simp [ck, Ck.no] at q), fun _ _ _ q => by (simp [ck, Ck.no] at q), fun _ _ _ q => ?_, fun _ _ _ _ q => by (simp [ck, Ck.no] at q), fun _ _ _ _ q => ?_, fun {n X sc kws} _ _ q => by
    cases kws with
    | nil => exact ⟨fun pos pins s σ H Q I h => pk_nil.run pos pins s σ H Q I (l_nil h)⟩
    | cons e es => simp [ck] at q⟩
  · rename_i n X sc es _ _
    cases es with
    | nil => exact PA.weak pa_nil fun _ _ _ h => l_nil h
    | cons e es => simp [ck] at q
  · rename_i n X sc es ks xs pos _ _
    cases es with
    | nil =>
      cases xs with
      | nil =>
        refine ⟨[], pps_nil, fun σ H Q h => ?_⟩
        obtain ⟨ρ, l, st, L, S, h⟩ := h
        have := h ρ H [] Wle.refl S .nil
        simpa [tPairs] using this
      | cons x xs => simp at k2
    | cons e es => simp [ck] at q
  · rename_i n X sc es o _ _ _
    cases es with
    | nil =>
      refine ⟨⟨fun pins s σ H vs us Q I r h => pgs_nil.run pins s σ H vs us Q I r (ts_nil h)⟩, fun ds l s Q F hF h => ?_, rfl⟩
      cases ds with
      | nil => rfl
      | cons d ds => exact h.elim
    | cons e es => simp [ck] at q
  · rename_i n X sc es _ _ _ _
    cases es with
    | nil => exact PSs.weak pss_nil fun _ _ _ h => s_nil h
    | cons e es => simp [ck] at q
theorem PG.weak {X : Cx} {e : Expr} {t t' : TG} (h : PG X e t) (w : ∀ v σ H Q, t' v σ H Q → t v σ H Q) : PG X e t' := ⟨fun pins s σ H v u Q I r q => h.run pins s σ H v u Q I r (w _ _ _ _ q)⟩
theorem PGs.weak {X : Cx} {e : List Expr} {t t' : TGs} (h : PGs X e t) (w : ∀ v σ H Q, t' v σ H Q → t v σ H Q) : PGs X e t' := ⟨fun pins s σ H v u Q I r q => h.run pins s σ H v u Q I r (w _ _ _ _ q)⟩
theorem key_pe {X : Cx} {k : Ky} {x : Option Expr} (h : keyConst k x = true) : ∃ e, x = some e ∧ PE X e (tC (kV (keyOf k))) := by
  unfold keyConst at h
  split at h
  · cases of_decide_eq_true h
    exact ⟨_, rfl, pe_int⟩
  · split at h
    · have := of_decide_eq_true h
      subst this
      refine ⟨_, rfl, ?_⟩
      have e : ∀ z : Str, kV (keyOf (.inr z.cps.toList)) = V.str z := by
        intro z
        simp [keyOf, kV]
      rw [e]
      exact pe_str
    · cases h
  · cases h
theorem snd_cons {a r : Ex} (ia : Snd G fs N a) (ir : Snd G fs N r) : Snd G fs N (.cons a r) := by
  refine ⟨fun _ _ q => by (simp [ck, Ck.no] at q), fun W hsc q => ?_, fun W hsc q k1 k2 => ?_, fun _ _ q => by (simp [ck, Ck.no] at q), fun _ _ _ q => by (simp [ck, Ck.no] at q), fun W hsc ho q => ?_, fun _ _ _ _ q => by (simp [ck, Ck.no] at q), fun W hsc hf hp q => ?_, fun {n X sc kws} W hsc q => by
    cases kws with
    | nil => simp [ck] at q
    | cons e es =>
      obtain ⟨nm, v, ps⟩ := e
      simp only [List.map_cons, ck, Bool.and_eq_true] at q
      have h1 := pk_cons (nm := nm) (kpos := ps) (ia.e W hsc q.1.1).1 (ir.k W hsc q.2)
      exact ⟨fun pos pins s σ H Q I h => h1.run pos pins s σ H Q I (l_cons h)⟩⟩
  · rename_i n X sc es
    cases es with
    | nil => simp [ck] at q
    | cons e es =>
      simp only [ck, Bool.and_eq_true] at q
      exact PA.weak (pa_cons (ia.e W hsc q.1.1).1 (ir.l W hsc q.2) (star_of q.1.2 _ _)) fun _ _ _ h => l_cons h
  · rename_i n X sc es ks xs pos
    cases es with
    | nil => simp [ck] at q
    | cons e es =>
      cases xs with
      | nil => simp at k2
      | cons x xs =>
        cases ks with
        | nil => simp [keysB] at k1
        | cons k ks =>
          simp only [ck, Bool.and_eq_true] at q
          simp only [keysB, Bool.and_eq_true] at k1
          obtain ⟨e', rfl, pk⟩ := key_pe (X := X) k1.1
          obtain ⟨trs, h1, h2⟩ := ir.p (pos := pos) W hsc q.2 k1.2 (by simpa using k2)
          refine ⟨_, pps_cons pk (ia.e W hsc q.1.1).1 h1, fun σ H Q h => ?_⟩
          obtain ⟨ρ, l, st, L, S, h⟩ := h
          refine eR_of L S h fun d st1 ρ1 H1 v w1 L1 S1 r1 h1 => ?_
          refine h2 _ _ _ ⟨ρ1, l, st1, L1, S1, R.post_mono (R.post_bind.mp h1) (fun ds st2 h3 ρ2 H2 vs w2 S2 r2 => ?_) fun _ _ x => x⟩
          exact h3 ρ2 H2 (v :: vs) (w1.trans w2) S2 (.cons (r1.up w2) r2)
  · rename_i n X sc es o
    cases es with
    | nil => simp [ck] at q
    | cons e es =>
      simp only [ck, Bool.and_eq_true] at q
      have ho1 : ∀ own, o = some own → ck.tgOwn own a = true := fun own e => by
        have := ho own e
        simp only [ck.tgOwn, Bool.and_eq_true] at this
        exact this.1
      have ho2 : ∀ own, o = some own → ck.tgOwn own r = true := fun own e => by
        have := ho own e
        simp only [ck.tgOwn, Bool.and_eq_true] at this
        exact this.2
      obtain ⟨i1, i2, i3⟩ := ir.ts W hsc ho2 q.2
      refine ⟨PGs.weak (pgs_cons (ia.t W hsc ho1 q.1.1) i1 (by rw [assign_of q.1.2]; rfl)) fun _ _ _ _ h => ts_cons h, fun ds l s Q F hF h => ?_, by simp [q.1.2, i3]⟩
      cases ds with
      | nil => exact h.elim
      | cons d ds =>
        have h : (((sem (callN fs n) a).t d l s).bind fun l1 s1 => (sem (callN fs n) r).ts ds l1 s1).post Q F := h
        cases e : (sem (callN fs n) a).t d l s with
        | ok l1 s1 =>
          rw [e] at h
          have := i2 ds l1 s1 Q F hF h
          simp [this]
        | ex x s =>
          rw [e] at h
          exact (hF _ _ h).elim
        | bad =>
          rw [e] at h
          exact h.elim
  · rename_i n X sc es
    cases es with
    | nil => simp [ck] at q
    | cons e es =>
      simp only [ck, Bool.and_eq_true] at q
      exact PSs.weak (pss_cons (ia.s W hsc hf hp q.1) (ir.b W hsc hf hp q.2)) fun _ _ _ h => s_seq h
end Z

/-! ZMaix: the rest of the terms; all of them. -/
namespace Z
open PySem L2 PySem.Spec PyProof.Rows
variable {G : Gt} {fs : List Fn} {N : List Str} {m : Ex}
theorem snd_call {as : Ex} (f : Nat) (ia : Snd G fs N as) : Snd G fs N (.call f as) := by
  refine .ofE (fun _ _ => rfl) (fun _ _ => rfl) (fun _ _ _ => rfl) (fun _ _ _ => rfl) (fun _ _ => rfl) (fun _ _ => rfl) ?_
  intro n X sc e W hsc h
  subst hsc
  simp only [ck] at h
  split at h
  · rename_i x p es pos
    simp only [Bool.and_eq_true, decide_eq_true_eq] at h
    obtain ⟨⟨⟨⟨h1, h2⟩, h3⟩, h4⟩, h5⟩ := h
    obtain ⟨o1, o2, o3⟩ := okN_of h3
    obtain ⟨g, fd, ps, e1, e2, e3, e4⟩ := W.fns _ _ h1
    rw [Option.isNone_iff_eq_none.mp h5] at e3
    have e3 : Binds X.K fd ps [] := e3
    have star := ckl_star as h4
    refine plainE ?_ (fun _ => rfl) rfl
    cases es with
    | nil =>
      refine PE.weak (peG_call0 e4 W.room W.gd (gl_of h2) e1 e2 e3 pass0 o1) fun σ H Q q => ?_
      have := e_call (XK := L2.E0) q
      obtain ⟨ρ, l, st, L, S, q⟩ := this
      have hl : (sem (callN fs n) as).l l st = R.ok [] st := by
        cases as with
        | nil => rfl
        | cons a r => simp [ck] at h4
        | _ => simp [ck, Ck.no] at h4
      rw [hl] at q
      exact q ρ H [] Wle.refl S .nil
    | cons y ys =>
      simp only [List.all_cons, Bool.and_eq_true] at star
      exact PE.weak (peG_call e4 W.room W.gd (gl_of h2) e1 e2 e3 pass0 (ia.l W rfl h4) o1 (star_of star.1 _ _) (stars_any star.2)) fun σ H Q q => e_call q
  · cases h
theorem snd_callK {as kv : Ex} (f : Nat) (d : D) (ia : Snd G fs N as) (ik : Snd G fs N kv) : Snd G fs N (.callK f as kv d) := by
  refine .ofE (fun _ _ => rfl) (fun _ _ => rfl) (fun _ _ _ => rfl) (fun _ _ _ => rfl) (fun _ _ => rfl) (fun _ _ => rfl) ?_
  intro n X sc e W hsc h
  subst hsc
  simp only [ck] at h
  split at h
  · rename_i x p y ys kws pos
    simp only [Bool.and_eq_true, decide_eq_true_eq] at h
    obtain ⟨⟨⟨⟨⟨h1, h2⟩, h3⟩, h4⟩, h5⟩, h6⟩ := h
    obtain ⟨o1, o2, o3⟩ := okN_of h3
    obtain ⟨g, fd, ps, e1, e2, e3, e4⟩ := W.fns _ _ h1
    unfold kwB at h6
    split at h6
    · rename_i k d' hkw
      rw [hkw] at e3
      obtain ⟨b1, v, u, rv, rd, b0⟩ : BindK X.K fd ps k d' := e3
      simp only [Bool.and_eq_true, decide_eq_true_eq] at h6
      obtain ⟨rfl, h6⟩ := h6
      have star := ckl_star as h4
      simp only [List.all_cons, Bool.and_eq_true] at star
      have pl1 : (backTo pos (starEach (y :: ys) X.env)).any (·.1) = false := stars_any (es := y :: ys) (by simp only [List.all_cons, Bool.and_eq_true]; exact star)
      refine plainE ?_ (fun _ => rfl) rfl
      have none_ : ∀ {ks : List Str} {vs : List V} {H2 : Hp} {Q : VK} {ρ2 : List Addr} {st2 : Sto} {xs : List D} {F : D → Sto → Prop}, SR X.K ρ2 st2 H2 → RDs X.K ρ2 H2 xs vs → (callN fs n f (xs ++ [d']) st2).post (Kont X.K ρ2 H2 Q) (fun _ _ => False) →
          ∃ vs2, (∀ (s : Shared) (us ws : List Value), X.K.In s.heap → Vals vs us → Vals [] ws → ∃ us2, Vals vs2 us2 ∧ BindsTo s fd ⟨us, ks.zip ws⟩ (ps.zip us2)) ∧ spF X.K fs n f vs2 H2 Q L2.E0 := by
        intro ks vs H2 Q ρ2 st2 xs F S2 r1 q
        have hsp : spF X.K fs n f (vs ++ [v]) H2 Q L2.E0 := ⟨ρ2, st2, xs ++ [d'], S2, r1.append (.cons (rd _ _) .nil), q⟩
        refine ⟨vs ++ [v], fun s us ws kin r rz => ⟨us ++ [u], r.append (.cons rv .nil), ?_⟩, hsp⟩
        cases rz
        have hl := e4.len _ _ _ _ hsp
        rw [List.length_append] at hl
        rw [List.zip_nil_right]
        exact b0 s us kin (by rw [← r.length]; exact hl)
      cases kws with
      | nil =>
        refine PE.weak (peG_callK (ks := []) e4 W.room W.gd (gl_of h2) e1 e2 pass0 (ia.l W rfl h4) pk_nil rfl rfl o1 (star_of star.1 _ _) (by rw [pl1]; rfl)) fun σ H Q q => ?_
        have hl : (sem (callN fs n) kv).l = fun _ s => R.ok [] s := by
          cases kv with
          | nil => rfl
          | cons a r => simp [ck] at h5
          | _ => simp [ck, Ck.no] at h5
        obtain ⟨ρ, l, st, L, S, q⟩ := q
        refine lR_of L S q fun xs st1 ρ1 H1 vs w1 L1 S1 r1 q => ?_
        rw [hl] at q
        exact none_ (F := fun _ _ => False) S1 r1 (R.post_mono q (fun _ _ (q : Kont X.K ρ H Q _ _) => q.up w1) fun _ _ x => x)
      | cons w ws0 =>
        cases ws0 with
        | nil =>
          obtain ⟨nm, wv, wp⟩ := w
          have hnm : nm = some k := of_decide_eq_true h6
          subst hnm
          refine PE.weak (peG_callK (ks := [k]) e4 W.room W.gd (gl_of h2) e1 e2 pass0 (ia.l W rfl h4) (ik.k W rfl h5) rfl rfl o1 (star_of star.1 _ _) (by rw [pl1]; rfl)) fun σ H Q q => ?_
          obtain ⟨ρ, l, st, L, S, q⟩ := q
          refine lR_of L S q fun xs st1 ρ1 H1 vs w1 L1 S1 r1 q => lR_of L1 S1 q fun ys st2 ρ2 H2 zs w2 L2' S2 r2 q => ?_
          split at q
          · cases r2
            exact none_ (F := fun _ _ => False) S2 (r1.up w2) (R.post_mono q (fun _ _ (q : Kont X.K ρ H Q _ _) => q.up (w1.trans w2)) fun _ _ x => x)
          · rename_i yv
            cases r2 with
            | cons ry rn =>
              rename_i z zn
              cases rn
              have hsp : spF X.K fs n f (vs ++ [z]) H2 Q L2.E0 := ⟨ρ2, st2, xs ++ [yv], S2, (r1.up w2).append (.cons ry .nil), R.post_mono q (fun _ _ (q : Kont X.K ρ H Q _ _) => q.up (w1.trans w2)) fun _ _ x => x⟩
              refine ⟨vs ++ [z], fun s us ws kin r rz => ?_, hsp⟩
              cases rz with
              | cons rz1 rz2 =>
                rename_i w0 wn
                cases rz2
                refine ⟨us ++ [w0], r.append (.cons rz1 .nil), ?_⟩
                have hl := e4.len _ _ _ _ hsp
                rw [List.length_append] at hl
                exact b1 s us w0 kin (by rw [← r.length]; exact hl)
          · exact q.elim
        | cons w2 ws1 => cases h6
    · cases h6
  · cases h
/-- the built-ins -/
theorem bi_call {X : Cx} (hc : X.calm = true) (hg : X.A.guards = some []) (hu : X.A.units + 64 < cLine) : ∀ b : Bi, b ≠ .sorted → ∃ u r, bootBuiltins (biName b) = some u ∧ CallR X u r ∧ Cal X.K (biF b) r ∧ ((∃ id, u = .builtin id) ∨ ∃ T, u = .type T) := by
  intro b hb
  cases b
  · exact ⟨_, _, boot_len, call_len, cal_len, .inl ⟨_, rfl⟩⟩
  · exact ⟨.builtin "abs", _, by decide +kernel, call_abs, cal_abs, .inl ⟨_, rfl⟩⟩
  · exact ⟨.type "int", _, by decide +kernel, call_int1, cal_int, .inr ⟨_, rfl⟩⟩
  · exact ⟨.builtin "all", _, by decide +kernel, cr_all hc, cal_all, .inl ⟨_, rfl⟩⟩
  · exact ⟨.builtin "any", _, by decide +kernel, cr_any hc, cal_any, .inl ⟨_, rfl⟩⟩
  · exact ⟨.type "list", _, by decide +kernel, call_list_of.or ((call_listS hc).or (call_listD hc)), cal_list, .inr ⟨_, rfl⟩⟩
  · exact ⟨.type "tuple", _, by decide +kernel, call_tuple_of, cal_tuple, .inr ⟨_, rfl⟩⟩
  · exact ⟨.builtin "divmod", _, by decide +kernel, call_divmod, cal_divmod, .inl ⟨_, rfl⟩⟩
  · exact ⟨.builtin "sum", _, by decide +kernel, cr_sum hc, cal_sum, .inl ⟨_, rfl⟩⟩
  · exact ⟨.builtin "min", _, by decide +kernel, (call_min2 hc).or (cr_min hc), cal_min, .inl ⟨_, rfl⟩⟩
  · exact ⟨.builtin "max", _, by decide +kernel, (call_max2 hc).or (cr_max hc), cal_max, .inl ⟨_, rfl⟩⟩
  · exact ⟨.builtin "ord", _, by decide +kernel, call_ord, cal_ord, .inl ⟨_, rfl⟩⟩
  · exact ⟨.builtin "chr", _, by decide +kernel, call_chr, cal_chr, .inl ⟨_, rfl⟩⟩
  · exact ⟨.type "str", _, by decide +kernel, call_str_int, cal_str, .inr ⟨_, rfl⟩⟩
  · exact ⟨.builtin "repr", _, by decide +kernel, or_repr hg hu, cal_repr, .inl ⟨_, rfl⟩⟩
  · exact absurd rfl hb
  · exact ⟨.type "dict", _, by decide +kernel, call_dictD.or (call_dictP hc), cal_dict, .inr ⟨_, rfl⟩⟩
theorem biName_ok : ∀ b : Bi, biName b ∈ biNames ∧ okN (biName b) = true := by
  intro b
  cases b <;> exact ⟨by decide +kernel, by decide +kernel⟩
theorem snd_bi {as : Ex} (b : Bi) (ia : Snd G fs N as) : Snd G fs N (.bi b as) := by
  refine .ofE (fun _ _ => rfl) (fun _ _ => rfl) (fun _ _ _ => rfl) (fun _ _ _ => rfl) (fun _ _ => rfl) (fun _ _ => rfl) ?_
  intro n X sc e W hsc h
  subst hsc
  simp only [ck] at h
  split at h
  · rename_i x p y ys pos
    simp only [Bool.and_eq_true, decide_eq_true_eq] at h
    obtain ⟨⟨rfl, h2⟩, h4⟩ := h
    obtain ⟨o1, o2, o3⟩ := okN_of (biName_ok b).2
    have star := ckl_star as h4
    simp only [List.all_cons, Bool.and_eq_true] at star
    refine plainE ?_ (fun _ => rfl) rfl
    by_cases hb : b = .sorted
    · subst hb
      refine ⟨fun pins s σ H Q I q => ?_⟩
      obtain ⟨ρ, l, st, L, S, q⟩ := q
      have : ∀ xs s1, biF .sorted xs s1 = .bad := by
        intro xs s1
        unfold biF
        split <;> rfl
      have q : (((sem (callN fs n) as).l l st).bind fun xs s1 => biF .sorted xs s1).post (Kont X.K ρ H Q) (fun _ _ => False) := q
      cases e : (sem (callN fs n) as).l l st with
      | ok xs s1 => rw [e, R.bind_ok, this] at q; exact q.elim
      | ex a b => rw [e] at q; exact q.elim
      | bad => rw [e] at q; exact q.elim
    · obtain ⟨u, r, k1, k2, k3, k4⟩ := bi_call W.calm W.gd W.room.units b hb
      have hm := W.bis _ (biName_ok b).1
      rcases k4 with ⟨id, rfl⟩ | ⟨T, rfl⟩
      · exact PE.weak (pe_callB k2 (gl_of h2) hm k1 (ia.l W rfl h4) o3 o1 (star_of star.1 _ _) (stars_any star.2)) fun σ H Q q => e_bi k3 q
      · exact PE.weak (pe_callTy k2 (gl_of h2) hm k1 (ia.l W rfl h4) o3 o1 (star_of star.1 _ _) (stars_any star.2)) fun σ H Q q => e_bi k3 q
  · cases h
theorem tyName_ok : ∀ t : Ty, tyName t ∈ biNames ∧ okN (tyName t) = true ∧ bootBuiltins (tyName t) = some (.type (tyStr t)) := by
  intro t
  cases t <;> exact ⟨by decide +kernel, by decide +kernel, by decide +kernel⟩
theorem snd_isi {a : Ex} (t : Ty) (ia : Snd G fs N a) : Snd G fs N (.isi a t) := by
  refine .ofE (fun _ _ => rfl) (fun _ _ => rfl) (fun _ _ _ => rfl) (fun _ _ _ => rfl) (fun _ _ => rfl) (fun _ _ => rfl) ?_
  intro n X sc e W hsc h
  subst hsc
  simp only [ck] at h
  split at h
  · rename_i x p y z q pos
    simp only [Bool.and_eq_true, decide_eq_true_eq] at h
    obtain ⟨⟨⟨⟨⟨rfl, h2⟩, rfl⟩, h4⟩, h5⟩, h6⟩ := h
    obtain ⟨t1, t2, t3⟩ := tyName_ok t
    obtain ⟨o1, o2, o3⟩ := okN_of t2
    have ty : PE X (.Name (tyName t) q) (tC (.ty (tyStr t))) := pe_bltn (gl_of h4) (W.bis _ t1) t3 rfl o3 o1
    have args := pa_cons (ia.e W rfl h6).1 (pa_cons ty pa_nil rfl) (star_of h5 _ _)
    refine plainE (PE.weak (pe_callB call_isi (gl_of h2) (W.bis _ (by decide +kernel)) (by decide +kernel) args (by decide) (by decide) (star_of h5 _ _) rfl) fun σ H Q q => e_isi q) (fun _ => rfl) rfl
  · cases h
theorem base_of {x : Expr} (h : noSuper x = true) (nm : Str) (env : Env) : attributeBase x nm env (eval x env) = eval x env := by
  unfold attributeBase
  split
  · simp [noSuper] at h
  · rfl
theorem snd_mt {o as : Ex} (m : Mt) (io : Snd G fs N o) (ia : Snd G fs N as) : Snd G fs N (.mt m o as) := by
  refine .ofE (fun _ _ => rfl) (fun _ _ => rfl) (fun _ _ _ => rfl) (fun _ _ _ => rfl) (fun _ _ => rfl) (fun _ _ => rfl) ?_
  intro n X sc e W hsc h
  simp only [ck] at h
  split at h
  · rename_i x nm p es q
    simp only [Bool.and_eq_true, decide_eq_true_eq] at h
    obtain ⟨⟨⟨⟨⟨rfl, h2⟩, h3⟩, h5⟩, h5'⟩, h6⟩ := h
    have star := ckl_star as h6
    have line : (p.endLine == q.line) = true := by rw [h2]; exact beq_self_eq_true _
    have base := base_of h5 (mtName m) X.env
    refine plainE ?_ (fun _ => rfl) rfl
    have O := (io.e W hsc h5').1
    have few : ∀ y ys, es = y :: ys → ((backTo q (starEach (y :: ys) X.env)).all (fun x => !x.1) && (backToKw q (keywordEach [] X.env)).all (fun x => x.1.isSome)
      && decide ((y :: ys).length + ([] : List Keyword).length + (if ([] : List Keyword).isEmpty then 0 else 1) < 30)) = true := by
      rintro y ys rfl
      rw [stars_all star]
      simp only [Bool.true_and, Bool.and_eq_true, decide_eq_true_eq]
      refine ⟨rfl, ?_⟩
      simp only [List.length_cons, List.length_nil, List.isEmpty_nil, if_true] at h3 ⊢
      omega
    have go : ∀ {r : V → List V → Hp → VK → Prop} {id : String} {T : String}, Met X.K m r → mtT m = T → PlainAttrs T → Slot T (mtName m) id → typeOf (.builtin id) = pure (.type "method_descriptor") → MtR X id r →
        PE X (.Call (.Attribute x (mtName m) p) es [] q) (eR (K := X.K) E0 (sem (callN fs n) (.mt m o as)).e) := by
      intro r id T k1 k2 pa k3 k4 k5
      cases es with
      | nil =>
        refine PE.weak (pe_bm0 pa k3 k4 k5 O base line) fun σ H Q q => ?_
        rw [← k2]
        refine e_mt0 k1 ?_
        have hl : (sem (callN fs n) as).l = fun _ s => R.ok [] s := by
          cases as with
          | nil => rfl
          | cons a r => simp [ck] at h6
          | _ => simp [ck, Ck.no] at h6
        have q : eR E0 (fun l s => ((sem (callN fs n) o).e l s).bind fun x s1 => if mtOk m x s1 = true then ((sem (callN fs n) as).l l s1).bind fun xs s2 => mth m x xs s2 else .bad) σ H Q := q
        rw [hl] at q
        exact q
      | cons y ys =>
        have st := star
        simp only [List.all_cons, Bool.and_eq_true] at st
        refine PE.weak (pe_bm pa k3 k4 k5 O (ia.l W hsc h6) base (few y ys rfl) line (star_of st.1 _ _) (stars_any st.2)) fun σ H Q q => ?_
        rw [← k2]
        exact e_mt k1 q
    cases m with
    | popi => exact go met_popi rfl PySem.F.plainAttrs_list PySem.F.slot_list_pop PySem.F.type_list_pop mt_popAt
    | append => exact go met_append rfl PySem.F.plainAttrs_list PySem.F.slot_list_append PySem.F.type_list_append mt_append
    | reverse => exact go met_reverse rfl PySem.F.plainAttrs_list PySem.F.slot_list_reverse PySem.F.type_list_reverse mt_reverse
    | extend => exact go met_extend rfl PySem.F.plainAttrs_list PySem.F.slot_list_extend PySem.F.type_list_extend mt_extend
    | pop => exact go met_pop rfl PySem.F.plainAttrs_list PySem.F.slot_list_pop PySem.F.type_list_pop mt_pop
    | join => exact go met_join rfl PySem.F.plainAttrs_str PySem.F.slot_str_join PySem.F.type_str_join mt_join
    | upper => exact go met_upper rfl PySem.F.plainAttrs_str PySem.F.slot_str_upper PySem.F.type_str_upper mt_upper
  · cases h
end Z

/-! ZAll: the rest of the terms; all of them. -/
namespace Z
open PySem L2 PySem.Spec PyProof.Rows
variable {G : Gt} {fs : List Fn} {N : List Str} {m : Ex}
theorem keysB_len : ∀ {ks : List Ky} {xs : List (Option Expr)}, keysB ks xs = true → ks.length = xs.length ∧ xs.all (·.isSome) = true
  | [], [], _ => ⟨rfl, rfl⟩
  | k :: ks, x :: xs, h => by
    simp only [keysB, Bool.and_eq_true] at h
    obtain ⟨i1, i2⟩ := keysB_len h.2
    have : x.isSome = true := by
      cases x with
      | none => simp [keyConst] at h
      | some _ => rfl
    exact ⟨by simp [i1], by simp [this] ; simpa using i2⟩
  | [], _ :: _, h => by simp [keysB] at h
  | _ :: _, [], h => by simp [keysB] at h
theorem rks_fold {K : PySem.W.Frag} {ρ : List Addr} {H : Hp} : ∀ {ks : List Ky} {ds : List D} {vs : List V} {a : List (Ky × D)} {b : List (Key × V)}, RKs K ρ H a b → RDs K ρ H ds vs → ks.length = ds.length →
    RKs K ρ H ((ks.zip ds).foldl (fun acc kv => putK acc kv.1 kv.2) a) ((ks.zip vs).foldl (fun acc kv => L2.putK acc (keyOf kv.1) kv.2) b)
  | [], _, _, _, _, r, _, _ => r
  | k :: ks, [], _, _, _, _, _, h => by simp at h
  | k :: ks, d :: ds, _, a, b, r, rd, h => by
    cases rd with
    | cons r1 r2 => exact rks_fold (ks := ks) (ds := ds) (a := putK a k d) (rks_put r k r1) r2 (by simpa using h)
theorem snd_dct {vs : Ex} (ks : List Ky) (iv : Snd G fs N vs) : Snd G fs N (.dct ks vs) := by
  refine .ofE (fun _ _ => rfl) (fun _ _ => rfl) (fun _ _ _ => rfl) (fun _ _ _ => rfl) (fun _ _ => rfl) (fun _ _ => rfl) ?_
  intro n X sc e W hsc h
  simp only [ck] at h
  split at h
  · rename_i xs ys pos
    simp only [Bool.and_eq_true, decide_eq_true_eq] at h
    obtain ⟨⟨⟨h1, h2⟩, h3⟩, h4⟩ := h
    obtain ⟨k1, k2⟩ := keysB_len h1
    refine plainE ?_ (fun _ => rfl) rfl
    -- what the evaluator says, ahead of the values
    have start : ∀ {σ : L2.St} {H : Hp} {Q : VK}, eR (K := X.K) E0 (sem (callN fs n) (.dct ks vs)).e σ H Q → ∀ p, H p = none → pR (K := X.K) E0 ks (sem (callN fs n) vs).l σ (upd H p (.dK [])) fun ps H2 => H2 p = some (.dK []) ∧
        ∃ kvs : List (Key × V), ps = kvs.map (fun kv => (kV kv.1, kv.2)) ∧ kvs.length ≤ 15 ∧ Q (.ref p) (upd H2 p (.dK (mergeK [] kvs))) := by
      intro σ H Q q p hp
      obtain ⟨ρ, l, st, L, S, q⟩ := q
      have w0 : Wle X.K ρ H (ρ ++ [p]) (upd H p (.dK [])) := Wle.new hp _
      have S0 : SR X.K (ρ ++ [p]) (st ++ [.dct []]) (upd H p (.dK [])) := S.newO hp ⟨[], upd_same, .nil⟩
      have at0 : (ρ ++ [p])[st.length]? = some p := by rw [← S.len]; simp
      have q : (((sem (callN fs n) vs).l l (st ++ [.dct []])).bind fun ys s2 =>
        if ys.length = ks.length ∧ ks.length ≤ 15 ∧ (s2[st.length]? = some (MO.dct [])) then .ok (.obj st.length) (setO st.length (.dct ((ks.zip ys).foldl (fun acc kv => putK acc kv.1 kv.2) [])) s2) else .bad).post (Kont X.K ρ H Q) (fun _ _ => False) := q
      refine ⟨ρ ++ [p], l, st ++ [.dct []], L.up w0, S0, R.post_mono (R.post_bind.mp q) (fun ds s2 q ρ2 H2 us w2 S2 r2 => ?_) fun _ _ x => x⟩
      split at q
      · rename_i hc
        obtain ⟨c1, c2, c3⟩ := hc
        have at2 := w2.pre _ _ at0
        obtain ⟨_, e1, ws, e2, e3⟩ := S2.get c3
        rw [at2] at e1; cases e1
        cases e3
        refine ⟨e2, List.zipWith (fun k v => (keyOf k, v)) ks us, ?_, ?_, ?_⟩
        · rw [List.map_zipWith]
        · rw [List.length_zipWith]; omega
        · obtain ⟨u1, hu1, q1, q2⟩ := (S2.ats _ _ _ c3 at2).isAt
          have mrg : ∀ (ks : List Ky) (us : List V) (b : List (Key × V)), mergeK b (List.zipWith (fun k v => (keyOf k, v)) ks us) = (ks.zip us).foldl (fun acc kv => L2.putK acc (keyOf kv.1) kv.2) b := by
            intro ks
            induction ks with
            | nil => intro us b; rfl
            | cons k ks ih =>
              intro us b
              cases us with
              | nil => rfl
              | cons u us => exact ih us _
          rw [mrg]
          have w := Wle.chg (K := X.K) (ρ := ρ2) hu1 q1 q2 (.dK ((ks.zip us).foldl (fun acc kv => L2.putK acc (keyOf kv.1) kv.2) []))
          exact q _ _ _ ((w0.trans w2).trans w) (S2.chg (o' := .dct ((ks.zip ds).foldl (fun acc kv => putK acc kv.1 kv.2) [])) at2 c3 ⟨_, upd_same, rks_fold (RKs.nil) (r2.up w) c1.symm⟩).1 (.obj at2)
      · exact q.elim
    obtain ⟨trs, p1, p2⟩ := iv.p (pos := pos) W hsc h4 h1 h2
    by_cases h0 : xs = []
    · subst h0
      cases ys with
      | cons y ys => simp at h2
      | nil =>
        refine PE.weak pe_dnewK fun σ H Q q p hp => ?_
        obtain ⟨ρ, l, st, L, S, q⟩ := start q p hp
        have hk : ks = [] := by simpa using k1
        subst hk
        have hl : (sem (callN fs n) vs).l l st = R.ok [] st := by
          cases vs with
          | nil => rfl
          | cons a r => simp [ck] at h4
          | _ => simp [ck, Ck.no] at h4
        rw [hl] at q
        obtain ⟨e1, kvs, e2, e3, q⟩ := q ρ _ [] Wle.refl S .nil
        have : kvs = [] := by
          cases kvs with
          | nil => rfl
          | cons => simp at e2
        subst this
        rw [upd_upd] at q
        exact q
    · exact PE.weak (pe_disp p1 k2 h2 h0 (by omega)) fun σ H Q q p hp => p2 _ _ _ (start q p hp)
  · cases h
theorem snd_itS {e : Ex} (ie : Snd G fs N e) : Snd G fs N (.itS e) := by
  refine .ofW (fun _ _ => rfl) (fun _ _ => rfl) (fun _ _ _ => rfl) (fun _ _ _ => rfl) (fun _ _ => rfl) (fun _ _ => rfl) ?_
  intro n X sc x tg W hsc h
  refine PI.weak (pi_any (ie.e W hsc h).1) fun σ H R q => ?_
  obtain ⟨ρ, l, st, L, S, q⟩ := q
  refine eR_of L S q fun d st1 ρ1 H1 v w1 L1 S1 r1 q => ?_
  split at q
  · obtain ⟨a, vs, rfl, ha, ra⟩ := r1.tup_inv
    exact .inr (.inl ⟨a, rfl, ⟨vs, ha⟩, q ρ1 H1 _ w1 S1 (jr_tup ha ra)⟩)
  · obtain ⟨a, vs, rfl, ha, ra⟩ := r1.kl_inv
    exact .inl ⟨a, rfl, ⟨vs, ha.sq⟩, q ρ1 H1 _ w1 S1 (jr_kl ha ra)⟩
  · cases r1.str_inv
    exact .inr (.inr (.inl ⟨_, rfl, q ρ1 H1 _ w1 S1 jr_str⟩))
  · obtain ⟨a, rfl, ea⟩ := r1.obj_inv
    split at q
    · rename_i hi
      obtain ⟨_, ea', vs, ha, ra⟩ := S1.get hi
      rw [ea] at ea'; cases ea'
      exact .inl ⟨a, rfl, ⟨vs, SqL.of ha⟩, q ρ1 H1 _ w1 S1 (jr_list ea)⟩
    · exact q.elim
  · exact q.elim
theorem snd_itK (i : Nat) : Snd G fs N (.itK i) := by
  refine .ofW (fun _ _ => rfl) (fun _ _ => rfl) (fun _ _ _ => rfl) (fun _ _ _ => rfl) (fun _ _ => rfl) (fun _ _ => rfl) ?_
  intro n X sc x tg W hsc h
  subst hsc
  simp only [ck] at h
  split at h
  · rename_i x p
    simp only [Bool.and_eq_true, decide_eq_true_eq] at h
    obtain ⟨⟨h1, h2⟩, h3⟩ := h
    obtain ⟨o1, o2, o3⟩ := okN_of h3
    refine PI.weak (pi_any (pe_var (by rw [W.nN]; exact h1) (vis_of h2) o1 o2)) fun σ H R q => ?_
    obtain ⟨ρ, l, st, L, S, q⟩ := q
    simp only [sem] at q
    split at q
    · rename_i k hl
      split at q
      · rename_i kvs hk
        obtain ⟨v, e1, r⟩ := L.at_ _ _ hl
        obtain ⟨a, rfl, ea⟩ := r.obj_inv
        obtain ⟨_, ea', o, ws, ha, ra⟩ := S.get hk
        rw [ea] at ea'; cases ea'
        exact ⟨.ref a, e1, .inr (.inr (.inr ⟨a, o, ws, rfl, ha, q ρ H _ Wle.refl S (jr_keys ea ha ra)⟩))⟩
      · exact q.elim
    · exact q.elim
  · cases h
theorem rgOk_of {a b : Int} (h : rgOk a b = true) : -(2 ^ 62) ≤ a ∧ a < 2 ^ 62 ∧ -(2 ^ 62) ≤ b ∧ b < 2 ^ 62 := by
  unfold rgOk at h
  have := of_decide_eq_true h
  omega
theorem snd_itR1 {b : Ex} (ib : Snd G fs N b) : Snd G fs N (.itR1 b) := by
  refine .ofW (fun _ _ => rfl) (fun _ _ => rfl) (fun _ _ _ => rfl) (fun _ _ _ => rfl) (fun _ _ => rfl) (fun _ _ => rfl) ?_
  intro n X sc x tg W hsc h
  subst hsc
  simp only [ck] at h
  split at h
  · simp only [Bool.and_eq_true, decide_eq_true_eq] at h
    obtain ⟨⟨⟨rfl, h2⟩, h3⟩, h4⟩ := h
    refine PI.weak (pi_range1 (gl_of h2) (W.bis _ (by decide +kernel)) (pa_cons (ib.e W rfl h4).1 pa_nil (star_of h3 _ _)) (star_of h3 _ _)) fun σ H R q => ?_
    obtain ⟨ρ, l, st, L, S, q⟩ := q
    refine eR_of L S q fun d st1 ρ1 H1 v w1 L1 S1 r1 q => ?_
    split at q
    · cases r1
      split at q
      · rename_i hr
        have := rgOk_of hr
        refine ⟨_, rfl, this.2.2.1, this.2.2.2, ?_⟩
        have := q ρ1 H1 _ w1 S1 jr_rng
        simpa using this
      · exact q.elim
    · exact q.elim
  · cases h
theorem snd_itR2 {a b : Ex} (ia : Snd G fs N a) (ib : Snd G fs N b) : Snd G fs N (.itR2 a b) := by
  refine .ofW (fun _ _ => rfl) (fun _ _ => rfl) (fun _ _ _ => rfl) (fun _ _ _ => rfl) (fun _ _ => rfl) (fun _ _ => rfl) ?_
  intro n X sc x tg W hsc h
  subst hsc
  simp only [ck] at h
  split at h
  · simp only [Bool.and_eq_true, decide_eq_true_eq] at h
    obtain ⟨⟨⟨⟨⟨rfl, h2⟩, h3⟩, h3'⟩, h4⟩, h5⟩ := h
    refine PI.weak (pi_range2 (gl_of h2) (W.bis _ (by decide +kernel)) (pa_cons (ia.e W rfl h4).1 (pa_cons (ib.e W rfl h5).1 pa_nil (star_of h3' _ _)) (star_of h3 _ _)) (by rw [star_of h3, star_of h3']; rfl) (by rw [star_of h3']; rfl)) fun σ H R q => ?_
    obtain ⟨ρ, l, st, L, S, q⟩ := q
    refine eR_of L S q fun d st1 ρ1 H1 v w1 L1 S1 r1 q => eR_of L1 S1 q fun d' st2 ρ2 H2 v' w2 L2 S2 r2 q => ?_
    split at q
    · cases r1; cases r2
      split at q
      · rename_i hr
        exact ⟨_, _, rfl, rgOk_of hr, q ρ2 H2 _ (w1.trans w2) S2 jr_rng⟩
      · exact q.elim
    · exact q.elim
  · cases h
theorem loc_of {sc : Scope} {x : Str} (h : locB sc x = true) : Loc sc x := by
  unfold locB at h
  simp only [Bool.or_eq_true, decide_eq_true_eq] at h
  exact h
theorem snd_tv (i : Nat) : Snd G fs N (.tv i) := by
  refine .ofT (fun _ _ => rfl) (fun _ _ => rfl) (fun _ _ => rfl) (fun _ _ _ => rfl) (fun _ _ => rfl) (fun _ _ => rfl) ?_
  intro n X sc e o W hsc ho h
  subst hsc
  simp only [ck] at h
  split at h
  · simp only [Bool.and_eq_true, Bool.or_eq_true, decide_eq_true_eq] at h
    obtain ⟨⟨h1, h2⟩, h3⟩ := h
    exact PG.weak (pg_name W.nd (by rw [W.nN]; exact h1) (loc_of h2) (h3.imp id fun h => of_decide_eq_true h)) fun v σ H Q q => t_name (fun own e => by have := ho own e; simpa [ck.tgOwn] using this) q
  · cases h
theorem snd_tt {ts : Ex} (it : Snd G fs N ts) : Snd G fs N (.tt ts) := by
  refine .ofT (fun _ _ => rfl) (fun _ _ => rfl) (fun _ _ => rfl) (fun _ _ _ => rfl) (fun _ _ => rfl) (fun _ _ => rfl) ?_
  intro n X sc e o W hsc ho h
  simp only [ck] at h
  split at h
  · obtain ⟨i1, i2, i3⟩ := it.ts W hsc (fun own e => by have := ho own e; simpa [ck.tgOwn] using this) h
    obtain ⟨a1, a2⟩ := assign_len (env := X.env) i3
    exact PG.weak (pg_tup W.calm i1 a1 a2) fun v σ H Q q => t_tup (fun _ _ _ _ h => h) i2 q
  · cases h
theorem snd_tix {o i : Ex} (io : Snd G fs N o) (ii : Snd G fs N i) : Snd G fs N (.tix o i) := by
  refine .ofT (fun _ _ => rfl) (fun _ _ => rfl) (fun _ _ => rfl) (fun _ _ _ => rfl) (fun _ _ => rfl) (fun _ _ => rfl) ?_
  intro n X sc e ow W hsc ho h
  simp only [ck] at h
  split at h
  · cases h
  · rename_i x y p hy
    simp only [Bool.and_eq_true] at h
    have tree : ∀ v, assign (.Subscript x y p) X.env v = (do
      let ov ← holding [v] (eval x X.env)
      let iv ← holding [v, ov] (eval y X.env)
      standAt p
      holding [v, ov, iv] (setItem ov iv v)
      release [v, ov, iv] []) := by
      intro v
      cases y <;> first | rfl | exact (hy _ _ _ _ rfl).elim
    refine PG.weak (pg_sub (io.e W hsc h.1).1 (ii.e W hsc h.2).1 (set_any W.hu) tree) fun v σ H Q q => ?_
    obtain ⟨ρ, l, st, d, L, S, r, q⟩ := q
    refine eR_of L S q fun x st1 ρ1 H1 xv w1 L1 S1 r1 q => eR_of L1 S1 q fun y st2 ρ2 H2 yv w2 L2 S2 r2 q => ?_
    rw [R.post_bind] at q
    refine st_set (F := fun _ _ => False) S2 (r1.up w2) r2 ((r.up w1).up w2) (R.post_mono q (fun _ st3 q H3 w3 S3 => ?_) fun _ _ x => x)
    exact q ρ2 H3 σ ((w1.trans w2).trans w3) S3 (L2.up w3) WP.refl
  · cases h
/-! ### comprehensions -/
theorem isTrue_nil : isNil .nil = true := rfl
theorem snd_comp {e tg it c : Ex} (own : List Nat) (ie : Snd G fs N e) (itg : Snd G fs N tg) (ii : Snd G fs N it) (ic : Snd G fs N c) : Snd G fs N (.comp e tg it c own) := by
  refine .ofE (fun _ _ => rfl) (fun _ _ => rfl) (fun _ _ _ => rfl) (fun _ _ _ => rfl) (fun _ _ => rfl) (fun _ _ => rfl) ?_
  intro n X sc ex W hsc h
  subst hsc
  simp only [ck] at h
  split at h
  · rename_i x t i ifs csc pos
    simp only [Bool.and_eq_true] at h
    obtain ⟨⟨⟨⟨⟨⟨⟨h1, h2⟩, h3⟩, h4⟩, h5⟩, h6⟩, h7⟩, h8⟩ := h
    have ok := blkOk_by h1
    have hown := of_decide_eq_true h2
    have inner : ∀ (s : Shared) (H : Hp) (C : Addr) (cl : List (Str × Addr)) (fp : List Addr), Wd G fs n N (X.blk s H csc (compEnvC csc cl C X.env) fp) :=
      fun s H C cl fp => ⟨W.nN, W.nd, W.calm, ok.kind, W.room, W.gd, W.cst, W.fns, W.bis, W.dct⟩
    have pe := pe_lc (g := tR (K := X.K) E0 (some own) (sem (callN fs n) tg).t) (elt := x) (te := eR (K := X.K) E0 (sem (callN fs n) e).e) (pos := pos) W.calm W.nd (ii.w (tg := t) W rfl h4) (by rw [W.nN]; exact ok)
      (fun s H C cl fp => itg.t (o := some own) (inner s H C cl fp) rfl (fun o e => by cases e; exact h6) h5)
      (ifs := ifs) (tt := bR (K := X.K) E0 (if isNil c = true then (fun _ s => R.ok true s) else (fun l s => ((sem (callN fs n) c).e l s).bind asB)))
      (fun s H C cl fp => by
        cases ifs with
        | nil =>
          rw [if_pos h8]
          exact ⟨fun pins s σ H Q I q => pts_nil.run pins s σ H Q I (by obtain ⟨ρ, l, st, L, S, q⟩ := q; exact q ρ H Wle.refl S)⟩
        | cons y ys =>
          cases ys with
          | nil =>
            simp only [Bool.and_eq_true, Bool.not_eq_true'] at h8
            rw [if_neg (by rw [h8.1]; decide)]
            exact pts_one (ic.e (inner s H C cl fp) rfl h8.2).2.1
          | cons z zs => cases h8)
      (fun s H C cl fp => (ie.e (inner s H C cl fp) rfl h7).1)
      (fun v => by cases i <;> first | rfl | (simp [notSet] at h3))
    refine plainE (PE.weak pe fun σ H Q q => ?_) (fun _ => rfl) rfl
    rw [hown]
    exact e_comp q
  · cases h
theorem snd_compD {e e2 tg it c : Ex} (own : List Nat) (ie : Snd G fs N e) (ie2 : Snd G fs N e2) (itg : Snd G fs N tg) (ii : Snd G fs N it) (ic : Snd G fs N c) : Snd G fs N (.compD e e2 tg it c own) := by
  refine .ofE (fun _ _ => rfl) (fun _ _ => rfl) (fun _ _ _ => rfl) (fun _ _ _ => rfl) (fun _ _ => rfl) (fun _ _ => rfl) ?_
  intro n X sc ex W hsc h
  subst hsc
  simp only [ck] at h
  split at h
  · rename_i x z t i ifs csc pos
    simp only [Bool.and_eq_true] at h
    obtain ⟨⟨⟨⟨⟨⟨⟨⟨h1, h2⟩, h3⟩, h4⟩, h5⟩, h6⟩, h7⟩, h7'⟩, h8⟩ := h
    have ok := blkOk_by h1
    have hown := of_decide_eq_true h2
    have inner : ∀ (s : Shared) (H : Hp) (C : Addr) (cl : List (Str × Addr)) (fp : List Addr), Wd G fs n N (X.blk s H csc (compEnvC csc cl C X.env) fp) :=
      fun s H C cl fp => ⟨W.nN, W.nd, W.calm, ok.kind, W.room, W.gd, W.cst, W.fns, W.bis, W.dct⟩
    have pe := pe_dc (g := tR (K := X.K) E0 (some own) (sem (callN fs n) tg).t) (kx := x) (vx := z) (tk := eR (K := X.K) E0 (sem (callN fs n) e).e) (tv := eR (K := X.K) E0 (sem (callN fs n) e2).e) (pos := pos) W.calm W.nd (ii.w (tg := t) W rfl h4) (by rw [W.nN]; exact ok)
      (fun s H C cl fp => itg.t (o := some own) (inner s H C cl fp) rfl (fun o e => by cases e; exact h6) h5)
      (ifs := ifs) (tt := bR (K := X.K) E0 (if isNil c = true then (fun _ s => R.ok true s) else (fun l s => ((sem (callN fs n) c).e l s).bind asB)))
      (fun s H C cl fp => by
        cases ifs with
        | nil =>
          rw [if_pos h8]
          exact ⟨fun pins s σ H Q I q => pts_nil.run pins s σ H Q I (by obtain ⟨ρ, l, st, L, S, q⟩ := q; exact q ρ H Wle.refl S)⟩
        | cons y ys =>
          cases ys with
          | nil =>
            simp only [Bool.and_eq_true, Bool.not_eq_true'] at h8
            rw [if_neg (by rw [h8.1]; decide)]
            exact pts_one (ic.e (inner s H C cl fp) rfl h8.2).2.1
          | cons z2 zs => cases h8)
      (fun s H C cl fp => (ie.e (inner s H C cl fp) rfl h7).1)
      (fun s H C cl fp => (ie2.e (inner s H C cl fp) rfl h7').1)
      (fun v => by cases i <;> first | rfl | (simp [notSet] at h3))
    refine plainE (PE.weak pe fun σ H Q q => ?_) (fun _ => rfl) rfl
    rw [hown]
    exact e_compD q
  · cases h
theorem snd_comp2 {e tg it tg2 it2 : Ex} (own own2 : List Nat) (ie : Snd G fs N e) (itg : Snd G fs N tg) (ii : Snd G fs N it) (itg2 : Snd G fs N tg2) (ii2 : Snd G fs N it2) : Snd G fs N (.comp2 e tg it tg2 it2 own own2) := by
  refine .ofE (fun _ _ => rfl) (fun _ _ => rfl) (fun _ _ _ => rfl) (fun _ _ _ => rfl) (fun _ _ => rfl) (fun _ _ => rfl) ?_
  intro n X sc ex W hsc h
  subst hsc
  simp only [ck] at h
  split at h
  · rename_i x t i t2 i2 csc pos
    simp only [Bool.and_eq_true] at h
    obtain ⟨⟨⟨⟨⟨⟨⟨⟨⟨⟨⟨h1, h2⟩, h3⟩, h3'⟩, h9⟩, h4⟩, h5⟩, h6⟩, h7⟩, h8⟩, h10⟩, h11⟩ := h
    have ok := blkOk_by h1
    have hown := of_decide_eq_true h2
    have inner : ∀ (s : Shared) (H : Hp) (C : Addr) (cl : List (Str × Addr)) (fp : List Addr), Wd G fs n N (X.blk s H csc (compEnvC csc cl C X.env) fp) :=
      fun s H C cl fp => ⟨W.nN, W.nd, W.calm, ok.kind, W.room, W.gd, W.cst, W.fns, W.bis, W.dct⟩
    have none_ : ∀ (s : Shared) (H : Hp) (C : Addr) (cl : List (Str × Addr)) (fp : List Addr), PTs (X.blk s H csc (compEnvC csc cl C X.env) fp) [] (bR (K := X.K) E0 fun _ s => R.ok true s) := fun s H C cl fp =>
      ⟨fun pins s σ H Q I q => pts_nil.run pins s σ H Q I (by obtain ⟨ρ, l, st, L, S, q⟩ := q; exact q ρ H Wle.refl S)⟩
    have sub : ∀ j ∈ own2, j ∈ (own.filterMap fun j => (N[j]?).map fun n => (n, j)).map (·.2) := fun j hj => by
      rw [hown]
      have := List.all_eq_true.mp h9 j hj
      simpa using this
    have pe := pe_lc2 (g := tR (K := X.K) E0 (some own) (sem (callN fs n) tg).t) (g1 := tR (K := X.K) E0 (some own2) (sem (callN fs n) tg2).t) (wi1 := wR (K := X.K) E0 (sem (callN fs n) it2).w) (vs1 := own2) (iter1 := i2) (tg1 := t2) (elt := x) (te := eR (K := X.K) E0 (sem (callN fs n) e).e) (pos := pos) W.calm W.nd (ii.w (tg := t) W rfl h4) (by rw [W.nN]; exact ok) sub
      (fun s H C cl fp => itg.t (o := some own) (inner s H C cl fp) rfl (fun o e => by cases e; exact h6) h5)
      none_
      (fun s H C cl fp => ii2.w (tg := t2) (inner s H C cl fp) rfl h7)
      (fun s H C cl fp => itg2.t (o := some own2) (inner s H C cl fp) rfl (fun o e => by cases e; exact h10) h8)
      none_
      (fun s H C cl fp => (ie.e (inner s H C cl fp) rfl h11).1)
      (fun v => by cases i <;> first | rfl | (simp [notSet] at h3))
      (fun env v => by cases i2 <;> first | rfl | (simp [notSet] at h3'))
    refine plainE (PE.weak pe fun σ H Q q => ?_) (fun _ => rfl) rfl
    rw [hown]
    exact e_comp2 q
  · cases h
theorem rgC_of {i j k : Int} (h : rgOk i j = true) (h0 : 0 < k) (h1 : k ≤ 1000000) : RgC i j k (rgN i j k) := by
  unfold rgOk at h
  have h := of_decide_eq_true h
  have hrs : Builtin.Range.rangeSize i j k = (rgN i j k : Int) ∧ Builtin.Range.rangeSize i j k ≤ 3000000000 := by
    unfold Builtin.Range.rangeSize rgN
    rw [if_pos (by omega)]
    split
    · have a1 : 0 ≤ (j - i - 1) / k := Int.ediv_nonneg (by omega) (by omega)
      have a2 : (j - i - 1) / k ≤ j - i - 1 := Int.ediv_le_self _ (by omega)
      omega
    · exact ⟨rfl, by omega⟩
  refine ⟨by omega, by omega, ?_, hrs.1⟩
  have h2 := hrs.1
  have h3 := hrs.2
  unfold Builtin.Range.small
  generalize Builtin.Range.rangeSize i j k = rs at *
  have f : ∀ x : Int, -9000000000 ≤ x → x ≤ 9000000000 → Builtin.Range.rangeFitsLong x = true := fun x h h' => by
    unfold Builtin.Range.rangeFitsLong
    rw [decide_eq_true (by omega), decide_eq_true (by omega)]; rfl
  rw [f i (by omega) (by omega), f j (by omega) (by omega), f k (by omega) (by omega), f rs (by omega) (by omega), if_pos (by omega), f (j + (k - 1)) (by omega) (by omega)]
  simp
theorem snd_itR3 {a b c : Ex} (ia : Snd G fs N a) (ib : Snd G fs N b) (ic : Snd G fs N c) : Snd G fs N (.itR3 a b c) := by
  refine .ofW (fun _ _ => rfl) (fun _ _ => rfl) (fun _ _ _ => rfl) (fun _ _ _ => rfl) (fun _ _ => rfl) (fun _ _ => rfl) ?_
  intro n X sc x tg W hsc h
  subst hsc
  simp only [ck] at h
  split at h
  · simp only [Bool.and_eq_true, decide_eq_true_eq] at h
    obtain ⟨⟨⟨⟨⟨⟨⟨rfl, h2⟩, h3⟩, h3'⟩, h3''⟩, h4⟩, h5⟩, h6⟩ := h
    refine PI.weak (pi_range3 (gl_of h2) (W.bis _ (by decide +kernel)) (pa_cons (ia.e W rfl h4).1 (pa_cons (ib.e W rfl h5).1 (pa_cons (ic.e W rfl h6).1 pa_nil (star_of h3'' _ _)) (star_of h3' _ _)) (star_of h3 _ _)) (star_of h3 _ _) (by rw [star_of h3', star_of h3'']; rfl)) fun σ H R q => ?_
    obtain ⟨ρ, l, st, L, S, q⟩ := q
    refine eR_of L S q fun d st1 ρ1 H1 v w1 L1 S1 r1 q => eR_of L1 S1 q fun d' st2 ρ2 H2 v' w2 L2 S2 r2 q => eR_of L2 S2 q fun d'' st3 ρ3 H3 v'' w3 L3 S3 r3 q => ?_
    split at q
    · cases r1; cases r2; cases r3
      split at q
      · rename_i hr
        exact ⟨_, _, _, _, rfl, rgC_of hr.1 hr.2.1 hr.2.2, q ρ3 H3 _ (w1.trans (w2.trans w3)) S3 jr_rng3⟩
      · exact q.elim
    · exact q.elim
  · cases h
end Z

/-! ZMore: list(range(..)). -/
namespace Z
open PySem L2 PySem.Spec PyProof.Rows
section
variable {G : Gt} {fs : List Fn} {N : List Str} {K : PySem.W.Frag} {ρ : List Addr} {H : Hp}
theorem rds_rng {a b : Int} : RDs K ρ H (rng a b) (rgV a b) := by
  unfold rng rgV
  generalize List.range (b - a).toNat = js
  induction js with
  | nil => exact .nil
  | cons j js ih => exact .cons (.int _) ih
theorem snd_lr1 {b : Ex} (ib : Snd G fs N b) : Snd G fs N (.lr1 b) := by
  refine .ofE (fun _ _ => rfl) (fun _ _ => rfl) (fun _ _ _ => rfl) (fun _ _ _ => rfl) (fun _ _ => rfl) (fun _ _ => rfl) ?_
  intro n X sc e W hsc h
  subst hsc
  simp only [ck] at h
  split at h
  · simp only [Bool.and_eq_true, decide_eq_true_eq] at h
    obtain ⟨⟨⟨⟨⟨rfl, h1⟩, rfl⟩, h2⟩, h3⟩, h4⟩ := h
    refine plainE (PE.weak (pe_listRg W.calm (gl_of h1) (W.bis _ (by decide +kernel)) (prg_1 (gl_of h2) (W.bis _ (by decide +kernel)) (ib.e W rfl h4).1 (star_of h3 _ _))) fun σ H Q q => ?_) (fun _ => rfl) rfl
    obtain ⟨ρ, l, st, L, S, q⟩ := q
    refine eR_of L S q fun d st1 ρ1 H1 v w1 L1 S1 r1 q => ?_
    split at q
    · cases r1
      split at q
      · rename_i hr
        have := rgOk_of hr.1
        refine ⟨_, rfl, ⟨by omega, by omega, this.2.2.1, this.2.2.2, by omega⟩, fun p hp => ?_⟩
        exact newL_post S1 rds_rng (R.post_mono q (fun _ _ (q : Kont X.K ρ H Q _ _) => q.up w1) fun _ _ x => x) hp
      · exact q.elim
    · exact q.elim
  · cases h
theorem snd_lr2 {a b : Ex} (ia : Snd G fs N a) (ib : Snd G fs N b) : Snd G fs N (.lr2 a b) := by
  refine .ofE (fun _ _ => rfl) (fun _ _ => rfl) (fun _ _ _ => rfl) (fun _ _ _ => rfl) (fun _ _ => rfl) (fun _ _ => rfl) ?_
  intro n X sc e W hsc h
  subst hsc
  simp only [ck] at h
  split at h
  · simp only [Bool.and_eq_true, decide_eq_true_eq] at h
    obtain ⟨⟨⟨⟨⟨⟨⟨rfl, h1⟩, rfl⟩, h2⟩, h3⟩, h3'⟩, h4⟩, h5⟩ := h
    refine plainE (PE.weak (pe_listRg W.calm (gl_of h1) (W.bis _ (by decide +kernel)) (prg_2 (gl_of h2) (W.bis _ (by decide +kernel)) (ia.e W rfl h4).1 (ib.e W rfl h5).1 (star_of h3 _ _) (star_of h3' _ _) (by rw [star_of h3']; rfl))) fun σ H Q q => ?_) (fun _ => rfl) rfl
    obtain ⟨ρ, l, st, L, S, q⟩ := q
    refine eR_of L S q fun d st1 ρ1 H1 v w1 L1 S1 r1 q => eR_of L1 S1 q fun d' st2 ρ2 H2 v' w2 L2 S2 r2 q => ?_
    split at q
    · cases r1; cases r2
      split at q
      · rename_i hr
        have := rgOk_of hr.1
        refine ⟨_, _, rfl, rfl, ⟨this.1, this.2.1, this.2.2.1, this.2.2.2, by omega⟩, fun p hp => ?_⟩
        exact newL_post S2 rds_rng (R.post_mono q (fun _ _ (q : Kont X.K ρ H Q _ _) => q.up (w1.trans w2)) fun _ _ x => x) hp
      · exact q.elim
    · exact q.elim
  · cases h
end
/-! sorted(set(..)) -/
theorem insS_mem {z k : Int} : ∀ {ys : List Int}, k ∈ insS z ys ↔ k = z ∨ k ∈ ys
  | [] => by simp [insS]
  | y :: ys => by
    unfold insS
    split
    · simp
    · split
      · rename_i h; subst h; simp
      · simp only [List.mem_cons, insS_mem (ys := ys)]
        constructor
        · rintro (h | h | h)
          · exact .inr (.inl h)
          · exact .inl h
          · exact .inr (.inr h)
        · rintro (h | h | h)
          · exact .inr (.inl h)
          · exact .inl h
          · exact .inr (.inr h)
theorem insS_asc {z : Int} : ∀ {ys : List Int}, ys.Pairwise (· < ·) → (insS z ys).Pairwise (· < ·)
  | [], _ => by simp [insS]
  | y :: ys, h => by
    have h1 := List.pairwise_cons.mp h
    unfold insS
    split
    · rename_i hz
      refine List.pairwise_cons.mpr ⟨fun a ha => ?_, h⟩
      rcases List.mem_cons.mp ha with rfl | ha
      · exact hz
      · have := h1.1 a ha; omega
    · split
      · exact h
      · refine List.pairwise_cons.mpr ⟨fun a ha => ?_, insS_asc h1.2⟩
        rcases insS_mem.mp ha with rfl | ha
        · omega
        · exact h1.1 a ha
theorem sset_asc : ∀ ns : List Int, (sset ns).Pairwise (· < ·)
  | [] => .nil
  | n :: ns => insS_asc (sset_asc ns)
theorem sset_mem {k : Int} : ∀ {ns : List Int}, k ∈ sset ns ↔ k ∈ ns
  | [] => by simp [sset]
  | n :: ns => by
    show k ∈ insS n (sset ns) ↔ _
    rw [insS_mem, sset_mem, List.mem_cons]
theorem asc_eq : ∀ {xs ys : List Int}, xs.Pairwise (· < ·) → ys.Pairwise (· < ·) → (∀ k, k ∈ xs ↔ k ∈ ys) → xs = ys
  | [], [], _, _, _ => rfl
  | [], y :: ys, _, _, h => absurd ((h y).mpr List.mem_cons_self) (by simp)
  | x :: xs, [], _, _, h => absurd ((h x).mp List.mem_cons_self) (by simp)
  | x :: xs, y :: ys, hx, hy, h => by
    have hx1 := List.pairwise_cons.mp hx
    have hy1 := List.pairwise_cons.mp hy
    have e : x = y := by
      have a := (h x).mp List.mem_cons_self
      have b := (h y).mpr List.mem_cons_self
      rcases List.mem_cons.mp a with e | a
      · exact e
      · rcases List.mem_cons.mp b with e | b
        · exact e.symm
        · have := hx1.1 y b; have := hy1.1 x a; omega
    subst e
    refine congrArg _ (asc_eq hx1.2 hy1.2 fun k => ⟨fun q => ?_, fun q => ?_⟩)
    · rcases List.mem_cons.mp ((h k).mp (List.mem_cons_of_mem _ q)) with rfl | r
      · have := hx1.1 _ q; omega
      · exact r
    · rcases List.mem_cons.mp ((h k).mpr (List.mem_cons_of_mem _ q)) with rfl | r
      · have := hy1.1 _ q; omega
      · exact r
def rSetTI (K : PySem.W.Frag) (w : World) : List V → Hp → VK → Prop := fun vs H Q => ∃ (p : Addr) (ns : List Int), vs = [.ref p] ∧ (SqT K H p (ns.map V.int) ∨ SqL K H p (ns.map V.int)) ∧ ns.length ≤ 60 ∧
  ∀ (a : Addr) (n : Nat), H a = none → n ≤ ns.length → Q (.ref a) (upd H a (SetO w a (fun j => decide (j ∈ ns)) n))
theorem cr_setTI {X : Cx} (hc : X.calm = true) : CallR X (.type "set") (rSetTI X.K X.w) := by
  intro pins s σ H xs us Q I r h
  obtain ⟨p, ns, rfl, hq, hl, q⟩ := h
  cases r with
  | cons r rr =>
    cases rr
    cases r
    rcases hq with hq | hq
    · obtain ⟨its, rv, pt, hz⟩ := I.tuple hq
      have hi : IntsAre its.toArray.toList ns := ints_of_vals rv
      refine call_set_tupI ns (I.ok.hd hc) (show s.heap.IsTuple p its.toArray from pt) hi (by unfold scanBound; omega) fun h' tk c R1 hcn k => ?_
      exact ⟨.ref _, upd H s.heap.objs.size (SetO X.w s.heap.objs.size (fun j => decide (j ∈ ns)) c), I.laid (t' := tk) k (Nat.le_refl _) (setO_new R1), rfl, q _ _ (I.hok.fresh (Nat.le_refl _)) hcn⟩
    · obtain ⟨its, rv, pt, hz⟩ := I.list hq
      have hi : IntsAre its.toArray.toList ns := ints_of_vals rv
      refine call_set_lst ns (I.ok.hd hc) pt.isList hi (by unfold scanBound; omega) fun s2 hf => ?_
      obtain ⟨h', tk, c, rfl, R1, hcn, k⟩ := hf
      exact ⟨.ref _, upd H s.heap.objs.size (SetO X.w s.heap.objs.size (fun j => decide (j ∈ ns)) c), I.laid (t' := tk) k (Nat.le_refl _) (setO_new R1), rfl, q _ _ (I.hok.fresh (Nat.le_refl _)) hcn⟩
theorem rds_ints {K : PySem.W.Frag} {ρ : List Addr} {H : Hp} : ∀ ns : List Int, RDs K ρ H (ns.map .int) (ns.map V.int)
  | [] => .nil
  | n :: ns => .cons (.int n) (rds_ints ns)
theorem snd_sset {G : Gt} {fs : List Fn} {N : List Str} {b : Ex} (ib : Snd G fs N b) : Snd G fs N (.sset b) := by
  refine .ofE (fun _ _ => rfl) (fun _ _ => rfl) (fun _ _ _ => rfl) (fun _ _ _ => rfl) (fun _ _ => rfl) (fun _ _ => rfl) ?_
  intro n X sc e W hsc h
  subst hsc
  simp only [ck] at h
  split at h
  · rename_i z pz x px y p2 pos
    simp only [Bool.and_eq_true, decide_eq_true_eq] at h
    obtain ⟨⟨⟨⟨⟨rfl, h1⟩, rfl⟩, h2⟩, h3⟩, h4⟩ := h
    have pset := pe_callTy (pos := p2) (p := px) (cr_setTI W.calm) (gl_of h2) (W.bis _ (by decide +kernel)) PyProof.Rows.boot_set (pa_cons (ib.e W rfl h4).1 pa_nil (star_of h3 _ _)) (by decide) (by decide) (star_of h3 _ _) rfl
    refine plainE (PE.weak (pe_callB (cr_sortedSet W.calm) (gl_of h1) (W.bis _ (by decide +kernel)) (by decide +kernel) (pa_cons pset pa_nil rfl)) fun σ H Q q => ?_) (fun _ => rfl) rfl
    obtain ⟨ρ, l, st, L, S, q⟩ := q
    refine eR_of L S q fun d st1 ρ1 H1 v w1 L1 S1 r1 q => ?_
    split at q
    · rename_i xs hxs
      obtain ⟨a, vs, rfl, ha, ra⟩ := seq_of S1 r1 hxs
      split at q
      · rename_i ns hns
        split at q
        · rename_i hl
          have := ints_of ra hns
          subst this
          refine ⟨a, ns, rfl, ha.elim .inr (fun h => .inl h.1), hl, fun p n hp hn => ⟨p, _, n, rfl, upd_same, by omega, fun ns' p' h1 h2 h3 hp' => ?_⟩⟩
          have e : ns' = Z.sset ns := asc_eq h1 (sset_asc ns) fun k => by rw [h2, decide_eq_true_eq, sset_mem]
          subst e
          have hw : Wle X.K ρ1 H1 ρ1 (upd H1 p (SetO X.w p (fun j => decide (j ∈ ns)) n)) := Wle.newT hp _
          have hS := S1.newT hp (SetO X.w p (fun j => decide (j ∈ ns)) n)
          exact newL_post hS (rds_ints _) (R.post_mono q (fun _ _ (q : Kont X.K ρ H Q _ _) => q.up (w1.trans hw)) fun _ _ x => x) hp'
        · exact q.elim
      · exact q.elim
    · exact q.elim
  · cases h
/-! o[a:c] = v of a tuple -/
section
variable {prog : Program} {w : World} {A : Around} {E : Value → Shared → Prop} {s : Shared}
theorem setTup {l b sl : Addr} {its new : Array Value} {n : Nat} {vl vu : Value} {a c : Nat} {Q : Unit → Shared → Prop} (e : s.heap.get? l = some { cls := .type "list", data := .seq its n }) (e2 : IsTup s.heap b new)
    (hs : s.heap.IsSliceOf sl vl vu .none) (pl : IsPart vl (some (a : Int))) (pu : IsPart vu (some (c : Int))) (hac : a ≤ c) (hc : c ≤ its.size) (hsz : its.size + new.size ≤ sizeLine)
    (h : Q () { s with heap := s.heap.update l (Obj.mapSeq fun xs => xs.extract 0 a ++ new ++ xs.extract c xs.size) }) : wpAny (model prog w) A (setItem (.ref l) (.ref sl) (.ref b)) Q E s := by
  have hl : s.heap.IsList l its := PySem.IsL.isList e
  have hT2 := e2.typeIs
  obtain ⟨o2, ho2, hc2, n2, hd2⟩ := e2
  have hne : l ≠ b := by
    rintro rfl
    rw [e] at ho2
    cases ho2
    exact absurd (show Value.type "list" = Value.type "tuple" from hc2) (by decide)
  obtain ⟨os, hos, hcs, hds⟩ := id hs
  have hT : s.TypeIs (.ref sl) "slice" := ⟨os, hos, hcs⟩
  have same : Builtin.List.listSameRef (.ref l) (.ref b) = false := by
    show (l == b) = false
    exact beq_eq_false_iff_ne.mpr hne
  have mx : (max (a : Int) (c : Int)).toNat = c := by omega
  have sz : ((fun xs : Array Value => xs.extract 0 a ++ new ++ xs.extract c xs.size) its).size ≤ sizeLine + 1 := by
    simp only [Array.size_append, Array.size_extract]; omega
  unfold setItem
  (try with_reducible refine wpAny_holding ?_); (first | refine wpAny_bind (wpAny_pure ?_) | skip)
  refine wpAny_bind (wpAny_sequenceKey hl.typeIs (by decide) (wpAny_bind (wpAny_callSpecial?_slot (name := Str.ofString "__setitem__") hl.typeIs slot_list_setitem (wpAny_call_entry slot_list_setitem hl.typeIs entry_list_setitem ?_ (args_list_setitem _ _ _)))))
  show wpAny _ _ (Builtin.List.listSubscript? (.ref sl) >>= _) _ _ s
  refine wpAny_bind ?_
  unfold Builtin.List.listSubscript?
  refine wpAny_bind (wpAny_specialOf hT slice_no_index ?_)
  simp only [Option.isNone_none, if_true]
  refine wpAny_pure ?_
  show wpAny _ _ (typeOf (.ref sl) >>= _) _ _ s
  refine wpAny_bind (wpAny_typeOf hT ?_)
  first | rw [if_neg (by decide)] | refine PySem.W.KFB.if_not (by decide) ?_
  rw [listSliceParts_eq]
  refine wpAny_bind (wpAny_bind (wpAny_field hos hds (x := .none) rfl (wpAny_bind (wpAny_listPart .none ?_))))
  rw [if_neg (show ¬ ((rawPart none == rawInt 0) = true) from Bool.false_ne_true)]
  refine wpAny_bind (wpAny_field hos hds (x := vl) rfl (wpAny_bind (wpAny_listPart pl (wpAny_bind (wpAny_field hos hds (x := vu) rfl (wpAny_bind (wpAny_listPart pu (wpAny_pure ?_))))))))
  first | simp only [same, Bool.false_eq_true, if_false] | refine PySem.W.KFB.if_not same ?_ | (dsimp only; rw [if_neg (by rw [same]; exact Bool.false_ne_true)])
  refine wpAny_bind (m := Builtin.List.listAllItems (.ref b) "must assign iterable to extended slice") ?_
  unfold Builtin.List.listAllItems
  refine wpAny_bind (wpAny_typeOf hT2 ?_)
  first | refine PySem.W.KFB.if_so (by decide) ?_ | rw [if_pos (by decide)] | simp only [beq_self_eq_true, Bool.or_true, if_true]
  unfold Builtin.List.listItems
  refine wpAny_bind (wpAny_seqItems ho2 hd2 (wpAny_pure (wpAny_bind (wpAny_bind (wpAny_seqItems e rfl (wpAny_pure ?_))))))
  refine wpAny_bind (wpAny_of_eq ((sliceIndices_raw (some (a : Int)) (some (c : Int)) none its.size (by simp)).trans (congrArg (pure : Int × Int × Int → Sem (Int × Int × Int)) (bounds_run hac hc))) ?_)
  show wpAny _ _ (if ((1 : Int) == 1) = true then _ else _) _ _ s
  rw [if_pos (by decide)]
  refine wpAny_bind (wpAny_rule ?_)
  first | simp only [notLongL hsz, Bool.false_eq_true, if_false] | refine PySem.W.KFB.if_not (notLongL hsz) ?_
  first | refine wpAny_bind (wpAny_pure ?_) | skip
  show wpAny _ _ (updateSeq l (fun xs => xs.extract 0 ((a : Int)).toNat ++ new ++ xs.extract (max (a : Int) (c : Int)).toNat xs.size) >>= _) _ _ s
  rw [mx, Int.toNat_natCast]
  refine wpAny_bind (wpAny_updateSeq (hz := Nat.le_trans (Nat.le_add_right _ _) hsz) (_hz' := sz) e rfl (wpAny_bind (wpAny_letGo ?_)))
  first | exact wpAny_bind (wpAny_pure (wpAny_pure ⟨.none, rfl, wpAny_pure h⟩)) | exact wpAny_pure ⟨.none, rfl, wpAny_pure h⟩
end
section
variable {X : Cx}
theorem set_sliceT {pins : List (Addr × Obj)} {s : Shared} {σ : L2.St} {H : Hp} {l b sl : Addr} {xs ys : List V} {a c : Int} {vl vu : Value} {Q : Unit → Shared → Prop} (I : Inv X pins σ H s) (hH : H l = some (.lst xs)) (hB : SqT X.K H b ys)
    (hs : s.heap.IsSliceOf sl vl vu .none) (ra : RelV (.int a) vl) (rc : RelV (.int c) vu) (h0 : 0 ≤ a) (hac : a ≤ c) (hc : c ≤ xs.length) (hz : xs.length + ys.length ≤ sizeLine)
    (h : ∀ s', Inv X pins σ (upd H l (.lst (xs.take a.toNat ++ ys ++ xs.drop c.toNat))) s' → Q () s') : wpAny (model X.prog X.w) X.A (setItem (.ref l) (.ref sl) (.ref b)) Q X.xe s := by
  obtain ⟨ta, rfl⟩ := ra
  obtain ⟨tc, rfl⟩ := rc
  obtain ⟨z, its, n, r, hl, e⟩ := I.lstM hH
  obtain ⟨its2, r2, ht2, hz2⟩ := I.tuple hB
  have hl2 := r2.length
  obtain ⟨a', rfl⟩ := Int.eq_ofNat_of_zero_le h0
  obtain ⟨c', rfl⟩ := Int.eq_ofNat_of_zero_le (Int.le_trans h0 hac)
  simp only [Int.toNat_natCast] at h
  refine setTup (a := a') (c := c') e ht2 hs (.int _ _) (.int _ _) (by omega) (by rw [List.size_toArray]; omega) (by rw [List.size_toArray, List.size_toArray]; omega) (h _ ?_)
  refine I.lset (its' := its.take a' ++ its2 ++ its.drop c') (t' := s.toks) hH e (splice_eq its its2 a' c') (Vals.append (Vals.append (r.take _) r2) (r.drop _)) ?_
  rw [List.length_append, List.length_append, List.length_take, List.length_drop]
  omega
/-- o[a:c] = v -/
def gSlT (K : PySem.W.Frag) (to ta tc : TE) : TG := fun v σ H Q => to σ H fun o H1 => ta σ H1 fun x H2 => tc σ H2 fun y H3 => ∃ l b xs ys a c, o = .ref l ∧ v = .ref b ∧ x = .int a ∧ y = .int c ∧ H3 l = some (.lst xs) ∧ SqT K H3 b ys ∧ 0 ≤ a ∧ a ≤ c ∧ c ≤ xs.length ∧ xs.length + ys.length ≤ sizeLine ∧ Q σ (upd H3 l (.lst (xs.take a.toNat ++ ys ++ xs.drop c.toNat)))
theorem pg_slT {o p q : Expr} {to ta tc : TE} {pos p2 : Pos} (ho : PE X o to) (hp : PE X p ta) (hq : PE X q tc) : PG X (.Subscript o (.Slice (some p) (some q) none p2) pos) (gSlT X.K to ta tc) := by
  refine ⟨fun pins s σ H v u Q I r h => ?_⟩
  show wpAny _ _ (do
      let ov ← holding [u] (eval o X.env)
      let iv ← holding [u, ov] (eval (.Slice (some p) (some q) none p2) X.env)
      standAt pos
      holding [u, ov, iv] (setItem ov iv u)
      release [iv, u, ov] []) _ _ s
  refine wpAny_bind (wpAny_holding (thn (ho.run pins s σ H _ I h) fun ov s1 ⟨x, H1, I1, r1, q1⟩ => ?_))
  refine wpAny_bind (wpAny_holding (wpAny_Slice ?_))
  rw [evalPart_some]
  refine thn (hp.run pins s1 σ H1 _ I1 q1) fun v2 s2 ⟨y, H2, I2, r2, q2⟩ => ?_
  rw [evalPart_some]
  refine thn (hq.run pins s2 σ H2 _ I2 q2) fun v3 s3 ⟨y3, H3, I3, r3, q3⟩ => ?_
  rw [evalPart_none]
  refine wpAny_pure ?_
  obtain ⟨l, b, xs, ys, a, c, rfl, rfl, rfl, rfl, hl, hb, b0, b1, b2, b3, q⟩ := q3
  obtain rfl : ov = .ref l := r1
  obtain rfl : u = .ref b := r
  have I4 : Inv X pins σ H3 { s3 with heap := s3.heap.push { cls := .type "slice", data := .fields #[v2, v3, .none] } } := I3.kept (t' := s3.toks) fun b ob q => Heap.get?_push_of_some _ q
  refine wpAny_bind (wpAny_standAt (wpAny_bind (wpAny_holding ?_)))
  refine set_sliceT I4 hl hb (Heap.IsSliceOf.new ..) r2 r3 b0 b1 b2 b3 fun s5 I5 => ?_
  exact wpAny_release ⟨σ, _, I5, q⟩
theorem snd_tsl {G : Gt} {fs : List Fn} {N : List Str} {o lo hi : Ex} (io : Snd G fs N o) (il : Snd G fs N lo) (ih : Snd G fs N hi) : Snd G fs N (.tsl o lo hi) := by
  refine .ofT (fun _ _ => rfl) (fun _ _ => rfl) (fun _ _ => rfl) (fun _ _ _ => rfl) (fun _ _ => rfl) (fun _ _ => rfl) ?_
  intro n X sc e ow W hsc ho h
  simp only [ck] at h
  split at h
  · simp only [Bool.and_eq_true] at h
    refine PG.weak (pg_slT (io.e W hsc h.1.1).1 (il.e W hsc h.1.2).1 (ih.e W hsc h.2).1) fun v σ H Q q => ?_
    obtain ⟨ρ, l, st, d, L, S, r, q⟩ := q
    refine eR_of L S q fun x st1 ρ1 H1 xv w1 L1 S1 r1 q => eR_of L1 S1 q fun y st2 ρ2 H2 yv w2 L2 S2 r2 q => eR_of L2 S2 q fun y' st3 ρ3 H3 yv' w3 L3 S3 r3 q => ?_
    unfold stSl at q
    split at q
    · obtain ⟨a, rfl, ea⟩ := (r1.up (w2.trans w3)).obj_inv
      split at q
      · rename_i xs hi
        obtain ⟨_, ea', vs, ha, ra⟩ := S3.get hi
        rw [ea] at ea'; cases ea'
        split at q
        · rename_i i1 i2 ys qa qb qc
          split at q
          · rename_i hb
            cases r2.up w3; cases r3
            obtain ⟨b, ws, rfl, hbT, rb⟩ := (r.up ((w1.trans w2).trans w3)).tup_inv
            have e1 := ra.length
            have e2 := rb.length
            have hb4 := hb.2.2.2
            rw [line_eq] at hb4
            obtain ⟨u1, hu1, q1, q2⟩ := (S3.ats _ _ _ hi ea).isAt
            refine ⟨a, b, vs, ws, _, _, rfl, rfl, rfl, rfl, ha, hbT, hb.1, hb.2.1, by omega, by omega, ?_⟩
            have w : Wle X.K ρ3 H3 ρ3 (upd H3 a (.lst (vs.take i1.toNat ++ ws ++ vs.drop i2.toNat))) := Wle.chg hu1 q1 q2 _
            have S4 := (S3.chg (o' := .lst (xs.take i1.toNat ++ ys ++ xs.drop i2.toNat)) ea hi ⟨_, upd_same, (((ra.take _).append rb).append (ra.drop _)).up w⟩).1
            exact q ρ3 _ σ (((w1.trans w2).trans w3).trans w) S4 (L3.up w) WP.refl
          · exact q.elim
        · exact q.elim
      · exact q.elim
    · exact q.elim
  · cases h
end
end Z

/-! ZIt: enumerate(t), t a tuple or a list. -/
namespace Z
open PySem L2 PySem.Spec PyProof.Rows
set_option maxHeartbeats 1000000 in
theorem meets_enum1 {v : Value} {o : Obj} {H : Heap → Prop} (B : Begins v o H) :
    Meets (Builtin.«enumerate.__new__» ⟨[.type "enumerate", v], []⟩) (fun _ R s => H s.heap ∧
      R (.ok (.ret (.ref (s.heap.push o).objs.size))) { s with heap := (s.heap.push o).push { cls := .type "enumerate", data := .fields #[.none, .bool false, .ref s.heap.objs.size, rawInt 0, .none, .none] } }) :=
  .of_wp fun prog w A R s h => by
    obtain ⟨hp, g, d, tk, os⟩ := s; obtain ⟨h1, h⟩ := h
    have hsub := sub_enumerate
    have q1 : ∀ {A' : Around} {E : Value → Shared → Prop} {Q : Value → Shared → Prop}, Q (.ref hp.objs.size) ⟨hp.push o, g, d, tk, os⟩ → wpAny (model prog w) A' (pyIter v) Q E ⟨hp, g, d, tk, os⟩ :=
      fun q => B.iter prog w _ _ ⟨hp, g, d, tk, os⟩ _ h1 q
    wp_walk using q1
    refine wpAny_stack_any fun st => wpAny_pure ?_
    split
    · rename_i c _ _ _ _ _
      cases (c == Value.type "enumerate")
      · wp_walk using q1
        exact ⟨_, rfl, h⟩
      · wp_walk using q1
        exact ⟨_, rfl, h⟩
    · wp_walk using q1
      exact ⟨_, rfl, h⟩
theorem call_enum1 {prog : Program} {w : World} {A : Around} {E : Value → Shared → Prop} {s : Shared} {v : Value} {o : Obj} {H : Heap → Prop} {Q : Value → Shared → Prop} (B : Begins v o H) (h1 : H s.heap)
    (h : ∀ h', IsEnum h' (s.heap.objs.size + 1) s.heap.objs.size 0 .none → h'.get? s.heap.objs.size = some o → h'.objs.size = s.heap.objs.size + 2 →
      (∀ b o, s.heap.get? b = some o → h'.get? b = some o) → Q (.ref (s.heap.objs.size + 1)) { s with heap := h' }) :
    wpAny (model prog w) A (call (.type "enumerate") [v]) Q E s := by
  refine callType_new F.called_enumerate (by decide) (F.typeCall_enumerate_1 _) (F.newCall_enumerate_1 _) (fun obj => F.args_object_init_2 obj _) F.entry_enumerate_new
    (meets_enum1 B) ⟨h1, ?_⟩
  have hz : (s.heap.push o).objs.size = s.heap.objs.size + 1 := Heap.size_push ..
  show _ ∧ _
  rw [hz]
  have he : IsEnum ((s.heap.push o).push { cls := .type "enumerate", data := .fields #[.none, .bool false, .ref s.heap.objs.size, rawInt 0, .none, .none] }) (s.heap.objs.size + 1) s.heap.objs.size 0 .none := by
    have := Heap.get?_push_size (s.heap.push o) (o := { cls := .type "enumerate", data := .fields #[.none, .bool false, .ref s.heap.objs.size, rawInt 0, .none, .none] }) rfl
    rw [hz] at this; exact this
  refine ⟨⟨_, he, rfl⟩, h _ he (Heap.get?_push_of_some _ (Heap.get?_push_size _ B.free)) (by rw [Heap.size_push, hz]) fun b o x => Heap.get?_push_of_some _ (Heap.get?_push_of_some _ x)⟩
/-- the tuple at a, each item in a new pair -/
def IteT (K : PySem.W.Frag) (a : Addr) : It :=
  ⟨fun i H => ∃ (xs : List V) (x : V), SqT K H a xs ∧ xs[i]? = some x, fun i H v H' => ∃ T x, v = .ref T ∧ H T = none ∧ H' = upd H T (.tup [.int (i : Nat), x]) ∧ ∀ xs, SqT K H a xs → xs[i]? = some x, fun i H => ∃ xs : List V, SqT K H a xs ∧ xs.length ≤ i⟩
theorem turn_enumT {P : Program} {w : World} {K : PySem.W.Frag} {elts : List Expr} {kk : Nat} {tpos : Pos} (a e it : Addr) (hea : e ≠ a) (hia : a ≠ it) :
    Turn P w K (.Tuple elts kk tpos) (IteT K a) [e, it] e (fun i h => (∃ old, IsEnum h e it ((i : Nat) : Int) old) ∧ h.IsTupleIter it a i ∧ e ≠ it) where
  mem := by simp
  obj := fun i h st b hb => by
    obtain ⟨⟨old, he⟩, ⟨o, ho, hc, hd⟩, _⟩ := st
    have e' : b = e ∨ b = it := by simpa using hb
    rcases e' with z | z
    · rw [z]; exact ⟨_, he, fun v q => nomatch q⟩
    · rw [z]; exact ⟨o, ho, fun v q => by rw [hd] at q; cases q⟩
  keep := fun i h h' st k => let ⟨⟨old, he⟩, hi, hne⟩ := st; ⟨⟨old, k e (by simp) _ he⟩, hi.at fun o q => k it (by simp) o q, hne⟩
  item := by
    intro X hP hw hK hc i pins s σ H E I hf st hg
    subst hP hw hK
    obtain ⟨⟨old, he⟩, hit, hne⟩ := st
    obtain ⟨xs, x, hq, hx⟩ := hg
    obtain ⟨its, rv, p, hz⟩ := I.tuple hq
    obtain ⟨u, hu, ru⟩ := rv.get hx
    have hel : e < s.heap.objs.size := Heap.lt_size he
    have hil : it < s.heap.objs.size := by obtain ⟨_, q, _⟩ := hit; exact Heap.lt_size q
    have hlt : i < its.toArray.size := by
      have := (List.getElem?_eq_some_iff.mp hu).1
      simpa using this
    refine wpAny_pyNext_enum_itemD (Draws.tuple (A := X.A.in1) (I.ok.hd hc) it a hia its.toArray) he ⟨hit, p⟩ hlt hne (by simp [hne, hea]) fun y h' tk hP ho hs' hT hsz hk => ?_
    obtain ⟨hit', _⟩ := hs'
    have ey : y = u := by
      have : its[i]? = some y := by simpa using hP
      rw [hu] at this; cases this; rfl
    subst ey
    refine ⟨_, rfl, wpAny_letOwnedTupleGo_enum (s := { s with heap := h', toks := tk + 1 }) ho fun h'' he' sb => ?_⟩
    have hT2 : h''.get? s.heap.objs.size = some { cls := .type "tuple", data := .seq #[.int i tk, y] } := (sb.2 _ (Nat.ne_of_gt hel)).trans hT
    have new : ObjOk X.prog X.w (upd H s.heap.objs.size (.tup [.int (i : Nat), x])) h'' s.heap.objs.size (.tup [.int (i : Nat), x]) :=
      ⟨by show 2 ≤ sizeLine; decide, [.int i tk, y], .cons ⟨_, rfl⟩ (.cons ru .nil), ⟨_, hT2, rfl, _, rfl⟩⟩
    have I1 : Inv X pins σ (upd H s.heap.objs.size (.tup [.int (i : Nat), x])) { s with heap := h'', toks := tk + 1 } :=
      I.turnedNew (ch := [e, it]) (fun b ob hb q => (sb.2 b (fun z => hb (by simp [z]))).trans (hk b ob (fun z => hb (by simp [z])) (fun z => hb (by simp [z])) q)) hf (Nat.le_refl _) new
    refine ⟨.ref s.heap.objs.size, _, I1, rfl, ⟨_, x, rfl, I.hok.fresh (Nat.le_refl _), rfl, fun ys hy => by rw [I.tuple_inj hy hq]; exact hx⟩, ⟨⟨y, ?_⟩, hit'.at fun o q => (sb.2 it (Ne.symm hne)).trans q, hne⟩, fun b hb => ?_⟩
    · have e1 : ((i + 1 : Nat) : Int) = (i : Int) + 1 := by omega
      rw [e1]; exact he'
    · have hb' : b < s.heap.objs.size := by
        have e' : b = e ∨ b = it := by simpa using hb
        rcases e' with z | z
        · rw [z]; exact hel
        · rw [z]; exact hil
      rw [upd_ne (Nat.ne_of_lt hb')]
      exact (hf b hb).1
  done := by
    intro X hP hw hK hc i pins s σ H E I hf st hg
    subst hP hw hK
    obtain ⟨⟨old, he⟩, hit, hne⟩ := st
    obtain ⟨xs, hq, hx⟩ := hg
    obtain ⟨its, rv, p, hz⟩ := I.tuple hq
    obtain ⟨f0, f1, f2, f3, f4, f5⟩ := hf it (by simp)
    have hl := rv.length
    have hT : s.TypeIs (.ref e) "enumerate" := ⟨_, he, rfl⟩
    unfold pyNext
    refine wpAny_bind (wpAny_attempt (wpAny_callSpecial?_slot (name := Str.ofString "__next__") hT PySem.F.slot_enumerate_next
      (wpAny_call_entry PySem.F.slot_enumerate_next hT PySem.F.entry_enumerate_next ?_ (PySem.F.args_enumerate_next_1 _))))
    show wpAny _ _ (field (.ref e) 2 >>= _) _ _ _
    refine wpAny_bind (wpAny_field he rfl (x := .ref it) rfl ?_)
    refine wpAny_bind (wpAny_nextOf_tuple_end (I.ok.hd hc) hit p (by simp; omega) fun h' x he' hx' => ?_)
    obtain ⟨o, ho, hc⟩ := hx'
    refine wpAny_bind (wpAny_isInstance (T := "StopIteration") (b := true) ⟨o, ho, hc⟩ isSubtype_stop ?_)
    exact wpAny_pure ⟨rfl, I.turned (t' := s.toks) (fun b o hb q => he' b o hb q) f0 f1 f3 f4 f5⟩
  self := fun A i s Q E st h => let ⟨⟨_, he⟩, _⟩ := st; wpAny_pyIter_enum he h
def iEnumA (K : PySem.W.Frag) (ta : TA) : TI := fun σ H R => ta σ H fun vs H1 => ∃ a xs, vs = [.ref a] ∧ ((SqL K H1 a xs ∧ R (Ite K a) H1) ∨ (SqT K H1 a xs ∧ R (IteT K a) H1))
theorem pi_enumA {X : Cx} {e : Expr} {ta : TA} {p pos tpos : Pos} {elts : List Expr} {kk : Nat} (hg : Gl X "enumerate") (hm : X.mg "enumerate" = none) (ha : PA X [e] ta) (hs : starEach [e] X.env = [(false, eval e X.env)]) :
    PI X (.Tuple elts kk tpos) (.Call (.Name "enumerate" p) [e] [] pos) (iEnumA X.K ta) := by
  refine ⟨fun pins s σ H R I h => ?_⟩
  refine Call_ (ld_blt I hg hm boot_enumerate (PyProof.Rows.callWith_type1 (thn (ha.run pos pins s σ H _ I h) fun us s1 ⟨vs, H1, I1, r1, q1⟩ => ?_) hs rfl))
  obtain ⟨a, xs, ex, q⟩ := q1
  subst ex
  cases r1 with
  | cons r rr =>
    cases rr
    cases r
    have fresh : ∀ b, b ∈ [s1.heap.objs.size + 1, s1.heap.objs.size] → FpOk X pins H1 b := fun b hb => by
      have e' : b = s1.heap.objs.size + 1 ∨ b = s1.heap.objs.size := by simpa using hb
      have hle : s1.heap.objs.size ≤ b := by
        rcases e' with z | z
        · rw [z]; exact Nat.le_add_right _ _
        · rw [z]; exact Nat.le_refl _
      exact I1.fpOk hle (I1.hok.fresh hle)
    rcases q with ⟨hq, q⟩ | ⟨hq, q⟩
    · obtain ⟨its, rv, p', hz⟩ := I1.list hq
      refine call_enumerate_list p'.isList fun h' he hit hsz hk => wpAny_pyIter_enum he ?_
      have I2 : Inv X pins σ H1 { s1 with heap := h' } := I1.kept (t' := s1.toks) hk
      exact ⟨s1.heap.objs.size + 1, [s1.heap.objs.size + 1, s1.heap.objs.size], _, _, H1, rfl, I2, turn_enum a (s1.heap.objs.size + 1) s1.heap.objs.size, ⟨⟨.none, he⟩, hit, Nat.succ_ne_self _⟩, fresh, q⟩
    · obtain ⟨its, rv, p', hz⟩ := I1.tuple hq
      obtain ⟨o1, ho1, _⟩ := id p'
      have la := Heap.lt_size ho1
      refine call_enum1 (PySem.begins_tuple a its.toArray) p' fun h' he hit hsz hk => wpAny_pyIter_enum he ?_
      have I2 : Inv X pins σ H1 { s1 with heap := h' } := I1.kept (t' := s1.toks) hk
      exact ⟨s1.heap.objs.size + 1, [s1.heap.objs.size + 1, s1.heap.objs.size], _, _, H1, rfl, I2, turn_enumT a (s1.heap.objs.size + 1) s1.heap.objs.size (Nat.ne_of_gt (Nat.lt_succ_of_lt la)) (Nat.ne_of_lt la), ⟨⟨.none, he⟩, ⟨_, hit, rfl, rfl⟩, Nat.succ_ne_self _⟩, fresh, q⟩
section
variable {G : Gt} {fs : List Fn} {N : List Str} {K : PySem.W.Frag} {ρ : List Addr} {H : Hp} {a : Addr} {vs : List V} {i : Nat}
theorem enumD_get : ∀ {xs : List D} {m n : Nat} {d : D}, (enumD m xs)[n]? = some d → ∃ x, xs[n]? = some x ∧ d = .tup [.int ((m + n : Nat)), x]
  | [], _, _, _, h => by simp [enumD] at h
  | x :: xs, m, 0, d, h => by
    simp only [enumD, List.getElem?_cons_zero, Option.some.injEq] at h
    exact ⟨x, rfl, h.symm⟩
  | x :: xs, m, n + 1, d, h => by
    simp only [enumD, List.getElem?_cons_succ] at h
    obtain ⟨y, h1, h2⟩ := enumD_get h
    exact ⟨y, by simpa using h1, by rw [h2]; congr 3; omega⟩
theorem enumD_len : ∀ (xs : List D) (m : Nat), (enumD m xs).length = xs.length
  | [], _ => rfl
  | x :: xs, m => by simp [enumD, enumD_len xs]
theorem jr_enumL {xs : List D} (hi : ρ[i]? = some a) : JR K ⟨enumD 0 xs, some (i, .lst xs)⟩ ρ H (Ite K a) := by
  intro n ρ1 H1 st1 w S ok
  have e : st1[i]? = some (.lst xs) := by simpa [Src.ok] using ok
  obtain ⟨b, eb, vs, ha, ra⟩ := S.get e
  have := w.pre _ _ hi
  rw [this] at eb; cases eb
  have sq : SqL K H1 a vs := SqL.of ha
  refine ⟨fun h => ⟨vs, sq, by rw [← ra.length]; rw [enumD_len] at h; exact h⟩, fun d hd => ?_⟩
  obtain ⟨x, hx, rfl⟩ := enumD_get hd
  obtain ⟨v, ev, rv⟩ := ra.get hx
  refine ⟨⟨vs, v, sq, ev⟩, ?_⟩
  rintro y H2 ⟨T, x', rfl, hT, rfl, h⟩
  have := h vs sq
  rw [ev] at this; cases this
  have w2 : Wle K ρ1 H1 ρ1 (upd H1 T (.tup [.int (n : Nat), v])) := Wle.newT hT _
  refine ⟨S.newT hT _, w2, .tup (.inl (.inl upd_same)) (.cons ?_ (.cons (rv.up w2) .nil))⟩
  rw [Nat.zero_add]; exact .int _
theorem jr_enumT {xs : List D} (ha : SqT K H a vs) (ra : RDs K ρ H xs vs) : JR K ⟨enumD 0 xs, none⟩ ρ H (IteT K a) := by
  intro n ρ1 H1 st1 w S _
  have sq := w.tup _ _ ha
  have ra := ra.up w
  refine ⟨fun h => ⟨vs, sq, by rw [← ra.length]; rw [enumD_len] at h; exact h⟩, fun d hd => ?_⟩
  obtain ⟨x, hx, rfl⟩ := enumD_get hd
  obtain ⟨v, ev, rv⟩ := ra.get hx
  refine ⟨⟨vs, v, sq, ev⟩, ?_⟩
  rintro y H2 ⟨T, x', rfl, hT, rfl, h⟩
  have := h vs sq
  rw [ev] at this; cases this
  have w2 : Wle K ρ1 H1 ρ1 (upd H1 T (.tup [.int (n : Nat), v])) := Wle.newT hT _
  refine ⟨S.newT hT _, w2, .tup (.inl (.inl upd_same)) (.cons ?_ (.cons (rv.up w2) .nil))⟩
  rw [Nat.zero_add]; exact .int _
theorem snd_itE {e : Ex} (ie : Snd G fs N e) : Snd G fs N (.itE e) := by
  refine .ofW (fun _ _ => rfl) (fun _ _ => rfl) (fun _ _ _ => rfl) (fun _ _ _ => rfl) (fun _ _ => rfl) (fun _ _ => rfl) ?_
  intro n X sc x tg W hsc h
  subst hsc
  simp only [ck, Bool.and_eq_true] at h
  obtain ⟨h0, h⟩ := h
  split at h0
  · split at h
    · simp only [Bool.and_eq_true, decide_eq_true_eq] at h
      obtain ⟨⟨⟨rfl, h1⟩, h2⟩, h3⟩ := h
      refine PI.weak (pi_enumA (gl_of h1) (W.bis _ (by decide +kernel)) (pa_cons (ie.e W rfl h3).1 pa_nil (star_of h2 _ _)) (by rw [star_of h2]; rfl)) fun σ H R q => ?_
      obtain ⟨ρ, l, st, L, S, q⟩ := q
      refine eR_of L S q fun d st1 ρ1 H1 v w1 L1 S1 r1 q => ?_
      split at q
      · obtain ⟨a, vs, rfl, ha, ra⟩ := r1.tup_inv
        exact ⟨a, vs, rfl, .inr ⟨ha, q ρ1 H1 _ w1 S1 (jr_enumT ha ra)⟩⟩
      · obtain ⟨a, rfl, ea⟩ := r1.obj_inv
        split at q
        · rename_i hi
          obtain ⟨_, ea', vs, ha, ra⟩ := S1.get hi
          rw [ea] at ea'; cases ea'
          exact ⟨a, vs, rfl, .inl ⟨SqL.of ha, q ρ1 H1 _ w1 S1 (jr_enumL ea)⟩⟩
        · exact q.elim
      · exact q.elim
    · cases h
  · cases h0
/-! isinstance of several types -/
theorem names_any {X : Cx} {n : Nat} (W : Wd G fs n N X) : ∀ {ts : List Ty} {zs : List Expr}, tysB X.env.scope ts zs = true → ∃ ta, PA X zs ta ∧ ∀ σ H Q, Q (ts.map fun t => V.ty (tyStr t)) H → ta σ H Q
  | [], [], _ => ⟨_, pa_nil, fun σ H Q q => q⟩
  | [], _ :: _, h => by simp [tysB] at h
  | _ :: _, [], h => by simp [tysB] at h
  | t :: ts, z :: zs, h => by
    cases z with
    | Name x p =>
      simp only [tysB, Bool.and_eq_true, decide_eq_true_eq] at h
      obtain ⟨⟨rfl, h2⟩, h3⟩ := h
      obtain ⟨ta, h4, h5⟩ := names_any W h3
      obtain ⟨t1, t2, t3⟩ := tyName_ok t
      obtain ⟨o1, o2, o3⟩ := okN_of t2
      have ty : PE X (.Name (tyName t) p) (tC (.ty (tyStr t))) := pe_bltn (gl_of h2) (W.bis _ t1) t3 rfl o3 o1
      exact ⟨_, pa_cons ty h4 rfl, fun σ H Q q => h5 σ H _ q⟩
    | _ => simp [tysB] at h
theorem isi_all {st : Sto} {x : D} {v : V} {t0 : Ty} {b0 : Bool} (S : SR K ρ st H) (r : RD K ρ H x v) (e0 : isTy t0 x st = some b0) : ∃ ty : Value, TyX K H v ty ∧ ∀ t b, isTy t x st = some b → PySem.W.kitOne K ty (.type (tyStr t)) = some b := by
  have kk := fun t => kit_all t
  cases x with
  | non => cases r; exact ⟨_, .base .non, fun t b e => by cases e; exact kit_ty (kk t).1⟩
  | bl c => cases r; exact ⟨_, .base (.bl _), fun t b e => by cases e; exact kit_ty (kk t).2.1⟩
  | int c => cases r; exact ⟨_, .base (.int _), fun t b e => by cases e; exact kit_ty (kk t).2.2.1⟩
  | str c => cases r.str_inv; exact ⟨_, .base (.str _), fun t b e => by cases e; exact kit_ty (kk t).2.2.2.1⟩
  | tup c =>
    obtain ⟨a, vs, rfl, ha, ra⟩ := r.tup_inv
    rcases ha with (h | ⟨o, h⟩) | ⟨o, its, n, h1, h2, _⟩
    · exact ⟨_, .base (.tup h), fun t b e => by cases e; exact kit_ty (kk t).2.2.2.2.1⟩
    · exact ⟨_, .fTuple h, fun t b e => by cases e; exact kit_ty (kk t).2.2.2.2.1⟩
    · exact ⟨_, .kTuple h1 h2, fun t b e => by cases e; exact kit_ty (kk t).2.2.2.2.1⟩
  | kl c =>
    obtain ⟨a, vs, rfl, ha, ra⟩ := r.kl_inv
    rcases ha with ⟨o, h⟩ | ⟨o, its, n, h1, h2, _⟩
    · exact ⟨_, .base (.frz h), fun t b e => by cases e; exact kit_ty (kk t).2.2.2.2.2.1⟩
    · exact ⟨_, .kList h1 h2, fun t b e => by cases e; exact kit_ty (kk t).2.2.2.2.2.1⟩
  | obj i =>
    obtain ⟨a, rfl, ea⟩ := r.obj_inv
    simp only [isTy] at e0 ⊢
    split at e0
    · rename_i hi
      obtain ⟨_, ea', vs, ha, ra⟩ := S.get hi
      rw [ea] at ea'; cases ea'
      refine ⟨_, .base (.lst ha), fun t b e => ?_⟩
      cases e
      exact kit_ty (kk t).2.2.2.2.2.1
    · rename_i hi
      obtain ⟨_, ea', vs, ha, ra⟩ := S.get hi
      rw [ea] at ea'; cases ea'
      refine ⟨_, .base (.dK ha), fun t b e => ?_⟩
      cases e
      exact kit_ty (kk t).2.2.2.2.2.2
    · cases e0
theorem kit_any {st : Sto} {x : D} {ty : Value} (h : ∀ t b, isTy t x st = some b → PySem.W.kitOne K ty (.type (tyStr t)) = some b) : ∀ {ts : List Ty} {bs : List Bool}, optAll (fun t => isTy t x st) ts = some bs → PySem.W.kitAny K ty (ts.map fun t => Value.type (tyStr t)) = some (bs.any _root_.id)
  | [], _, e => by cases e; rfl
  | t :: ts, bs, e => by
    unfold optAll at e
    split at e
    · rename_i b bs' e1 e2
      cases e
      have k := h _ _ e1
      have ih := kit_any h e2
      simp only [List.map_cons, PySem.W.kitAny, k]
      cases b with
      | true => simp
      | false => simpa using ih
    · cases e
theorem clsv_all : ∀ ts : List Ty, Paired ClsV (ts.map fun t => V.ty (tyStr t)) (ts.map fun t => Value.type (tyStr t))
  | [] => .nil
  | t :: ts => .cons (.ty _) (clsv_all ts)
theorem snd_isiM {a : Ex} (ts : List Ty) (ia : Snd G fs N a) : Snd G fs N (.isiM a ts) := by
  refine .ofE (fun _ _ => rfl) (fun _ _ => rfl) (fun _ _ _ => rfl) (fun _ _ _ => rfl) (fun _ _ => rfl) (fun _ _ => rfl) ?_
  intro n X sc e W hsc h
  subst hsc
  simp only [ck] at h
  split at h
  · rename_i x p y zs k tq pos
    simp only [Bool.and_eq_true, decide_eq_true_eq] at h
    obtain ⟨⟨⟨⟨rfl, h2⟩, h4⟩, h5⟩, h6⟩ := h
    obtain ⟨ta, t1, t2⟩ := names_any W h4
    have args := pa_cons (ia.e W rfl h6).1 (pa_cons (pe_tup (x1 := k) (pos := tq) t1) pa_nil rfl) (star_of h5 _ _)
    refine plainE (PE.weak (pe_callB call_isiT (gl_of h2) (W.bis _ (by decide +kernel)) (by decide +kernel) args (by decide) (by decide) (star_of h5 _ _) rfl) fun σ H Q q => ?_) (fun _ => rfl) rfl
    obtain ⟨ρ, l, st, L, S, q⟩ := q
    refine eR_of L S q fun x st1 ρ1 H1 v w1 L1 S1 r1 q7 => ?_
    split at q7
    · rename_i bs hb
      split at q7
      · rename_i hl
        refine t2 _ _ _ ⟨by rw [sizeLine_eq, List.length_map]; omega, fun p hp => ?_⟩
        have w2 : Wle X.K ρ1 H1 ρ1 (upd H1 p (.tup (ts.map fun t => V.ty (tyStr t)))) := Wle.newT hp _
        cases ts with
        | nil =>
          simp at hl
        | cons t ts =>
          have : ∃ b0, isTy t x st1 = some b0 := by
            unfold optAll at hb
            split at hb
            · rename_i e1 e2; exact ⟨_, e1⟩
            · cases hb
          obtain ⟨b0, e0⟩ := this
          obtain ⟨ty, k1, k2⟩ := isi_all (S1.newT hp _) (r1.up w2) e0
          exact ⟨v, p, _, ty, _, _, rfl, upd_same, clsv_all _, k1, kit_any k2 hb, q7 ρ1 _ _ (w1.trans w2) (S1.newT hp _) (.bl _)⟩
      · exact q7.elim
    · exact q7.elim
  · cases h
end
end Z

/-! ZNew: further terms: dict.get, list(d.items()), isinstance of types, enumerate, walks over dicts. -/
namespace Z
open PySem L2 PySem.Spec PyProof.Rows
section
variable {G : Gt} {fs : List Fn} {N : List Str}
theorem dget_of {K : PySem.W.Frag} {ρ : List Addr} {H : Hp} {kvs : List (Ky × D)} {ws : List (Key × V)} {a : Addr} {y : D} {v : V} {q : Ky} (ha : H a = some (.dK ws)) (ra : RKs K ρ H kvs ws) (ry : RD K ρ H y v) (hq : y.key = some q) :
    ∃ o, DGet H a v o ∧ (∀ d, lookK kvs q = some d → ∃ w, o = some w ∧ RD K ρ H d w) ∧ (lookK kvs q = none → o = none) := by
  have kk := key_V ry hq
  subst kk
  refine ⟨_, DGet.k ha, fun d hd => ?_, fun hn => ?_⟩
  · obtain ⟨w, e1, r1⟩ := (look_V ra q).1 _ hd
    exact ⟨w, e1, r1⟩
  · exact (look_V ra q).2 hn
theorem getD_post {K : PySem.W.Frag} {ρ : List Addr} {H : Hp} {st : Sto} {x y z : D} {xv yv zv : V} {Q : VK} {F : D → Sto → Prop} (S : SR K ρ st H) (rx : RD K ρ H x xv) (ry : RD K ρ H y yv) (rz : RD K ρ H z zv) (h : (getD x y z st).post (Kont K ρ H Q) F) :
    ∀ a, xv = .ref a → ∃ o, DGet H a yv o ∧ Q (o.getD zv) H := by
  intro a ea
  unfold getD at h
  split at h
  · rename_i kvs e
    obtain ⟨a', ws, e', ha, ra⟩ := dct_of S rx e
    rw [ea] at e'; cases e'
    split at h
    · rename_i q hq
      obtain ⟨o, g, h1, h2⟩ := dget_of ha ra ry hq
      refine ⟨o, g, ?_⟩
      cases hl : lookK kvs q with
      | none =>
        rw [hl] at h
        rw [h2 hl]
        exact h _ _ _ Wle.refl S rz
      | some d =>
        rw [hl] at h
        obtain ⟨w, rfl, rw⟩ := h1 d hl
        exact h _ _ _ Wle.refl S rw
    · exact h.elim
  · exact h.elim
theorem isD_of {K : PySem.W.Frag} {ρ : List Addr} {H : Hp} {st : Sto} {x : D} {xv : V} (S : SR K ρ st H) (rx : RD K ρ H x xv) (h : (dct? st x).isSome = true) : ∃ a, xv = .ref a ∧ IsD H a := by
  obtain ⟨kvs, e⟩ := Option.isSome_iff_exists.mp h
  obtain ⟨a, ws, rfl, ha, ra⟩ := dct_of S rx e
  exact ⟨a, rfl, .inl ⟨ws, rd_of ha⟩⟩
theorem snd_get1 {o k : Ex} (io : Snd G fs N o) (ik : Snd G fs N k) : Snd G fs N (.get1 o k) := by
  refine .ofE (fun _ _ => rfl) (fun _ _ => rfl) (fun _ _ _ => rfl) (fun _ _ _ => rfl) (fun _ _ => rfl) (fun _ _ => rfl) ?_
  intro n X sc e W hsc h
  simp only [ck] at h
  split at h
  · rename_i x nm p y q
    simp only [Bool.and_eq_true, decide_eq_true_eq] at h
    obtain ⟨⟨⟨⟨⟨rfl, h1⟩, h2⟩, h3⟩, h4⟩, h5⟩ := h
    refine plainE (PE.weak (pe_dget1 W.hu (io.e W hsc h4).1 (ik.e W hsc h5).1 ⟨base_of h2 "get" X.env, ?_, by rw [h1]; exact beq_self_eq_true _, ?_⟩) fun σ H Q q => ?_) (fun _ => rfl) rfl
    · rw [star_of h3]; rfl
    · rw [star_of h3]; rfl
    · obtain ⟨ρ, l, st, L, S, q⟩ := q
      refine eR_of L S q fun x st1 ρ1 H1 v w1 L1 S1 r1 q => ?_
      split at q
      · rename_i hd
        obtain ⟨a, rfl, da⟩ := isD_of S1 r1 hd
        refine ⟨a, rfl, da, eR_of L1 S1 q fun y st2 ρ2 H2 u w2 L2' S2 r2 q => ?_⟩
        exact getD_post S2 (r1.up w2) r2 .non (R.post_mono q (fun _ _ (q : Kont X.K ρ H Q _ _) => q.up (w1.trans w2)) fun _ _ x => x) a rfl
      · exact q.elim
  · cases h
theorem snd_get2 {o k d : Ex} (io : Snd G fs N o) (ik : Snd G fs N k) (id : Snd G fs N d) : Snd G fs N (.get2 o k d) := by
  refine .ofE (fun _ _ => rfl) (fun _ _ => rfl) (fun _ _ _ => rfl) (fun _ _ _ => rfl) (fun _ _ => rfl) (fun _ _ => rfl) ?_
  intro n X sc e W hsc h
  simp only [ck] at h
  split at h
  · rename_i x nm p y z q
    simp only [Bool.and_eq_true, decide_eq_true_eq] at h
    obtain ⟨⟨⟨⟨⟨⟨⟨rfl, h1⟩, h2⟩, h3⟩, h3'⟩, h4⟩, h5⟩, h6⟩ := h
    refine plainE (PE.weak (pe_dget2 W.hu (io.e W hsc h4).1 (ik.e W hsc h5).1 (id.e W hsc h6).1 ⟨base_of h2 "get" X.env, ?_, by rw [h1]; exact beq_self_eq_true _, ?_⟩) fun σ H Q q => ?_) (fun _ => rfl) rfl
    · rw [star_of h3, star_of h3']; rfl
    · rw [star_of h3, star_of h3']; rfl
    · obtain ⟨ρ, l, st, L, S, q⟩ := q
      refine eR_of L S q fun x st1 ρ1 H1 v w1 L1 S1 r1 q => ?_
      split at q
      · rename_i hd
        obtain ⟨a, rfl, da⟩ := isD_of S1 r1 hd
        refine ⟨a, rfl, da, eR_of L1 S1 q fun y st2 ρ2 H2 u w2 L2' S2 r2 q => eR_of L2' S2 q fun z st3 ρ3 H3 v3 w3 L3 S3 r3 q => ?_⟩
        exact getD_post S3 ((r1.up w2).up w3) (r2.up w3) r3 (R.post_mono q (fun _ _ (q : Kont X.K ρ H Q _ _) => q.up ((w1.trans w2).trans w3)) fun _ _ x => x) a rfl
      · exact q.elim
  · cases h
theorem snd_rai : Snd G fs N .rai := by
  refine .ofS (fun _ _ => rfl) (fun _ _ => rfl) (fun _ _ => rfl) (fun _ _ _ => rfl) (fun _ _ _ => rfl) (fun _ _ => rfl) ?_
  intro n X sc st W hsc hf hp h
  exact PS.weak ps_never fun D σ H q => by
    obtain ⟨ρ, l, st, L, S, q⟩ := q
    exact q.elim
/-- a dict stands locked while a statement runs -/
theorem snd_lockS {a : Ex} (i : Nat) (ia : Snd G fs N a) : Snd G fs N (.lockS i a) := by
  refine .ofS (fun _ _ => rfl) (fun _ _ => rfl) (fun _ _ => rfl) (fun _ _ _ => rfl) (fun _ _ _ => rfl) (fun _ _ => rfl) ?_
  intro n X sc st W hsc hf hp h
  simp only [ck] at h
  refine PS.weak (ps_lock (ia.s W hsc hf hp h)) fun D σ H q => ?_
  obtain ⟨ρ, l, st, L, S, q⟩ := q
  simp only [sem] at q
  split at q
  · rename_i k hl
    split at q
    · rename_i kvs hk
      obtain ⟨v, e1, r⟩ := L.at_ _ _ hl
      obtain ⟨a, rfl, ea⟩ := r.obj_inv
      obtain ⟨_, ea', ws, ha, ra⟩ := S.get hk
      rw [ea] at ea'; cases ea'
      refine ⟨a, .dK ws, ha, trivial, fun od => ?_⟩
      have w0 : Wle X.K ρ H ρ (upd H a (.frz od (.dK ws))) := Wle.chg ha (fun _ q => by cases q) (fun _ _ q => by cases q) _
      obtain ⟨S1, _⟩ := S.chg (o' := .dctL kvs) (u' := .frz od (.dK ws)) ea hk ⟨od, ws, upd_same, ra.up w0⟩
      refine ⟨ρ, l, setO k (.dctL kvs) st, L.up w0, S1, ?_⟩
      refine R.post_mono (R.post_bind.mp q) (fun r st2 h2 ρ' H' σ' w S2 L2' => ?_) fun _ _ x => x
      split at h2
      · rename_i hk2
        have h1 : H' a = some (.frz od (.dK ws)) := w.fd _ _ _ upd_same
        have hi : ρ'[k]? = some a := w.pre _ _ ea
        have wt : ∀ (b : Addr) (xs : List V), SqT X.K H' b xs → SqT X.K (upd H' a (.dK ws)) b xs := fun b xs h => sqT_upd h fun u e => by
          rw [h1] at e; cases e
          exact ⟨fun _ q => (by cases q), fun _ _ q => (by cases q)⟩
        have wf : ∀ (b : Addr) (xs : List V), FL X.K H' b xs → FL X.K (upd H' a (.dK ws)) b xs := fun b xs h => by
          rcases h with ⟨ob, h⟩ | h
          · have : b ≠ a := by rintro rfl; rw [h1] at h; cases h
            exact .inl ⟨ob, by rw [upd_ne this]; exact h⟩
          · exact .inr h
        have wu := Wle.unlock ha w h1
        have Su := SR.unlock ha S2 w hi h1 ra
        have Lu : LR X.K ρ' (upd H' a (.dK ws)) r.2 σ' := ⟨L2'.len, fun j d e => let ⟨v, q, r⟩ := L2'.at_ j d e; ⟨v, q, r.chg (fun _ _ h => h) wt wf⟩⟩
        have fin := h2 ρ' (upd H' a (.dK ws)) σ' wu Su Lu
        cases hr : r.1 with
        | nx => rw [hr] at fin; exact ⟨h1, fin⟩
        | brk => rw [hr] at fin; exact ⟨h1, fin⟩
        | cnt => rw [hr] at fin; exact ⟨h1, fin⟩
        | ret d => rw [hr] at fin; exact fun v rv => ⟨h1, fin v (rv.chg (fun _ _ h => h) wt wf)⟩
      · exact h2.elim
    · exact q.elim
  · exact q.elim
theorem snd_lockE {a : Ex} (i : Nat) (ia : Snd G fs N a) : Snd G fs N (.lockE i a) := by
  refine .ofE (fun _ _ => rfl) (fun _ _ => rfl) (fun _ _ _ => rfl) (fun _ _ _ => rfl) (fun _ _ => rfl) (fun _ _ => rfl) ?_
  intro n X sc e W hsc h
  simp only [ck, Bool.and_eq_true] at h
  have key : PE X e (eR (K := X.K) E0 (sem (callN fs n) (.lockE i a)).e) := by
    refine PE.weak (pe_lock (ia.e W hsc h.2).1) fun σ H Q q => ?_
    obtain ⟨ρ, l, st, L, S, q⟩ := q
    simp only [sem] at q
    split at q
    · rename_i k hl
      split at q
      · rename_i kvs hk
        obtain ⟨v, e1, r⟩ := L.at_ _ _ hl
        obtain ⟨a, rfl, ea⟩ := r.obj_inv
        obtain ⟨_, ea', ws, ha, ra⟩ := S.get hk
        rw [ea] at ea'; cases ea'
        refine ⟨a, .dK ws, ha, trivial, fun od => ?_⟩
        have w0 : Wle X.K ρ H ρ (upd H a (.frz od (.dK ws))) := Wle.chg ha (fun _ q => by cases q) (fun _ _ q => by cases q) _
        obtain ⟨S1, _⟩ := S.chg (o' := .dctL kvs) (u' := .frz od (.dK ws)) ea hk ⟨od, ws, upd_same, ra.up w0⟩
        refine ⟨ρ, l, setO k (.dctL kvs) st, L.up w0, S1, ?_⟩
        refine R.post_mono (R.post_bind.mp q) (fun r st2 h2 ρ' H' v w S2 rv => ?_) fun _ _ x => x
        split at h2
        · rename_i hk2
          have h1 : H' a = some (.frz od (.dK ws)) := w.fd _ _ _ upd_same
          have hi : ρ'[k]? = some a := w.pre _ _ ea
          have wt : ∀ (b : Addr) (xs : List V), SqT X.K H' b xs → SqT X.K (upd H' a (.dK ws)) b xs := fun b xs h => sqT_upd h fun u e => by
            rw [h1] at e; cases e
            exact ⟨fun _ q => (by cases q), fun _ _ q => (by cases q)⟩
          have wf : ∀ (b : Addr) (xs : List V), FL X.K H' b xs → FL X.K (upd H' a (.dK ws)) b xs := fun b xs h => by
            rcases h with ⟨ob, h⟩ | h
            · have : b ≠ a := by rintro rfl; rw [h1] at h; cases h
              exact .inl ⟨ob, by rw [upd_ne this]; exact h⟩
            · exact .inr h
          exact ⟨h1, h2 ρ' (upd H' a (.dK ws)) v (Wle.unlock ha w h1) (SR.unlock ha S2 w hi h1 ra) (rv.chg (fun _ _ h => h) wt wf)⟩
        · exact h2.elim
      · exact q.elim
    · exact q.elim
  have he := h.1
  unfold isLc at he
  split at he
  · exact plainE key (fun _ => rfl) rfl
  · exact plainE key (fun _ => rfl) rfl
  · cases he
/-! list(d.items()) -/
theorem paired_mono {α β : Type} {F G : α → β → Prop} (h : ∀ a b, F a b → G a b) : ∀ {xs : List α} {ys : List β}, Paired F xs ys → Paired G xs ys
  | _, _, .nil => .nil
  | _, _, .cons a r => .cons (h _ _ a) (paired_mono h r)
theorem rds_items {K : PySem.W.Frag} {ρ : List Addr} {H : Hp} : ∀ {kvs : List (Ky × D)} {ws : List (Key × V)} {ts : List Addr}, RKs K ρ H kvs ws → Paired (fun (t : Addr) (q : Key × V) => H t = some (.tup [kV q.1, q.2])) ts ws → RDs K ρ H (kvs.map fun kv => D.tup [keyD kv.1, kv.2]) (ts.map V.ref)
  | _, _, _, .nil, h => by cases h; exact .nil
  | _, _, _, .cons r1 r2, h => by
    cases h with
    | cons h1 h2 => exact .cons (.tup (.inl (.inl h1)) (.cons (rd_key _) (.cons r1 .nil))) (rds_items r2 h2)
theorem snd_lsI {a : Ex} (ia : Snd G fs N a) : Snd G fs N (.lsI a) := by
  refine .ofE (fun _ _ => rfl) (fun _ _ => rfl) (fun _ _ _ => rfl) (fun _ _ _ => rfl) (fun _ _ => rfl) (fun _ _ => rfl) ?_
  intro n X sc e W hsc h
  subst hsc
  simp only [ck] at h
  split at h
  · rename_i z q1 y nm p q q2
    simp only [Bool.and_eq_true, decide_eq_true_eq] at h
    obtain ⟨⟨⟨⟨⟨rfl, h1⟩, rfl⟩, h2⟩, h3⟩, h4⟩ := h
    refine plainE (PE.weak (LiI.pe_listItems W.calm (ia.e W rfl h4).1 (gl_of h1) (W.bis _ (by decide +kernel)) (by decide +kernel) (base_of h3 "items" X.env) (by rw [h2]; exact beq_self_eq_true _)) fun σ H Q q => ?_) (fun _ => rfl) rfl
    obtain ⟨ρ, l, st, L, S, q⟩ := q
    refine eR_of L S q fun x st1 ρ1 H1 v w1 L1 S1 r1 q => ?_
    split at q
    · rename_i kvs hk
      obtain ⟨a, ws, rfl, ha, ra⟩ := dct_of S1 r1 hk
      refine ⟨a, ws, rfl, ha, fun H' p ts k1 k2 k3 k4 k5 k6 => ?_⟩
      -- the old things stay
      have w2 : Wle X.K ρ1 H1 (ρ1 ++ [p]) H' := by
        refine ⟨fun i a h => ?_, fun a xs h => ?_, fun a xs h => ?_, fun a o ws h => k1 _ _ h⟩
        · rw [List.getElem?_append_left (List.getElem?_eq_some_iff.mp h).1]; exact h
        · rcases h with (h | ⟨ob, h⟩) | h
          · exact .inl (.inl (k1 _ _ h))
          · exact .inl (.inr ⟨ob, k1 _ _ h⟩)
          · exact .inr h
        · rcases h with ⟨ob, h⟩ | h
          · exact .inl ⟨ob, k1 _ _ h⟩
          · exact .inr h
      have S2 : SR X.K (ρ1 ++ [p]) (st1 ++ [.lst (kvs.map fun kv => .tup [keyD kv.1, kv.2])]) H' := by
        have hl := S1.len
        have key : ∀ (i : Nat) a, (ρ1 ++ [p])[i]? = some a → (ρ1[i]? = some a) ∨ (i = ρ1.length ∧ a = p) := fun i a e => by
          by_cases hi : i < ρ1.length
          · rw [List.getElem?_append_left hi] at e; exact .inl e
          · rw [List.getElem?_append_right (by omega)] at e
            have : i - ρ1.length = 0 := by
              have := (List.getElem?_eq_some_iff.mp e).1
              simp at this; omega
            rw [this] at e
            simp at e
            exact .inr ⟨by omega, e.symm⟩
        refine ⟨by simp [hl], fun i j a h1 h2 => ?_, fun i q a h1 h2 => ?_⟩
        · rcases key i a h1 with q1 | ⟨q1, e1⟩ <;> rcases key j a h2 with q2 | ⟨q2, e2⟩
          · exact S1.nd i j a q1 q2
          · exact absurd e2 (S1.ne q1 k2)
          · exact absurd e1 (S1.ne q2 k2)
          · omega
        · rcases key i a h2 with h2 | ⟨q2, rfl⟩
          · have : i < st1.length := by rw [← hl]; exact (List.getElem?_eq_some_iff.mp h2).1
            rw [List.getElem?_append_left this] at h1
            have o := S1.ats i q a h1 h2
            obtain ⟨u, hu⟩ := o.there
            exact o.up ((k1 _ _ hu).trans hu.symm) w2
          · subst q2
            rw [List.getElem?_append_right (by omega), hl] at h1
            simp at h1
            subst h1
            exact ⟨_, k5, rds_items (ra.up w2) k6⟩
      exact q _ _ _ (w1.trans w2) S2 (.obj (by rw [← S1.len]; simp))
    · exact q.elim
  · cases h
end
end Z

/-! ZTop: statements; all terms; a def by its term. -/
namespace Z
open PySem L2 PySem.Spec PyProof.Rows
variable {G : Gt} {fs : List Fn} {N : List Str} {m : Ex}
theorem noSwap {e : Expr} (h : noComp e = true) (t : Option Expr) (k : Nat) (env : Env) : swapsWith e t k env = pure false := by
  cases e <;> first | rfl | (simp [noComp] at h)
theorem snd_expr {e : Ex} (ie : Snd G fs N e) : Snd G fs N (.expr e) := by
  refine .ofS (fun _ _ => rfl) (fun _ _ => rfl) (fun _ _ => rfl) (fun _ _ _ => rfl) (fun _ _ _ => rfl) (fun _ _ => rfl) ?_
  intro n X sc st W hsc hf hp h
  simp only [ck] at h
  split at h
  · simp only [Bool.and_eq_true] at h
    exact PS.weak (ps_expr (ie.e W hsc h.2).1 (noSwap h.1 _ _ _)) fun _ _ _ q => s_expr q
  · cases h
theorem snd_ret {e : Ex} (ie : Snd G fs N e) : Snd G fs N (.ret e) := by
  refine .ofS (fun _ _ => rfl) (fun _ _ => rfl) (fun _ _ => rfl) (fun _ _ _ => rfl) (fun _ _ _ => rfl) (fun _ _ => rfl) ?_
  intro n X sc st W hsc hf hp h
  simp only [ck] at h
  split at h
  · exact PS.weak (ps_ret (ie.e W hsc h).1) fun _ _ _ q => s_ret q
  · cases h
theorem snd_retN : Snd G fs N .retN := by
  refine .ofS (fun _ _ => rfl) (fun _ _ => rfl) (fun _ _ => rfl) (fun _ _ _ => rfl) (fun _ _ _ => rfl) (fun _ _ => rfl) ?_
  intro n X sc st W hsc hf hp h
  simp only [ck] at h
  split at h
  · exact PS.weak ps_retN fun _ _ _ q => s_retN q
  · cases h
theorem snd_pass : Snd G fs N .pass := by
  refine .ofS (fun _ _ => rfl) (fun _ _ => rfl) (fun _ _ => rfl) (fun _ _ _ => rfl) (fun _ _ _ => rfl) (fun _ _ => rfl) ?_
  intro n X sc st W hsc hf hp h
  simp only [ck] at h
  split at h
  · exact PS.weak ps_pass fun _ _ _ q => s_nil q
  · cases h
theorem snd_brk : Snd G fs N .brk := by
  refine .ofS (fun _ _ => rfl) (fun _ _ => rfl) (fun _ _ => rfl) (fun _ _ _ => rfl) (fun _ _ _ => rfl) (fun _ _ => rfl) ?_
  intro n X sc st W hsc hf hp h
  simp only [ck] at h
  split at h
  · exact PS.weak ps_break fun _ _ _ q => s_brk q
  · cases h
theorem snd_cnt : Snd G fs N .cnt := by
  refine .ofS (fun _ _ => rfl) (fun _ _ => rfl) (fun _ _ => rfl) (fun _ _ _ => rfl) (fun _ _ _ => rfl) (fun _ _ => rfl) ?_
  intro n X sc st W hsc hf hp h
  simp only [ck] at h
  split at h
  · exact PS.weak ps_continue fun _ _ _ q => s_cnt q
  · cases h
theorem snd_sif {a b c : Ex} (ic : Snd G fs N c) (ia : Snd G fs N a) (ib : Snd G fs N b) : Snd G fs N (.sif c a b) := by
  refine .ofS (fun _ _ => rfl) (fun _ _ => rfl) (fun _ _ => rfl) (fun _ _ _ => rfl) (fun _ _ _ => rfl) (fun _ _ => rfl) ?_
  intro n X sc st W hsc hf hp h
  simp only [ck] at h
  split at h
  · simp only [Bool.and_eq_true] at h
    exact PS.weak (ps_if (ic.e W hsc h.1.1).2.1 (ia.b W hsc hf hp h.1.2) (ib.b W hsc hf hp h.2)) fun _ _ _ q => s_if q
  · cases h
theorem fnAll_of {X : Cx} {a : Ex} {sc : Scope} {e : Expr} (hf : ∀ x, X.fn x = true) (h : (ck G N a).t fnAll sc e = true) : (ck G N a).t X.fn sc e = true := by
  have : X.fn = fnAll := funext fun x => by rw [hf]; rfl
  rw [this]
  exact h
theorem snd_sfor {t it b : Ex} (itg : Snd G fs N t) (ii : Snd G fs N it) (ib : Snd G fs N b) : Snd G fs N (.sfor t it b) := by
  refine .ofS (fun _ _ => rfl) (fun _ _ => rfl) (fun _ _ => rfl) (fun _ _ _ => rfl) (fun _ _ _ => rfl) (fun _ _ => rfl) ?_
  intro n X sc st W hsc hf hp h
  simp only [ck] at h
  split at h
  · rename_i x y z p
    simp only [Bool.and_eq_true] at h
    refine PS.weak (ps_for hp W.calm (ii.w (tg := x) W hsc h.1.2) (itg.t (o := none) W hsc (fun _ e => by cases e) (fnAll_of hf h.1.1.2)) (ib.b W hsc hf hp h.2) (fun v => ?_)) fun _ _ _ q => s_for q
    have := h.1.1.1
    cases y <;> first | rfl | (simp [notSet] at this)
  · cases h
theorem snd_swh {c b : Ex} (ic : Snd G fs N c) (ib : Snd G fs N b) : Snd G fs N (.swh c b) := by
  refine .ofS (fun _ _ => rfl) (fun _ _ => rfl) (fun _ _ => rfl) (fun _ _ _ => rfl) (fun _ _ _ => rfl) (fun _ _ => rfl) ?_
  intro n X sc st W hsc hf hp h
  simp only [ck] at h
  split at h
  · simp only [Bool.and_eq_true] at h
    exact PS.weak (ps_while hp (ic.e W hsc h.1).2.1 (ib.b W hsc hf hp h.2)) fun _ _ _ q => s_while q
  · cases h
theorem sw_trueD {elt elt2 : Expr} {gs : List Comprehension} {scope : Scope} {pos py : Pos} {y : Str} {l : Nat} {env : Env} (hk : env.scope.kind = .function) (hy : env.scope.names.lookup y = some .local) (hl : (py.line == pos.line) = true)
    (ha : (scope.names.any fun (n, k) => n == y && (k == .local || k == .cell)) = false) : swapsWith (.DictComp elt elt2 gs scope pos) (some (.Name y py)) l env = pure true := by
  have ky : env.kindOf y = some .local := hy
  have hb : env.blockKind = .function := by unfold Env.blockKind; rw [hk]; rfl
  unfold swapsWith
  simp only [hb, ky, ha, Expr.pos, hl]
  rfl
/-- name = {..} on one line, the name a local -/
theorem ps_setDc {X : Cx} {i : Nat} {y : Str} {py : Pos} {kx vx tg iter : Expr} {ifs : List Expr} {scope : Scope} {own : List (Str × Nat)} {pos spos : Pos} {wi : TI} {g : TG} {tt : TT} {tk tv : TE} (hc : X.calm = true) (hN : X.N.Nodup) (hy : X.N[i]? = some y) (hyl : X.env.scope.names.lookup y = some .local)
    (hsw : swapsWith (.DictComp kx vx [⟨tg, iter, ifs, 0⟩] scope pos) (some (.Name y py)) spos.line X.env = pure true) (hi : PI X tg iter wi) (ok : BlkOk X.N X.env.scope scope own)
    (hg : ∀ (s : Shared) (H : Hp) (C : Addr) (cl : List (Str × Addr)) (fp : List Addr), PG (X.blk s H scope (compEnvC scope cl C X.env) fp) tg g) (ht : ∀ (s : Shared) (H : Hp) (C : Addr) (cl : List (Str × Addr)) (fp : List Addr), PTs (X.blk s H scope (compEnvC scope cl C X.env) fp) ifs tt)
    (hk : ∀ (s : Shared) (H : Hp) (C : Addr) (cl : List (Str × Addr)) (fp : List Addr), PE (X.blk s H scope (compEnvC scope cl C X.env) fp) kx tk)
    (he : ∀ (s : Shared) (H : Hp) (C : Addr) (cl : List (Str × Addr)) (fp : List Addr), PE (X.blk s H scope (compEnvC scope cl C X.env) fp) vx tv) (hs : ∀ x, foldedSetIterable iter X.env x = pure x := by intro _; rfl) :
    PS X (.Assign [.Name y py] (.DictComp kx vx [⟨tg, iter, ifs, 0⟩] scope pos) spos) (tAsg (tDc wi g tt tk tv (own.map (·.2))) (gName i)) := by
  refine ⟨fun pins s σ H D I h => ?_⟩
  rw [exec_Assign_Name_used _ _ _ _ hsw]
  refine wpAny_bind (wpAny_standAt (wpAny_bind ?_))
  show wpAny _ X.A (do let _ ← comprehension (.DictComp kx vx [⟨tg, iter, ifs, 0⟩] scope pos) scope X.env (firstIterPos [⟨tg, iter, ifs, 0⟩] pos) newDict false (eval iter X.env) (some (assign (.Name y py) X.env))) _ _ s
  have h : tDc wi g tt tk tv (own.map (·.2)) σ H (fun x H1 => gName i x σ H1 D.nx) := h
  refine wpAny_bind (thn (dc_core (Qf := fun _ s' => SP X pins D .next s') hc hN I hi ok hg ht hk he hs h fun L C s' m H' I' q hn f => ?_) fun _ s' hq => wpAny_pure (wpAny_pure hq))
  show wpAny _ _ (assign (.Name y py) X.env (.ref L)) _ _ _
  refine wpAny_assign_Name (store_ok2 (v := V.ref L) I' hN hy (.inl hyl) rfl (fun s2 I2 ⟨a, sb, ha⟩ => ?_) (.inr hyl))
  obtain ⟨f0, f1, f2, f3, f4, f5⟩ := f
  have haC : C ≠ a := by
    rcases ha with z | z
    · rw [z]; exact f1
    · exact fun e => f4 y a z e.symm
  refine ⟨m, hn.sameBut sb haC, fun h3 sb3 => ?_⟩
  exact ⟨_, H', I2.turned (t' := s2.toks) (fun b o hb e => (sb3.2 b hb).trans e) f0 f1 f3 f4 f5, q⟩
theorem snd_asg {t e : Ex} (itg : Snd G fs N t) (ie : Snd G fs N e) (comp : ∀ (e' tg it c : Ex) (own : List Nat), e = .comp e' tg it c own → Snd G fs N e' ∧ Snd G fs N tg ∧ Snd G fs N it ∧ Snd G fs N c)
    (compD : ∀ (e1 e2 tg it c : Ex) (own : List Nat), e = .compD e1 e2 tg it c own → Snd G fs N e1 ∧ Snd G fs N e2 ∧ Snd G fs N tg ∧ Snd G fs N it ∧ Snd G fs N c) : Snd G fs N (.asg t e) := by
  refine .ofS (fun _ _ => rfl) (fun _ _ => rfl) (fun _ _ => rfl) (fun _ _ _ => rfl) (fun _ _ _ => rfl) (fun _ _ => rfl) ?_
  intro n X sc st W hsc hf hp h
  simp only [ck] at h
  split at h
  · rename_i y x p
    simp only [Bool.and_eq_true] at h
    obtain ⟨⟨⟨h1, h2⟩, h3⟩, h4⟩ := h
    have T := itg.t (o := none) W hsc (fun _ e => by cases e) (fnAll_of hf h2)
    have V := (ie.e W hsc h3).1
    have one : (assignEach [y] X.env).map (·.2) = [assign y X.env] := by rw [assign_of h1]; rfl
    by_cases hx : noComp x = true
    · refine PS.weak (ps_asg V T (noSwap hx _ _ _) ?_ one) fun _ _ _ q => s_asg q
      unfold swappedStores
      cases y <;> first | rfl | skip
      · cases h4
      · cases x <;> first | rfl | (simp [noTup] at h4)
    · cases x with
      | ListComp x gs csc q2 =>
        cases y with
        | Name nm q =>
          simp only [Bool.or_eq_true, Bool.and_eq_true, decide_eq_true_eq] at h4
          rcases h4 with hcel | h4
          · have hcel : sc.names.lookup nm = some .cell := of_decide_eq_true hcel
            have hsw : swapsWithSole [.Name nm q] (.ListComp x gs csc q2) p.line X.env = pure false := by
              have hb : X.env.blockKind = .function := by unfold Env.blockKind; rw [W.kind]; rfl
              have ky : X.env.kindOf nm = some .cell := by rw [← hsc] at hcel; exact hcel
              unfold swapsWithSole swapsWith
              simp only [hb, ky]
              rfl
            exact PS.weak (ps_asg V T hsw rfl one) fun _ _ _ q => s_asg q
          obtain ⟨⟨⟨hC, hL⟩, hQ⟩, hS⟩ := h4
          have h4 := And.intro (And.intro hL hQ) hS
          -- the store within the comprehension's frame
          cases e with
          | comp e' tg it c own =>
            obtain ⟨ie', itg', ii', ic'⟩ := comp e' tg it c own rfl
            cases t with
            | tv j =>
              subst hsc
              simp only [ck] at h2 h3
              split at h3
              · rename_i x' t' i' ifs csc' pos' heq
                cases heq
                simp only [Bool.and_eq_true, decide_eq_true_eq] at h2 h3
                obtain ⟨⟨⟨⟨⟨⟨⟨k1, k2⟩, k3⟩, k4⟩, k5⟩, k6⟩, k7⟩, k8⟩ := h3
                have ok := blkOk_by k1
                have inner : ∀ (s : Shared) (H : Hp) (C : Addr) (cl : List (Str × Addr)) (fp : List Addr), Wd G fs n N (X.blk s H csc (compEnvC csc cl C X.env) fp) :=
                  fun s H C cl fp => ⟨W.nN, W.nd, W.calm, ok.kind, W.room, W.gd, W.cst, W.fns, W.bis, W.dct⟩
                have loc : X.env.scope.names.lookup nm = some .local := of_decide_eq_true h4.1.1
                have sw : swapsWith (.ListComp x [⟨t', i', ifs, 0⟩] csc q2) (some (.Name nm q)) p.line X.env = pure true := by
                  refine sw_true W.kind loc ?_ ?_
                  · rw [h4.1.2]; exact beq_self_eq_true _
                  · have := h4.2
                    unfold swB at this
                    simpa using this
                have ps := ps_setLc (g := tR (K := X.K) E0 (some own) (sem (callN fs n) tg).t) (elt := x) (te := eR (K := X.K) E0 (sem (callN fs n) e').e) (pos := q2) (spos := p) (py := q) W.calm W.nd (by rw [W.nN]; exact h2.1.1) loc sw (ii'.w (tg := t') W rfl k4) (by rw [W.nN]; exact ok)
                  (fun s H C cl fp => itg'.t (o := some own) (inner s H C cl fp) rfl (fun o e => by cases e; exact k6) k5)
                  (ifs := ifs) (tt := bR (K := X.K) E0 (if isNil c = true then (fun _ s => R.ok true s) else (fun l s => ((sem (callN fs n) c).e l s).bind asB)))
                  (fun s H C cl fp => by
                    cases ifs with
                    | nil =>
                      rw [if_pos k8]
                      exact ⟨fun pins s σ H Q I q => pts_nil.run pins s σ H Q I (by obtain ⟨ρ, l, st, L, S, q⟩ := q; exact q ρ H Wle.refl S)⟩
                    | cons y ys =>
                      cases ys with
                      | nil =>
                        simp only [Bool.and_eq_true, Bool.not_eq_true'] at k8
                        rw [if_neg (by rw [k8.1]; decide)]
                        exact pts_one (ic'.e (inner s H C cl fp) rfl k8.2).2.1
                      | cons z zs => cases k8)
                  (fun s H C cl fp => (ie'.e (inner s H C cl fp) rfl k7).1)
                  (fun v => by cases i' <;> first | rfl | (simp [notSet] at k3))
                refine PS.weak ps fun D σ H q => ?_
                have q := s_asg q
                rw [k2]
                refine e_comp (own := own) ?_
                obtain ⟨ρ, l, st, L, S, q⟩ := q
                exact ⟨ρ, l, st, L, S, R.post_mono q (fun d st' q ρ' H' v w1 S1 r1 => t_name (fun _ e => by cases e) (q ρ' H' v w1 S1 r1)) fun _ _ x => x⟩
              · cases h3
            | _ => simp [ck, Ck.no] at h2
          | comp2 _ _ _ _ _ _ _ => cases hC
          | lockE _ _ => cases hC
          | compD _ _ _ _ _ _ => cases hC
          | _ => simp [ck, Ck.no] at h3
        | Tuple _ _ _ =>
          refine PS.weak (ps_asg V T rfl rfl one) fun _ _ _ q => s_asg q
        | List _ _ => cases h4
        | _ => exact PS.weak (ps_asg V T rfl rfl one) fun _ _ _ q => s_asg q
      | SetComp _ _ _ _ =>
        cases e <;> simp [ck, Ck.no, isLc] at h3
      | DictComp x x2 gs csc q2 =>
        cases y with
        | Name nm q =>
          simp only [Bool.or_eq_true, Bool.and_eq_true, decide_eq_true_eq] at h4
          rcases h4 with hcel | h4
          · have hcel : sc.names.lookup nm = some .cell := of_decide_eq_true hcel
            have hsw : swapsWithSole [.Name nm q] (.DictComp x x2 gs csc q2) p.line X.env = pure false := by
              have hb : X.env.blockKind = .function := by unfold Env.blockKind; rw [W.kind]; rfl
              have ky : X.env.kindOf nm = some .cell := by rw [← hsc] at hcel; exact hcel
              unfold swapsWithSole swapsWith
              simp only [hb, ky]
              rfl
            exact PS.weak (ps_asg V T hsw rfl one) fun _ _ _ q => s_asg q
          obtain ⟨⟨⟨hC, hL⟩, hQ⟩, hS⟩ := h4
          have h4 := And.intro (And.intro hL hQ) hS
          -- the store within the comprehension's frame
          cases e with
          | compD e' e'' tg it c own =>
            obtain ⟨ie', ie'', itg', ii', ic'⟩ := compD e' e'' tg it c own rfl
            cases t with
            | tv j =>
              subst hsc
              simp only [ck] at h2 h3
              split at h3
              · rename_i x' z' t' i' ifs csc' pos' heq
                cases heq
                simp only [Bool.and_eq_true, decide_eq_true_eq] at h2 h3
                obtain ⟨⟨⟨⟨⟨⟨⟨⟨k1, k2⟩, k3⟩, k4⟩, k5⟩, k6⟩, k7⟩, k7'⟩, k8⟩ := h3
                have ok := blkOk_by k1
                have inner : ∀ (s : Shared) (H : Hp) (C : Addr) (cl : List (Str × Addr)) (fp : List Addr), Wd G fs n N (X.blk s H csc (compEnvC csc cl C X.env) fp) :=
                  fun s H C cl fp => ⟨W.nN, W.nd, W.calm, ok.kind, W.room, W.gd, W.cst, W.fns, W.bis, W.dct⟩
                have loc : X.env.scope.names.lookup nm = some .local := of_decide_eq_true h4.1.1
                have sw : swapsWith (.DictComp x x2 [⟨t', i', ifs, 0⟩] csc q2) (some (.Name nm q)) p.line X.env = pure true := by
                  refine sw_trueD W.kind loc ?_ ?_
                  · rw [h4.1.2]; exact beq_self_eq_true _
                  · have := h4.2
                    unfold swB at this
                    simpa using this
                have ps := ps_setDc (g := tR (K := X.K) E0 (some own) (sem (callN fs n) tg).t) (kx := x) (vx := x2) (tk := eR (K := X.K) E0 (sem (callN fs n) e').e) (tv := eR (K := X.K) E0 (sem (callN fs n) e'').e) (pos := q2) (spos := p) (py := q) W.calm W.nd (by rw [W.nN]; exact h2.1.1) loc sw (ii'.w (tg := t') W rfl k4) (by rw [W.nN]; exact ok)
                  (fun s H C cl fp => itg'.t (o := some own) (inner s H C cl fp) rfl (fun o e => by cases e; exact k6) k5)
                  (ifs := ifs) (tt := bR (K := X.K) E0 (if isNil c = true then (fun _ s => R.ok true s) else (fun l s => ((sem (callN fs n) c).e l s).bind asB)))
                  (fun s H C cl fp => by
                    cases ifs with
                    | nil =>
                      rw [if_pos k8]
                      exact ⟨fun pins s σ H Q I q => pts_nil.run pins s σ H Q I (by obtain ⟨ρ, l, st, L, S, q⟩ := q; exact q ρ H Wle.refl S)⟩
                    | cons y ys =>
                      cases ys with
                      | nil =>
                        simp only [Bool.and_eq_true, Bool.not_eq_true'] at k8
                        rw [if_neg (by rw [k8.1]; decide)]
                        exact pts_one (ic'.e (inner s H C cl fp) rfl k8.2).2.1
                      | cons z zs => cases k8)
                  (fun s H C cl fp => (ie'.e (inner s H C cl fp) rfl k7).1)
                  (fun s H C cl fp => (ie''.e (inner s H C cl fp) rfl k7').1)
                  (fun v => by cases i' <;> first | rfl | (simp [notSet] at k3))
                refine PS.weak ps fun D σ H q => ?_
                have q := s_asg q
                rw [k2]
                refine e_compD (own := own) ?_
                obtain ⟨ρ, l, st, L, S, q⟩ := q
                exact ⟨ρ, l, st, L, S, R.post_mono q (fun d st' q ρ' H' v w1 S1 r1 => t_name (fun _ e => by cases e) (q ρ' H' v w1 S1 r1)) fun _ _ x => x⟩
              · cases h3
            | _ => simp [ck, Ck.no] at h2
          | comp _ _ _ _ _ => cases hC
          | lockE _ _ => cases hC
          | _ => simp [ck, Ck.no] at h3
        | Tuple _ _ _ =>
          refine PS.weak (ps_asg V T rfl rfl one) fun _ _ _ q => s_asg q
        | List _ _ => cases h4
        | _ => exact PS.weak (ps_asg V T rfl rfl one) fun _ _ _ q => s_asg q
      | _ => simp [noComp] at hx
  · cases h
theorem snd_fz {a : Ex} (is : List Nat) (ia : Snd G fs N a) : Snd G fs N (.fz is a) :=
  .ofS (fun _ _ => rfl) (fun _ _ => rfl) (fun _ _ => rfl) (fun _ _ _ => rfl) (fun _ _ _ => rfl) (fun _ _ => rfl) (fun W h1 h2 h3 h4 => ia.s W h1 h2 h3 h4)
theorem snd_new {a : Ex} (ia : Snd G fs N a) : Snd G fs N (.new a) :=
  .ofS (fun _ _ => rfl) (fun _ _ => rfl) (fun _ _ => rfl) (fun _ _ _ => rfl) (fun _ _ _ => rfl) (fun _ _ => rfl) (fun W h1 h2 h3 h4 => ia.s W h1 h2 h3 h4)
theorem snd_all (G : Gt) (fs : List Fn) (N : List Str) : ∀ m, Snd G fs N m := by
  have sub : ∀ m, Snd G fs N m ∧ (∀ (e' tg it c : Ex) (own : List Nat), m = .comp e' tg it c own → Snd G fs N e' ∧ Snd G fs N tg ∧ Snd G fs N it ∧ Snd G fs N c) ∧
      ∀ (e1 e2 tg it c : Ex) (own : List Nat), m = .compD e1 e2 tg it c own → Snd G fs N e1 ∧ Snd G fs N e2 ∧ Snd G fs N tg ∧ Snd G fs N it ∧ Snd G fs N c := by
    intro m
    induction m with
    | nil => exact ⟨snd_nil, (fun _ _ _ _ _ e => by cases e), (fun _ _ _ _ _ _ e => by cases e)⟩
    | cons a r ia ir => exact ⟨snd_cons ia.1 ir.1, (fun _ _ _ _ _ e => by cases e), (fun _ _ _ _ _ _ e => by cases e)⟩
    | var i => exact ⟨snd_var i, (fun _ _ _ _ _ e => by cases e), (fun _ _ _ _ _ _ e => by cases e)⟩
    | glb i d => exact ⟨snd_glb i d, (fun _ _ _ _ _ e => by cases e), (fun _ _ _ _ _ _ e => by cases e)⟩
    | int i => exact ⟨snd_int i, (fun _ _ _ _ _ e => by cases e), (fun _ _ _ _ _ _ e => by cases e)⟩
    | str i => exact ⟨snd_str i, (fun _ _ _ _ _ e => by cases e), (fun _ _ _ _ _ _ e => by cases e)⟩
    | bl i => exact ⟨snd_bl i, (fun _ _ _ _ _ e => by cases e), (fun _ _ _ _ _ _ e => by cases e)⟩
    | non => exact ⟨snd_non, (fun _ _ _ _ _ e => by cases e), (fun _ _ _ _ _ _ e => by cases e)⟩
    | bin o a b ia ib => exact ⟨snd_bin o ia.1 ib.1, (fun _ _ _ _ _ e => by cases e), (fun _ _ _ _ _ _ e => by cases e)⟩
    | neg a ia => exact ⟨snd_neg ia.1, (fun _ _ _ _ _ e => by cases e), (fun _ _ _ _ _ _ e => by cases e)⟩
    | not a ia => exact ⟨snd_not ia.1, (fun _ _ _ _ _ e => by cases e), (fun _ _ _ _ _ _ e => by cases e)⟩
    | and a b ia ib => exact ⟨snd_and ia.1 ib.1, (fun _ _ _ _ _ e => by cases e), (fun _ _ _ _ _ _ e => by cases e)⟩
    | or a b ia ib => exact ⟨snd_or ia.1 ib.1, (fun _ _ _ _ _ e => by cases e), (fun _ _ _ _ _ _ e => by cases e)⟩
    | one a ia => exact ⟨snd_one ia.1, (fun _ _ _ _ _ e => by cases e), (fun _ _ _ _ _ _ e => by cases e)⟩
    | cmp o a b ia ib => exact ⟨snd_cmp o ia.1 ib.1, (fun _ _ _ _ _ e => by cases e), (fun _ _ _ _ _ _ e => by cases e)⟩
    | cmp2 o p a b c ia ib ic => exact ⟨snd_cmp2 o p ia.1 ib.1 ic.1, (fun _ _ _ _ _ e => by cases e), (fun _ _ _ _ _ _ e => by cases e)⟩
    | ite c a b ic ia ib => exact ⟨snd_ite ic.1 ia.1 ib.1, (fun _ _ _ _ _ e => by cases e), (fun _ _ _ _ _ _ e => by cases e)⟩
    | tup es ie => exact ⟨snd_tup ie.1, (fun _ _ _ _ _ e => by cases e), (fun _ _ _ _ _ _ e => by cases e)⟩
    | lst es ie => exact ⟨snd_lst ie.1, (fun _ _ _ _ _ e => by cases e), (fun _ _ _ _ _ _ e => by cases e)⟩
    | dct ks vs iv => exact ⟨snd_dct ks iv.1, (fun _ _ _ _ _ e => by cases e), (fun _ _ _ _ _ _ e => by cases e)⟩
    | ix a i ia ii => exact ⟨snd_ix ia.1 ii.1, (fun _ _ _ _ _ e => by cases e), (fun _ _ _ _ _ _ e => by cases e)⟩
    | sl a lo hi ia il ih => exact ⟨snd_sl ia.1 il.1 ih.1, (fun _ _ _ _ _ e => by cases e), (fun _ _ _ _ _ _ e => by cases e)⟩
    | rev a ia => exact ⟨snd_rev ia.1, (fun _ _ _ _ _ e => by cases e), (fun _ _ _ _ _ _ e => by cases e)⟩
    | call f as ia => exact ⟨snd_call f ia.1, (fun _ _ _ _ _ e => by cases e), (fun _ _ _ _ _ _ e => by cases e)⟩
    | bi b as ia => exact ⟨snd_bi b ia.1, (fun _ _ _ _ _ e => by cases e), (fun _ _ _ _ _ _ e => by cases e)⟩
    | isi a t ia => exact ⟨snd_isi t ia.1, (fun _ _ _ _ _ e => by cases e), (fun _ _ _ _ _ _ e => by cases e)⟩
    | mt m o as io ia => exact ⟨snd_mt m io.1 ia.1, (fun _ _ _ _ _ e => by cases e), (fun _ _ _ _ _ _ e => by cases e)⟩
    | comp e tg it c own ie itg ii ic => exact ⟨snd_comp own ie.1 itg.1 ii.1 ic.1, (fun _ _ _ _ _ e => by cases e; exact ⟨ie.1, itg.1, ii.1, ic.1⟩), (fun _ _ _ _ _ _ e => by cases e)⟩
    | callK f as kv d ia ik => exact ⟨snd_callK f d ia.1 ik.1, (fun _ _ _ _ _ e => by cases e), (fun _ _ _ _ _ _ e => by cases e)⟩
    | gix i kvs b ib => exact ⟨snd_gix i kvs ib.1, (fun _ _ _ _ _ e => by cases e), (fun _ _ _ _ _ _ e => by cases e)⟩
    | comp2 e tg it tg2 it2 own own2 ie itg ii itg2 ii2 => exact ⟨snd_comp2 own own2 ie.1 itg.1 ii.1 itg2.1 ii2.1, (fun _ _ _ _ _ e => by cases e), (fun _ _ _ _ _ _ e => by cases e)⟩
    | compD e e2 tg it c own ie ie2 itg ii ic => exact ⟨snd_compD own ie.1 ie2.1 itg.1 ii.1 ic.1, (fun _ _ _ _ _ e => by cases e), (fun _ _ _ _ _ _ e => by cases e; exact ⟨ie.1, ie2.1, itg.1, ii.1, ic.1⟩)⟩
    | itR3 a b c ia ib ic => exact ⟨snd_itR3 ia.1 ib.1 ic.1, (fun _ _ _ _ _ e => by cases e), (fun _ _ _ _ _ _ e => by cases e)⟩
    | sset b ib => exact ⟨snd_sset ib.1, (fun _ _ _ _ _ e => by cases e), (fun _ _ _ _ _ _ e => by cases e)⟩
    | lr1 b ib => exact ⟨snd_lr1 ib.1, (fun _ _ _ _ _ e => by cases e), (fun _ _ _ _ _ _ e => by cases e)⟩
    | lr2 a b ia ib => exact ⟨snd_lr2 ia.1 ib.1, (fun _ _ _ _ _ e => by cases e), (fun _ _ _ _ _ _ e => by cases e)⟩
    | get1 o k io ik => exact ⟨snd_get1 io.1 ik.1, (fun _ _ _ _ _ e => by cases e), (fun _ _ _ _ _ _ e => by cases e)⟩
    | get2 o k d io ik id => exact ⟨snd_get2 io.1 ik.1 id.1, (fun _ _ _ _ _ e => by cases e), (fun _ _ _ _ _ _ e => by cases e)⟩
    | lsI a ia => exact ⟨snd_lsI ia.1, (fun _ _ _ _ _ e => by cases e), (fun _ _ _ _ _ _ e => by cases e)⟩
    | isiM a ts ia => exact ⟨snd_isiM ts ia.1, (fun _ _ _ _ _ e => by cases e), (fun _ _ _ _ _ _ e => by cases e)⟩
    | itK i => exact ⟨snd_itK i, (fun _ _ _ _ _ e => by cases e), (fun _ _ _ _ _ _ e => by cases e)⟩
    | itE e ie => exact ⟨snd_itE ie.1, (fun _ _ _ _ _ e => by cases e), (fun _ _ _ _ _ _ e => by cases e)⟩
    | lockS i a ia => exact ⟨snd_lockS i ia.1, (fun _ _ _ _ _ e => by cases e), (fun _ _ _ _ _ _ e => by cases e)⟩
    | lockE i a ia => exact ⟨snd_lockE i ia.1, (fun _ _ _ _ _ e => by cases e), (fun _ _ _ _ _ _ e => by cases e)⟩
    | rai => exact ⟨snd_rai, (fun _ _ _ _ _ e => by cases e), (fun _ _ _ _ _ _ e => by cases e)⟩
    | itS e ie => exact ⟨snd_itS ie.1, (fun _ _ _ _ _ e => by cases e), (fun _ _ _ _ _ _ e => by cases e)⟩
    | itR1 b ib => exact ⟨snd_itR1 ib.1, (fun _ _ _ _ _ e => by cases e), (fun _ _ _ _ _ _ e => by cases e)⟩
    | itR2 a b ia ib => exact ⟨snd_itR2 ia.1 ib.1, (fun _ _ _ _ _ e => by cases e), (fun _ _ _ _ _ _ e => by cases e)⟩
    | tv i => exact ⟨snd_tv i, (fun _ _ _ _ _ e => by cases e), (fun _ _ _ _ _ _ e => by cases e)⟩
    | tt ts its => exact ⟨snd_tt its.1, (fun _ _ _ _ _ e => by cases e), (fun _ _ _ _ _ _ e => by cases e)⟩
    | tix o i io ii => exact ⟨snd_tix io.1 ii.1, (fun _ _ _ _ _ e => by cases e), (fun _ _ _ _ _ _ e => by cases e)⟩
    | tsl o lo hi io il ih => exact ⟨snd_tsl io.1 il.1 ih.1, (fun _ _ _ _ _ e => by cases e), (fun _ _ _ _ _ _ e => by cases e)⟩
    | expr e ie => exact ⟨snd_expr ie.1, (fun _ _ _ _ _ e => by cases e), (fun _ _ _ _ _ _ e => by cases e)⟩
    | asg t e it ie => exact ⟨snd_asg it.1 ie.1 ie.2.1 ie.2.2, (fun _ _ _ _ _ e => by cases e), (fun _ _ _ _ _ _ e => by cases e)⟩
    | sif c a b ic ia ib => exact ⟨snd_sif ic.1 ia.1 ib.1, (fun _ _ _ _ _ e => by cases e), (fun _ _ _ _ _ _ e => by cases e)⟩
    | sfor t it b itt ii ib => exact ⟨snd_sfor itt.1 ii.1 ib.1, (fun _ _ _ _ _ e => by cases e), (fun _ _ _ _ _ _ e => by cases e)⟩
    | swh c b ic ib => exact ⟨snd_swh ic.1 ib.1, (fun _ _ _ _ _ e => by cases e), (fun _ _ _ _ _ _ e => by cases e)⟩
    | ret e ie => exact ⟨snd_ret ie.1, (fun _ _ _ _ _ e => by cases e), (fun _ _ _ _ _ _ e => by cases e)⟩
    | retN => exact ⟨snd_retN, (fun _ _ _ _ _ e => by cases e), (fun _ _ _ _ _ _ e => by cases e)⟩
    | pass => exact ⟨snd_pass, (fun _ _ _ _ _ e => by cases e), (fun _ _ _ _ _ _ e => by cases e)⟩
    | brk => exact ⟨snd_brk, (fun _ _ _ _ _ e => by cases e), (fun _ _ _ _ _ _ e => by cases e)⟩
    | cnt => exact ⟨snd_cnt, (fun _ _ _ _ _ e => by cases e), (fun _ _ _ _ _ _ e => by cases e)⟩
    | fz is a ia => exact ⟨snd_fz is ia.1, (fun _ _ _ _ _ e => by cases e), (fun _ _ _ _ _ _ e => by cases e)⟩
    | new a ia => exact ⟨snd_new ia.1, (fun _ _ _ _ _ e => by cases e), (fun _ _ _ _ _ _ e => by cases e)⟩
  exact fun m => (sub m).1
end Z

/-! ZEnd: defs by their terms; a law by the evaluator's answer. -/
namespace Z
open PySem L2 PySem.Spec PyProof.Rows
/-- what a module's constant stands for -/
def CstIs (K : PySem.W.Frag) (mg : Str → Option Value) (x : Str) (d : D) : Prop := ∃ v u, mg x = some u ∧ RelV v u ∧ ∀ ρ H, RD K ρ H d v
/-- a def of the text, as it stands behind the top, and its term -/
def BndAt (K : PySem.W.Frag) (fd : FuncData) (ps : List Str) : Option (Str × D) → Prop
  | none => ∀ us : List Value, us.length = ps.length → bindArgs fd ⟨us, []⟩ = pure (ps.zip us)
  | some (k, d) => BindK K fd ps k d
theorem BndAt.any {K : PySem.W.Frag} {fd : FuncData} {ps : List Str} {o : Option (Str × D)} (h : BndAt K fd ps o) : BindAny K fd ps o := by
  cases o with
  | none => exact .all h
  | some p => exact h
structure DefAt (K : PySem.W.Frag) (mg : Str → Option Value) (G : Gt) (o : Option (Str × D)) (x : Str) (g : Fn) (f : Addr) (fd : FuncData) (qual : Str) (st : Stmt) (N ps : List Str) : Prop where
  at_ : mg x = some (.ref f)
  fn : ∃ y, Fun K y qual st f fd
  bnd : BndAt K fd ps o
  sc : FnScope N ps (defScope st)
  np : g.np = ps.length
  nn : g.nn = N.length
  ok : (ck G N g.body).b (defScope st) (defBody st) = true
structure TextOk (K : PySem.W.Frag) (mg : Str → Option Value) (G : Gt) (fs : List Fn) : Prop where
  cst : ∀ (i : Nat) (x : Str) (d : D), G.cs[i]? = some (x, d) → CstIs K mg x d
  fns : ∀ (i : Nat) (x : Str), G.fs[i]? = some x → ∃ g f fd qual st N ps, fs[i]? = some g ∧ DefAt K mg G (G.kw i) x g f fd qual st N ps
  bis : ∀ x ∈ biNames, mg x = none
  dct : ∀ (i : Nat) (x : Str) (kvs : List (Int × Int)), G.ds[i]? = some (x, kvs) → CstD K mg x kvs
section
variable {P : Program} {w : World} {K : PySem.W.Frag} {mg : Str → Option Value} {base : Heap} {G : Gt} {fs : List Fn}
theorem lr_start {ρ : List Addr} {H : Hp} {ds : List D} {vs : List V} {N : List Str} {nn np : Nat} (r : RDs K ρ H ds vs) (h1 : ds.length = np) (h2 : nn = N.length) (h3 : np ≤ nn) : LR K ρ H (ds.map some ++ List.replicate (nn - np) none) (L2.start N vs) := by
  have hl := r.length
  refine ⟨by unfold L2.start; simp; omega, fun i d e => ?_⟩
  by_cases hi : i < ds.length
  · rw [List.getElem?_append_left (by simpa using hi), List.getElem?_map] at e
    simp only [Option.map_eq_some_iff] at e
    obtain ⟨d', e, e2⟩ := e
    cases e2
    obtain ⟨v, e1, rv⟩ := r.get e
    refine ⟨v, ?_, rv⟩
    unfold L2.start
    rw [List.getElem?_append_left (by simp; omega), List.getElem?_map, e1]
    rfl
  · rw [List.getElem?_append_right (by simpa using hi), List.getElem?_replicate] at e
    split at e <;> cases e
/-- what is called is right at a depth -/
def FnsAt (P : Program) (w : World) (K : PySem.W.Frag) (mg : Str → Option Value) (base : Heap) (G : Gt) (fs : List Fn) (n : Nat) : Prop :=
  ∀ (i : Nat) (x : Str), G.fs[i]? = some x → ∃ f fd ps, mg x = some (.ref f) ∧ PySem.W.keepIn K (.ref f) = true ∧ BindAny K fd ps (G.kw i) ∧ FnG P w K mg base CX0 n f fd 0 ps (spF K fs n i)
theorem one_fn {n i : Nat} {x qual : Str} {g : Fn} {f : Addr} {fd : FuncData} {st : Stmt} {N ps : List Str} (T : TextOk K mg G fs) (ih : FnsAt P w K mg base G fs n) (hg : fs[i]? = some g) (D : DefAt K mg G (G.kw i) x g f fd qual st N ps) :
    FnG P w K mg base CX0 (n + 1) f fd 0 ps (spF K fs (n + 1) i) := by
  obtain ⟨e1, F, B, S, e2, e3, e4⟩ := D
  have runs : ∀ {ds s}, callN fs (n + 1) i ds s = runFn (callN fs n) g ds s := by
    intro ds s
    show (match fs[i]? with | some g => runFn (callN fs n) g ds s | none => .bad) = _
    rw [hg]
  have len : ∀ vs H Q E, spF K fs (n + 1) i vs H Q E → vs.length = ps.length := by
    rintro vs H Q E ⟨ρ, s, ds, _, r, h⟩
    rw [runs] at h
    unfold runFn at h
    split at h
    · rename_i hl
      rw [← r.length, hl, e2]
    · exact h.elim
  obtain ⟨y, F⟩ := F
  obtain ⟨oc, od, kV, doc, pm, an, cdv, ct, osl, rfl, lk, hcd⟩ := F.ex
  have npl : ps.length ≤ N.length := by
    have := congrArg List.length S.pre
    rw [List.length_take] at this
    omega
  refine fnG_of lk hcd S len fun A outer s H vs Q E hr gd hsp => ?_
  have W : Wd G fs n N (cxOf CX0 P w K mg base N qual (defScope st) f cdv A outer s H E).nox :=
    ⟨rfl, S.nd, rfl, S.kind, hr, gd, T.cst, fun j y hy => ih j y hy, T.bis, T.dct⟩
  have body := (snd_all G fs N g.body).b (X := (cxOf CX0 P w K mg base N qual (defScope st) f cdv A outer s H E).nox) W rfl (fun _ => rfl) PassesOwn.never e4
  refine ⟨_, body.nox, ?_⟩
  obtain ⟨ρ, s0, ds, SS, r, h⟩ := hsp
  rw [runs] at h
  unfold runFn at h
  split at h
  · rename_i hl
    refine ⟨ρ, _, s0, lr_start r hl e3 (by omega), SS, R.post_mono (R.post_bind.mp h) ?_ fun _ _ x => x⟩
    rintro ⟨fl, l1⟩ st1 h1 ρ1 H1 σ1 w1 S1 L1
    cases fl with
    | nx => exact h1 ρ1 H1 _ w1 S1 .non
    | ret d => exact fun v rv => h1 ρ1 H1 v w1 S1 rv
    | brk => exact h1.elim
    | cnt => exact h1.elim
  · exact h.elim
/-- every def of the text, at every depth -/
theorem all_fn (T : TextOk K mg G fs) : ∀ (n : Nat), FnsAt P w K mg base G fs n := by
  intro n
  induction n with
  | zero =>
    intro i x hx
    obtain ⟨g, f, fd, qual, st, N, ps, hg, D⟩ := T.fns i x hx
    refine ⟨f, fd, ps, D.at_, D.fn.choose_spec.kp, D.bnd.any, ?_, ?_⟩
    · rintro vs H Q E ⟨ρ, st, ds, _, _, h⟩
      exact h.elim
    · rintro A outer s H args us vs Q E _ _ _ _ _ ⟨ρ, st, ds, _, _, h⟩
      exact h.elim
  | succ n ih =>
    intro i x hx
    obtain ⟨g, f, fd, qual, st, N, ps, hg, D⟩ := T.fns i x hx
    exact ⟨f, fd, ps, D.at_, D.fn.choose_spec.kp, D.bnd.any, one_fn T ih hg D⟩
end
theorem klR {K : PySem.W.Frag} {ρ : List Addr} {H : Hp} : ∀ ns : List Int, RDs K ρ H (ns.map D.int) (ns.map V.int)
  | [] => .nil
  | n :: ns => .cons (.int n) (klR ns)
/-- a law whose text is told by terms, by what the evaluator answers -/
theorem law_end {l : PySem.W.OpenLaw} {q : Program} {loose : List Str} {XP : (Str → Option Value) → Heap → Prop} {YP : World → Heap → Prop} {d : DefRec} {K : Params → PySem.W.Frag} {G : Gt} {fs : List Fn} {x : Str} (n i : Nat)
    (hn : l.most = some 63) (hdf : d.params.defaults = []) (hr : Room (n + 1) callerA) (hY : ∀ (w : World) (h : Heap), YP w h → (K w.params).In h)
    (T : ∀ (w : World) (mg : Str → Option Value) (h : Heap), (K w.params).In h → h.Ns mainGlobals mg → TextOk (K w.params) mg G fs ∧ ∃ g f fd qual st N, fs[i]? = some g ∧ G.kw i = none ∧ DefAt (K w.params) mg G none d.name g f fd qual st N [x])
    (law : ∀ ns : List Int, ns.length ≤ 63 → (∀ z ∈ ns, Builtin.Int.intBits z ≤ 1048576) → ∃ st', callN fs (n + 1) i [.kl (ns.map .int)] [] = .ok (.bl true) st') :
    PySem.W.WalkO q loose XP YP l.row.toRowW d [] (fun f vs => PySem.call f vs) := by
  refine walkG (x := x) (m := 0) (CX := fun _ => CX0) (sp := fun w => spF (K w.params) fs (n + 1) i) hn hdf hr hY ?_ ?_ fun _ _ _ _ _ z => z
  · intro w mg fa h hK hG hf
    obtain ⟨tx, g, f, fd, qual, st, N, hg, hkw, D⟩ := T w mg h hK hG
    have e := D.at_.symm.trans hf
    cases e
    have B : ∀ us : List Value, us.length = 1 → bindArgs fd ⟨us, []⟩ = pure ([x].zip us) := D.bnd
    refine ⟨fd, fun s u => .of_eq (B [u] rfl), fun base hb hn => ?_⟩
    rw [← hkw] at D
    exact one_fn tx (all_fn tx n) hg D
  · intro w H a ns hl hb fl
    obtain ⟨st', e⟩ := law ns hl hb
    refine ⟨[], [], [.kl (ns.map .int)], ⟨rfl, fun i j a h => by simp at h, fun i o a h => by simp at h⟩, .cons (.kl fl (klR ns)) .nil, ?_⟩
    rw [e]
    intro ρ' H' v w1 S1 r1
    exact r1.bl_inv
end Z

/-! ZLaw: the text's facts, put together. -/
namespace Z
open PySem L2
/-- a def as the top left it -/
def DefFact (K : PySem.W.Frag) (gx x : Str) (st : Stmt) : Prop := ∃ (f : Addr) (oc : Value) (od : Option Addr) (osl : Array (Option Value)) (kV dc pm : Value) (an : Option Addr) (cd ct : Value),
  PySem.W.nsIn K mainGlobals gx = some (some (.ref f)) ∧ K.lookup f = some ⟨oc, od, .func (PySem.W.fnOf x x (defArgs st) (defBody st) (defScope st) .none kV dc pm an cd ct), osl⟩ ∧ PySem.W.codeIn K cd x = true ∧ PySem.W.keepIn K (.ref f) = true
theorem DefFact.mk {K : PySem.W.Frag} {gx x : Str} {st : Stmt} {f : Addr} {oc : Value} {od : Option Addr} {osl : Array (Option Value)} {kV dc pm : Value} {an : Option Addr} {cd ct : Value} (a : PySem.W.nsIn K mainGlobals gx = some (some (.ref f)))
    (l : K.lookup f = some ⟨oc, od, .func (PySem.W.fnOf x x (defArgs st) (defBody st) (defScope st) .none kV dc pm an cd ct), osl⟩) (c : PySem.W.codeIn K cd x = true) (k : PySem.W.keepIn K (.ref f) = true) : DefFact K gx x st :=
  ⟨f, oc, od, osl, kV, dc, pm, an, cd, ct, a, l, c, k⟩
section
variable {K : PySem.W.Frag} {h : Heap} {mg : Str → Option Value} {G : Gt}
/-- what the text shows of a def without running it -/
structure DefSeen (G : Gt) (st : Stmt) (g : Fn) (N ps : List Str) : Prop where
  sc : FnScope N ps (defScope st)
  np : g.np = ps.length
  nn : g.nn = N.length
  ok : (ck G N g.body).b (defScope st) (defBody st) = true
  bnd : ∀ (x : Str) (kV doc pm : Value) (an : Option Addr) (cdv ct : Value) (us : List Value), us.length = ps.length → bindArgs (PySem.W.fnOf x x (defArgs st) (defBody st) (defScope st) .none kV doc pm an cdv ct) ⟨us, []⟩ = pure (ps.zip us)
theorem def_at {gx x : Str} {st : Stmt} {g : Fn} {N ps : List Str} (X : K.In h) (Gn : h.Ns mainGlobals mg) (F : DefFact K gx x st) (S : DefSeen G st g N ps) : ∃ f fd, DefAt K mg G none gx g f fd x st N ps := by
  obtain ⟨f, oc, od, osl, kV, dc, pm, an, cd, ct, a, l, c, k⟩ := F
  exact ⟨f, _, PySem.W.mg_of X Gn a, ⟨_, fun_mk l c k⟩, fun us hu => S.bnd x kV dc pm an cd ct us hu, S.sc, S.np, S.nn, S.ok⟩
/-- a constant's value -/
def CstV (K : PySem.W.Frag) (u : Value) (d : D) : Prop := ∃ v, RelV v u ∧ ∀ ρ H, RD K ρ H d v
/-- a def with one keyword-only parameter, as the top left it -/
def DefFactK (K : PySem.W.Frag) (gx x : Str) (st : Stmt) (k : Str) (d : D) : Prop := ∃ (f : Addr) (oc : Value) (od : Option Addr) (osl : Array (Option Value)) (Da : Addr) (dc pm : Value) (an : Option Addr) (cd ct : Value) (u : Value),
  PySem.W.nsIn K mainGlobals gx = some (some (.ref f)) ∧ K.lookup f = some ⟨oc, od, .func (PySem.W.fnOf x x (defArgs st) (defBody st) (defScope st) .none (.ref Da) dc pm an cd ct), osl⟩ ∧ PySem.W.codeIn K cd x = true ∧ PySem.W.keepIn K (.ref f) = true ∧
  PySem.W.nsIn K Da k = some (some u) ∧ CstV K u d
theorem DefFactK.mk {K : PySem.W.Frag} {gx x : Str} {st : Stmt} {kn : Str} {d : D} {f Da : Addr} {oc : Value} {od : Option Addr} {osl : Array (Option Value)} {dc pm : Value} {an : Option Addr} {cd ct u : Value} (a : PySem.W.nsIn K mainGlobals gx = some (some (.ref f)))
    (l : K.lookup f = some ⟨oc, od, .func (PySem.W.fnOf x x (defArgs st) (defBody st) (defScope st) .none (.ref Da) dc pm an cd ct), osl⟩) (c : PySem.W.codeIn K cd x = true) (k : PySem.W.keepIn K (.ref f) = true)
    (n : PySem.W.nsIn K Da kn = some (some u)) (v : CstV K u d) : DefFactK K gx x st kn d :=
  ⟨f, oc, od, osl, Da, dc, pm, an, cd, ct, u, a, l, c, k, n, v⟩
/-- what the text shows of such a def; m: how many others -/
structure DefSeenK (G : Gt) (st : Stmt) (g : Fn) (N ps : List Str) (m : Nat) (k : Str) : Prop where
  sc : FnScope N ps (defScope st)
  np : g.np = ps.length
  nn : g.nn = N.length
  ok : (ck G N g.body).b (defScope st) (defBody st) = true
  hm : m + 1 = ps.length
  b1 : ∀ (x : Str) (kV doc pm : Value) (an : Option Addr) (cdv ct : Value) (us : List Value) (w : Value), us.length = m → bindArgs (PySem.W.fnOf x x (defArgs st) (defBody st) (defScope st) .none kV doc pm an cdv ct) ⟨us, [(k, w)]⟩ = pure (ps.zip (us ++ [w]))
  b0 : ∀ (x : Str) (Da : Addr) (doc pm : Value) (an : Option Addr) (cdv ct : Value) (us : List Value) (u : Value), us.length = m → KwChain Da [(k, u)] (bindArgs (PySem.W.fnOf x x (defArgs st) (defBody st) (defScope st) .none (.ref Da) doc pm an cdv ct) ⟨us, []⟩) (ps.zip (us ++ [u]))
theorem def_atK {gx x : Str} {st : Stmt} {g : Fn} {N ps : List Str} {m : Nat} {kn : Str} {d : D} (X : K.In h) (Gn : h.Ns mainGlobals mg) (F : DefFactK K gx x st kn d) (S : DefSeenK G st g N ps m kn) : ∃ f fd, DefAt K mg G (some (kn, d)) gx g f fd x st N ps := by
  obtain ⟨f, oc, od, osl, Da, dc, pm, an, cd, ct, u, a, l, c, k, hn, v, rv, rd⟩ := F
  refine ⟨f, _, PySem.W.mg_of X Gn a, ⟨_, fun_mk l c k⟩, ⟨fun s us w kin hu => .of_eq (S.b1 x _ dc pm an cd ct us w (by have := S.hm; omega)), v, u, rv, rd, fun s us kin hu => L2.BindsTo.of_looks fun M => ?_⟩, S.sc, S.np, S.nn, S.ok⟩
  refine KwChain.looks kin (fun q hq => ?_) (S.b0 x Da dc pm an cd ct us u (by have := S.hm; omega))
  rcases List.mem_cons.mp hq with rfl | hq
  · exact hn
  · cases hq
inductive DefsOk (K : PySem.W.Frag) (mg : Str → Option Value) (G : Gt) : List Str → List Fn → List (Option (Str × D)) → Prop
  | nil : DefsOk K mg G [] [] []
  | cons {x qual : Str} {g : Fn} {st : Stmt} {N ps : List Str} {o : Option (Str × D)} {xs : List Str} {gs : List Fn} {os : List (Option (Str × D))} : (∃ f fd, DefAt K mg G o x g f fd qual st N ps) → DefsOk K mg G xs gs os → DefsOk K mg G (x :: xs) (g :: gs) (o :: os)
theorem DefsOk.get {xs : List Str} {gs : List Fn} {os : List (Option (Str × D))} (D : DefsOk K mg G xs gs os) : ∀ (i : Nat) (x : Str), xs[i]? = some x → ∃ g f fd qual st N ps, gs[i]? = some g ∧ DefAt K mg G (os.getD i none) x g f fd qual st N ps := by
  induction D with
  | nil => intro i x h; simp at h
  | cons hd _ ih =>
    intro i x h
    cases i with
    | zero =>
      cases h
      obtain ⟨f, fd, hd⟩ := hd
      exact ⟨_, f, fd, _, _, _, _, rfl, hd⟩
    | succ i => exact ih i x (by simpa using h)
theorem text_ok {fs : List Fn} (hc : ∀ p ∈ G.cs, CstIs K mg p.1 p.2) (hd : DefsOk K mg G G.fs fs G.kf) (hb : ∀ x ∈ biNames, mg x = none) (hds : ∀ p ∈ G.ds, CstD K mg p.1 p.2) : TextOk K mg G fs :=
  ⟨fun i x d e => hc (x, d) (List.mem_of_getElem? e), hd.get, hb, fun i x d e => hds (x, d) (List.mem_of_getElem? e)⟩
/-! constants -/
theorem cst_int {x : Str} {i : Int} {t : Tok} (X : K.In h) (Gn : h.Ns mainGlobals mg) (a : PySem.W.nsIn K mainGlobals x = some (some (.int i t))) : CstIs K mg x (.int i) :=
  ⟨.int i, _, PySem.W.mg_of X Gn a, ⟨t, rfl⟩, fun _ _ => .int i⟩
theorem cst_str {x : Str} {i : Str} {s : List Nat} {t : Tok} (X : K.In h) (Gn : h.Ns mainGlobals mg) (a : PySem.W.nsIn K mainGlobals x = some (some (.str i t))) (e : i.cps.toList = s) : CstIs K mg x (.str s) :=
  ⟨.str i, _, PySem.W.mg_of X Gn a, ⟨t, rfl⟩, fun _ _ => .str' e⟩
def intsV : List Value → Option (List Int)
  | [] => some []
  | .int i _ :: r => (intsV r).map (i :: ·)
  | _ => none
theorem intsV_ok : ∀ {us : List Value} {ns : List Int}, intsV us = some ns → Vals (ns.map V.int) us
  | [], _, h => by cases h; exact .nil
  | .int i t :: r, ns, h => by
    simp only [intsV, Option.map_eq_some_iff] at h
    obtain ⟨ms, h1, rfl⟩ := h
    exact .cons ⟨t, rfl⟩ (intsV_ok h1)
theorem ints_D : ∀ {ds : List D} {ns : List Int}, ints? ds = some ns → ds = ns.map .int
  | [], _, h => by cases h; rfl
  | .int i :: r, ns, h => by
    simp only [ints?, Option.map_eq_some_iff] at h
    obtain ⟨ms, h1, rfl⟩ := h
    rw [ints_D h1]; rfl
theorem cstV_int {i : Int} {t : Tok} : CstV K (.int i t) (.int i) := ⟨.int i, ⟨t, rfl⟩, fun _ _ => .int i⟩
theorem cstV_tup {a : Addr} {od : Option Addr} {its : Array Value} {n : Nat} {sl : Array (Option Value)} {ds : List D} {ns : List Int}
    (h2 : K.lookup a = some ⟨.type "tuple", od, .seq its n, sl⟩) (h3 : intsV its.toList = some ns) (h4 : ints? ds = some ns) (h5 : ns.length ≤ 1000) : CstV K (.ref a) (.tup ds) := by
  have e := ints_D h4
  subst e
  have hv := intsV_ok h3
  refine ⟨.ref a, rfl, fun ρ H => .tup (.inr ⟨_, its, n, h2, rfl, rfl, ?_, hv⟩) (rds_ints ns)⟩
  have hz : ns.length = its.size := by simpa using Paired.length hv
  rw [← hz, sizeLine_eq]
  omega
theorem cst_tup {x : Str} {a : Addr} {od : Option Addr} {its : Array Value} {n : Nat} {sl : Array (Option Value)} {ds : List D} {ns : List Int} (X : K.In h) (Gn : h.Ns mainGlobals mg) (h1 : PySem.W.nsIn K mainGlobals x = some (some (.ref a)))
    (h2 : K.lookup a = some ⟨.type "tuple", od, .seq its n, sl⟩) (h3 : intsV its.toList = some ns) (h4 : ints? ds = some ns) (h5 : ns.length ≤ 1000) : CstIs K mg x (.tup ds) := by
  obtain ⟨v, h6, h7⟩ := cstV_tup h2 h3 h4 h5
  exact ⟨v, _, PySem.W.mg_of X Gn h1, h6, h7⟩
theorem cst_dct {x : Str} {a : Addr} {es : Array DictEntry} {n : Nat} {kvs : List (Int × Int)} (X : K.In h) (Gn : h.Ns mainGlobals mg) (h1 : PySem.W.nsIn K mainGlobals x = some (some (.ref a)))
    (h2 : K.lookup a = some ⟨.type "dict", none, .dict es n, #[]⟩) (h3 : entsI es.toList = some kvs) : CstD K mg x kvs := ⟨a, es, n, PySem.W.mg_of X Gn h1, h2, h3⟩
end
end Z

namespace Z
open PySem L2
section
variable {K : PySem.W.Frag} {mg : Str → Option Value} {h : Heap}
def strsV : List Value → Option (List Str)
  | [] => some []
  | .str i _ :: r => (strsV r).map (i :: ·)
  | _ => none
theorem strsV_ok : ∀ {us : List Value} {ns : List Str}, strsV us = some ns → Vals (ns.map V.str) us
  | [], _, h => by cases h; exact .nil
  | .str i t :: r, ns, h => by
    simp only [strsV, Option.map_eq_some_iff] at h
    obtain ⟨ms, h1, rfl⟩ := h
    exact .cons ⟨t, rfl⟩ (strsV_ok h1)
theorem rds_strs {ρ : List Addr} {H : Hp} : ∀ ns : List Str, RDs K ρ H (ns.map fun i => D.str i.cps.toList) (ns.map V.str)
  | [] => .nil
  | i :: r => .cons (.str' rfl) (rds_strs r)
theorem cst_tupS {x : Str} {a : Addr} {od : Option Addr} {its : Array Value} {n : Nat} {sl : Array (Option Value)} {ds : List D} {ns : List Str} (X : K.In h) (Gn : h.Ns mainGlobals mg) (h1 : PySem.W.nsIn K mainGlobals x = some (some (.ref a)))
    (h2 : K.lookup a = some ⟨.type "tuple", od, .seq its n, sl⟩) (h3 : strsV its.toList = some ns) (h4 : (ns.map fun i => D.str i.cps.toList) = ds) (h5 : ds.length ≤ 1000) : CstIs K mg x (.tup ds) := by
  subst h4
  have hv := strsV_ok h3
  refine ⟨.ref a, _, PySem.W.mg_of X Gn h1, rfl, fun ρ H => .tup (.inr ⟨_, its, n, h2, rfl, rfl, ?_, hv⟩) (rds_strs ns)⟩
  have hz : ns.length = its.size := by simpa using Paired.length hv
  rw [← hz, sizeLine_eq]
  rw [List.length_map] at h5
  omega
end
end Z

/-! YCore: the evaluator again, lists and dicts as plain data: what nobody else has hold of. -/
namespace Y
open PySem
open Z (Ky Bop Cop Bi Ty Mt Ex Fn line big fuel whFuel rgOk rgN joinD upA cut isNil)
inductive U where
  | non | bl (b : Bool) | int (i : Int) | str (s : List Nat) | tup (xs : List U) | kl (xs : List U) | lst (xs : List U) | dct (kvs : List (Ky × U)) | obj (i : Nat)
deriving Inhabited
mutual
def U.dec : (a b : U) → Decidable (a = b)
  | .non, .non => .isTrue rfl
  | .bl a, .bl b => if h : a = b then .isTrue (by rw [h]) else .isFalse (fun e => h (by injection e))
  | .int a, .int b => if h : a = b then .isTrue (by rw [h]) else .isFalse (fun e => h (by injection e))
  | .str a, .str b => if h : a = b then .isTrue (by rw [h]) else .isFalse (fun e => h (by injection e))
  | .tup a, .tup b => match U.decs a b with
    | .isTrue h => .isTrue (by rw [h])
    | .isFalse h => .isFalse (fun e => h (by injection e))
  | .kl a, .kl b => match U.decs a b with
    | .isTrue h => .isTrue (by rw [h])
    | .isFalse h => .isFalse (fun e => h (by injection e))
  | .lst a, .lst b => match U.decs a b with
    | .isTrue h => .isTrue (by rw [h])
    | .isFalse h => .isFalse (fun e => h (by injection e))
  | .dct a, .dct b => match U.deck a b with
    | .isTrue h => .isTrue (by rw [h])
    | .isFalse h => .isFalse (fun e => h (by injection e))
  | .obj a, .obj b => if h : a = b then .isTrue (by rw [h]) else .isFalse (fun e => h (by injection e))
  | .non, .bl _ | .non, .int _ | .non, .str _ | .non, .tup _ | .non, .kl _ | .non, .lst _ | .non, .dct _ | .non, .obj _ => .isFalse (fun e => nomatch e)
  | .bl _, .non | .bl _, .int _ | .bl _, .str _ | .bl _, .tup _ | .bl _, .kl _ | .bl _, .lst _ | .bl _, .dct _ | .bl _, .obj _ => .isFalse (fun e => nomatch e)
  | .int _, .non | .int _, .bl _ | .int _, .str _ | .int _, .tup _ | .int _, .kl _ | .int _, .lst _ | .int _, .dct _ | .int _, .obj _ => .isFalse (fun e => nomatch e)
  | .str _, .non | .str _, .bl _ | .str _, .int _ | .str _, .tup _ | .str _, .kl _ | .str _, .lst _ | .str _, .dct _ | .str _, .obj _ => .isFalse (fun e => nomatch e)
  | .tup _, .non | .tup _, .bl _ | .tup _, .int _ | .tup _, .str _ | .tup _, .kl _ | .tup _, .lst _ | .tup _, .dct _ | .tup _, .obj _ => .isFalse (fun e => nomatch e)
  | .kl _, .non | .kl _, .bl _ | .kl _, .int _ | .kl _, .str _ | .kl _, .tup _ | .kl _, .lst _ | .kl _, .dct _ | .kl _, .obj _ => .isFalse (fun e => nomatch e)
  | .lst _, .non | .lst _, .bl _ | .lst _, .int _ | .lst _, .str _ | .lst _, .tup _ | .lst _, .kl _ | .lst _, .dct _ | .lst _, .obj _ => .isFalse (fun e => nomatch e)
  | .dct _, .non | .dct _, .bl _ | .dct _, .int _ | .dct _, .str _ | .dct _, .tup _ | .dct _, .kl _ | .dct _, .lst _ | .dct _, .obj _ => .isFalse (fun e => nomatch e)
  | .obj _, .non | .obj _, .bl _ | .obj _, .int _ | .obj _, .str _ | .obj _, .tup _ | .obj _, .kl _ | .obj _, .lst _ | .obj _, .dct _ => .isFalse (fun e => nomatch e)def U.decs : (a b : List U) → Decidable (a = b)
  | [], [] => .isTrue rfl
  | x :: xs, y :: ys => match U.dec x y, U.decs xs ys with
    | .isTrue h, .isTrue k => .isTrue (by rw [h, k])
    | .isFalse h, _ => .isFalse (fun e => h (by injection e))
    | _, .isFalse k => .isFalse (fun e => k (by injection e))
  | [], _ :: _ => .isFalse (fun e => nomatch e)
  | _ :: _, [] => .isFalse (fun e => nomatch e)
def U.deck : (a b : List (Ky × U)) → Decidable (a = b)
  | [], [] => .isTrue rfl
  | (k, x) :: xs, (q, y) :: ys => match decEq k q, U.dec x y, U.deck xs ys with
    | .isTrue j, .isTrue h, .isTrue k => .isTrue (by rw [j, h, k])
    | .isFalse j, _, _ => .isFalse (fun e => j (by injection e with e _; injection e))
    | _, .isFalse h, _ => .isFalse (fun e => h (by injection e with e _; injection e))
    | _, _, .isFalse k => .isFalse (fun e => k (by injection e))
  | [], _ :: _ => .isFalse (fun e => nomatch e)
  | _ :: _, [] => .isFalse (fun e => nomatch e)
end
instance : DecidableEq U := U.dec
def U.key : U → Option Ky
  | .int i => some (.inl i)
  | .str s => some (.inr s)
  | _ => none
def keyD : Ky → PyData
  | .inl i => .int i
  | .inr x => .str ⟨x.toArray⟩
mutual
/-- as the library's data -/
def U.toP : U → PyData
  | .non => .none
  | .bl b => .bool b
  | .int i => .int i
  | .str x => .str ⟨x.toArray⟩
  | .tup xs => .tuple (toPs xs)
  | .kl xs => .list (toPs xs)
  | .lst xs => .list (toPs xs)
  | .dct kvs => .dict (toPk kvs)
  | .obj _ => .none
def toPs : List U → List PyData
  | [] => []
  | x :: xs => x.toP :: toPs xs
def toPk : List (Ky × U) → List (PyData × PyData)
  | [] => []
  | (k, x) :: xs => (keyD k, x.toP) :: toPk xs
end
def strOk (x : List Nat) : Bool := x.all fun c => decide (c < 1114112)
def keyOk : Ky → Bool
  | .inl i => decide (i.natAbs < 10 ^ 70)
  | .inr x => strOk x
mutual
/-- what can be shown -/
def U.fine : U → Bool
  | .non => true
  | .bl _ => true
  | .int i => decide (i.natAbs < 10 ^ 70)
  | .str x => strOk x
  | .tup xs => fines xs
  | .kl _ => false
  | .lst xs => fines xs
  | .dct kvs => finek kvs
  | .obj _ => false
def fines : List U → Bool
  | [] => true
  | x :: xs => x.fine && fines xs
def finek : List (Ky × U) → Bool
  | [] => true
  | (k, x) :: xs => keyOk k && x.fine && finek xs
end
mutual
/-- what can be held against another -/
def U.lay : U → Bool
  | .non => true
  | .bl _ => true
  | .int _ => true
  | .str x => strOk x
  | .tup xs => lays xs
  | .kl xs => lays xs
  | .lst xs => lays xs
  | .dct _ => false
  | .obj _ => false
def lays : List U → Bool
  | [] => true
  | x :: xs => x.lay && lays xs
end
mutual
def U.dep : U → Nat
  | .tup xs => deps xs + 1
  | .kl xs => deps xs + 1
  | .lst xs => deps xs + 1
  | .dct kvs => depk kvs + 1
  | .non => 0
  | .bl _ => 0
  | .int _ => 0
  | .str _ => 0
  | .obj _ => 0
def deps : List U → Nat
  | [] => 0
  | x :: xs => max x.dep (deps xs)
def depk : List (Ky × U) → Nat
  | [] => 0
  | (_, x) :: xs => max x.dep (depk xs)
end
def keyBlk : Ky → Nat
  | .inl _ => 0
  | .inr x => x.length
mutual
def U.blk : U → Nat
  | .str x => x.length
  | .tup xs => blks xs
  | .kl xs => blks xs
  | .lst xs => blks xs
  | .dct kvs => blkk kvs
  | .non => 0
  | .bl _ => 0
  | .int _ => 0
  | .obj _ => 0
def blks : List U → Nat
  | [] => 0
  | x :: xs => x.blk + 1 + blks xs
def blkk : List (Ky × U) → Nat
  | [] => 0
  | (k, x) :: xs => keyBlk k + x.blk + 2 + blkk xs
end
/-- how it is shown -/
def rp (u : U) : List Nat := u.toP.shown.cps.toList
/-- what can change, and is known to many -/
inductive MO where
  | lst (xs : List U) | dct (kvs : List (Ky × U))
deriving DecidableEq
abbrev Sto := List MO
/-- a name: nothing, data, a list or dict that nobody else has hold of -/
inductive Sl where
  | no | val (u : U) | own (u : U)
  /-- a dict while it is walked -/
  | lk (u : U)
deriving DecidableEq
abbrev Lo := List Sl
inductive R (α : Type) where
  | ok (a : α) (s : Sto) | ex (e : U) (s : Sto) | bad
def R.bind {α β : Type} (r : R α) (f : α → Sto → R β) : R β := match r with
  | .ok a s => f a s
  | .ex e s => .ex e s
  | .bad => .bad
def R.noex {α : Type} (r : R α) : R α := match r with
  | .ex _ _ => .bad
  | r => r
@[simp] theorem R.noex_ok {α : Type} {a : α} {s : Sto} : (R.ok a s).noex = R.ok a s := rfl
@[simp] theorem R.noex_bad {α : Type} : (R.bad : R α).noex = R.bad := rfl
@[simp] theorem R.bind_ok {α β : Type} {a : α} {s : Sto} {f : α → Sto → R β} : (R.ok a s).bind f = f a s := rfl
@[simp] theorem R.bind_bad {α β : Type} {f : α → Sto → R β} : (R.bad : R α).bind f = R.bad := rfl
@[simp] theorem R.bind_ex {α β : Type} {e : U} {s : Sto} {f : α → Sto → R β} : (R.ex e s : R α).bind f = R.ex e s := rfl
def R.post {α : Type} (r : R α) (Q : α → Sto → Prop) (E : U → Sto → Prop) : Prop := match r with
  | .ok a s => Q a s
  | .ex e s => E e s
  | .bad => False
theorem R.post_mono {α : Type} {r : R α} {Q Q' : α → Sto → Prop} {E E' : U → Sto → Prop} (h : r.post Q E) (hq : ∀ a s, Q a s → Q' a s) (he : ∀ a s, E a s → E' a s) : r.post Q' E' := by
  cases r with
  | ok a s => exact hq _ _ h
  | ex a s => exact he _ _ h
  | bad => exact h
theorem R.post_bind {α β : Type} {r : R α} {f : α → Sto → R β} {Q : β → Sto → Prop} {E : U → Sto → Prop} : (r.bind f).post Q E ↔ r.post (fun a s => (f a s).post Q E) E := by
  cases r <;> exact Iff.rfl
def ofO {α : Type} (o : Option α) (s : Sto) : R α := match o with
  | some a => .ok a s
  | none => .bad

/-! ### operations -/
def lookK (kvs : List (Ky × U)) (k : Ky) : Option U := (kvs.find? fun kv => decide (kv.1 = k)).map (·.2)
def putK (kvs : List (Ky × U)) (k : Ky) (v : U) : List (Ky × U) :=
  if kvs.any (fun kv => decide (kv.1 = k)) then kvs.map (fun kv => if kv.1 = k then (kv.1, v) else kv) else kvs ++ [(k, v)]
/-- a list's items -/
def lst? (s : Sto) : U → Option (List U)
  | .lst xs => some xs
  | .kl xs => some xs
  | .obj i => match s[i]? with
    | some (.lst xs) => some xs
    | _ => none
  | _ => none
/-- .. of a list made in the program -/
def mst? (s : Sto) : U → Option (List U)
  | .lst xs => some xs
  | .obj i => match s[i]? with
    | some (.lst xs) => some xs
    | _ => none
  | _ => none
def seq? (s : Sto) : U → Option (List U)
  | .tup xs => some xs
  | d => lst? s d
/-- a dict's pairs -/
def dct? (s : Sto) : U → Option (List (Ky × U))
  | .dct kvs => some kvs
  | .obj i => match s[i]? with
    | some (.dct kvs) => some kvs
    | _ => none
  | _ => none
def opAdd (x y : U) (s : Sto) : Option U := match x, y with
  | .int a, .int b => some (.int (a + b))
  | .str a, .str b => if a.length + b.length ≤ line then some (.str (a ++ b)) else none
  | .tup a, .tup b => if a.length + b.length ≤ line then some (.tup (a ++ b)) else none
  | x, y => match mst? s x, mst? s y with
    | some a, some b => if a.length + b.length ≤ line then some (.lst (a ++ b)) else none
    | _, _ => none
def opMul (x y : U) (s : Sto) : Option U := match x, y with
  | .int a, .int b => if (-big < a ∧ a < big) ∨ (-big < b ∧ b < big) then some (.int (a * b)) else none
  | .tup a, .int k => if -1000000 ≤ k ∧ k ≤ 1000000 ∧ a.length * k.toNat ≤ line then some (.tup (List.replicate k.toNat a).flatten) else none
  | .str z, .int k => if 2 ≤ k ∧ k ≤ 1000000 ∧ z.length * k.toNat ≤ line then some (.str (List.replicate k.toNat z).flatten) else none
  | x, .int k => match mst? s x with
    | some a => if k ≤ 100000 ∧ a.length * k.toNat ≤ line ∧ -100000 ≤ k then some (.lst (List.replicate k.toNat a).flatten) else none
    | none => none
  | _, _ => none
def binO (o : Bop) (x y : U) (s : Sto) : Option U := match o with
  | .add => opAdd x y s
  | .mul => opMul x y s
  | .sub => match x, y with
    | .int a, .int b => some (.int (a - b))
    | _, _ => none
  | .div => match x, y with
    | .int a, .int b => if 0 < b ∧ b < big then some (.int (a / b)) else none
    | _, _ => none
  | .mod => match x, y with
    | .int a, .int b => if 0 < b then some (.int (a % b)) else none
    | _, _ => none
  | .pow => match x, y with
    | .int a, .int b => if 0 ≤ b ∧ b ≤ 1000000 ∧ a.natAbs < 18446744073709551616 then some (.int (a ^ b.toNat)) else none
    | _, _ => none
def bin (o : Bop) (x y : U) (s : Sto) : R U := ofO (binO o x y s) s
def ints? : List U → Option (List Int)
  | [] => some []
  | .int i :: r => (ints? r).map (i :: ·)
  | _ :: _ => none
def strs? : List U → Option (List (List Nat))
  | [] => some []
  | .str i :: r => (strs? r).map (i :: ·)
  | _ :: _ => none
def bls? : List U → Option (List Bool)
  | [] => some []
  | .bl i :: r => (bls? r).map (i :: ·)
  | _ :: _ => none
def flatD : U → Bool
  | .non | .bl _ | .int _ | .str _ => true
  | _ => false
def eqF : U → U → Bool
  | .non, .non => true
  | .bl a, .bl b => a == b
  | .bl a, .int b => (if a then 1 else 0) == b
  | .int a, .bl b => a == (if b then 1 else 0)
  | .int a, .int b => a == b
  | .str a, .str b => a == b
  | _, _ => false
def inF (x : U) (xs : List U) : Bool := xs.any fun y => eqF y x
/-- two lists of unlike lengths -/
def lenNe (s : Sto) (x y : U) : Bool := match lst? s x, lst? s y with
  | some a, some b => a.length != b.length
  | _, _ => false
def eqD (s : Sto) (x y : U) : Option Bool := match x, y with
  | .str a, .str b => some (a == b)
  | .tup a, .tup b => if (a.isEmpty || b.isEmpty) = true then some (a.isEmpty && b.isEmpty) else if lays a = true ∧ lays b = true ∧ deps a ≤ 38 ∧ deps b ≤ 38 then some (PyData.eqvAll (toPs a) (toPs b)) else none
  | _, _ => if lenNe s x y = true then some false else if x.lay = true ∧ y.lay = true ∧ x.dep ≤ 39 ∧ y.dep ≤ 39 then some (PyData.eqv x.toP y.toP) else none
def opIn (x y : U) (s : Sto) : Option Bool := match y with
  | .str z => match x with
    | .str [c] => some (decide (c ∈ z))
    | _ => none
  | .tup ys => if flatD x = true ∧ ys.all flatD = true then some (inF x ys) else none
  | _ => match lst? s y with
    | some ys => if flatD x = true ∧ ys.all flatD = true then some (inF x ys) else none
    | none => match dct? s y, x.key with
      | some kvs, some k => some (lookK kvs k).isSome
      | _, _ => none
def opLt (f : Int → Int → Bool) (x y : U) : Option Bool := match x, y with
  | .int a, .int b => some (f a b)
  | _, _ => none
def opIs (x y : U) : Option Bool := match y with
  | .non => match x with
    | .non => some true
    | _ => some false
  | .bl b => match x with
    | .bl a => some (decide (a = b))
    | _ => none
  | _ => none
def cmpO (o : Cop) (x y : U) (s : Sto) : Option Bool := match o with
  | .eq => eqD s x y
  | .ne => (eqD s x y).map (!·)
  | .lt => opLt (fun a b => decide (a < b)) x y
  | .le => opLt (fun a b => decide (a ≤ b)) x y
  | .gt => opLt (fun a b => decide (b < a)) x y
  | .ge => opLt (fun a b => decide (b ≤ a)) x y
  | .is => opIs x y
  | .isn => (opIs x y).map (!·)
  | .mem => opIn x y s
  | .nmem => (opIn x y s).map (!·)
def cmp (o : Cop) (x y : U) (s : Sto) : R U := ofO ((cmpO o x y s).map .bl) s
def opIx (x y : U) (s : Sto) : R U := match x with
  | .tup xs => match y with
    | .int i => ofO (L2.atI xs i) s
    | _ => .bad
  | .str z => match y with
    | .int i => if z.length ≤ line then ofO ((L2.atI z i).map fun c => .str [c]) s else .bad
    | _ => .bad
  | _ => match lst? s x with
    | some xs => match y with
      | .int i => ofO (L2.atI xs i) s
      | _ => .bad
    | none => match dct? s x with
      | some kvs => match y.key with
        | some q => ofO (lookK kvs q) s
        | none => .bad
      | none => .bad
def opSl (x : U) (lo hi : Option Int) (s : Sto) : R U := match x with
  | .tup xs => .ok (.tup (cut xs lo hi)) s
  | .str z => if z.length ≤ line then .ok (.str (cut z lo hi)) s else .bad
  | _ => match lst? s x with
    | some xs => .ok (.lst (cut xs lo hi)) s
    | none => .bad
def opRev (x : U) (s : Sto) : R U := match x with
  | .tup xs => .ok (.tup xs.reverse) s
  | _ => match lst? s x with
    | some xs => .ok (.lst xs.reverse) s
    | none => .bad
def isTy (t : Ty) (x : U) (s : Sto) : Option Bool := match x with
  | .non => some false
  | .bl _ => some (t == .bool || t == .int)
  | .int _ => some (t == .int)
  | .str _ => some (t == .str)
  | .tup _ => some (t == .tuple)
  | .kl _ => some (t == .list)
  | .lst _ => some (t == .list)
  | .dct _ => some (t == .dict)
  | .obj i => match s[i]? with
    | some (.lst _) => some (t == .list)
    | some (.dct _) => some (t == .dict)
    | none => none
def bLen (x : U) (s : Sto) : R U := match x with
  | .str z => if z.length ≤ line then .ok (.int z.length) s else .bad
  | .tup xs => .ok (.int xs.length) s
  | _ => match lst? s x with
    | some xs => .ok (.int xs.length) s
    | none => .bad
def keyU : Ky → U
  | .inl i => .int i
  | .inr s => .str s
/-- a pair whose first is a key -/
def pair? : U → Option (Ky × U)
  | .tup [k, v] => k.key.map fun q => (q, v)
  | _ => none
def pairs? : List U → Option (List (Ky × U))
  | [] => some []
  | x :: xs => match pair? x, pairs? xs with
    | some y, some ys => some (y :: ys)
    | _, _ => none
def mrgK (kvs more : List (Ky × U)) : List (Ky × U) := more.foldl (fun acc kv => putK acc kv.1 kv.2) kvs
def isTys (x : U) (s : Sto) : List Ty → Option (List Bool)
  | [] => some []
  | t :: ts => match isTy t x s, isTys x s ts with
    | some b, some bs => some (b :: bs)
    | _, _ => none
def getD (o k d : U) (s : Sto) : R U := match dct? s o with
  | some kvs => match k.key with
    | some q => .ok ((lookK kvs q).getD d) s
    | none => .bad
  | none => .bad
def enumU (n : Nat) : List U → List U
  | [] => []
  | x :: xs => .tup [.int (n : Nat), x] :: enumU (n + 1) xs
def bi1 (b : Bi) (x : U) (s : Sto) : R U := match b with
  | .len => bLen x s
  | .abs => match x with
    | .int i => .ok (.int (if i < 0 then -i else i)) s
    | _ => .bad
  | .int => match x with
    | .int i => .ok (.int i) s
    | .bl k => .ok (.int (if k then 1 else 0)) s
    | _ => .bad
  | .all => match (lst? s x).bind bls? with
    | some bs => .ok (.bl (bs.all id)) s
    | none => .bad
  | .any => match (lst? s x).bind bls? with
    | some bs => .ok (.bl (bs.any id)) s
    | none => .bad
  | .list => match x with
    | .str z => if z.length ≤ line then .ok (.lst (z.map fun c => .str [c])) s else .bad
    | _ => match seq? s x with
      | some xs => .ok (.lst xs) s
      | none => match dct? s x with
        | some kvs => .ok (.lst (kvs.map fun kv => keyU kv.1)) s
        | none => .bad
  | .dict => match dct? s x with
    | some kvs => .ok (.dct kvs) s
    | none => match (lst? s x).bind pairs? with
      | some kvs => .ok (.dct (mrgK [] kvs)) s
      | none => .bad
  | .max => match (lst? s x).bind ints? with
    | some (n :: ns) => .ok (.int (Z.topI n ns)) s
    | _ => .bad
  | .min => match (lst? s x).bind ints? with
    | some (n :: ns) => .ok (.int (Z.lowI n ns)) s
    | _ => .bad
  | .tuple => match seq? s x with
    | some xs => .ok (.tup xs) s
    | none => .bad
  | .sum => match (lst? s x).bind ints? with
    | some is => .ok (.int is.sum) s
    | none => .bad
  | .repr => if x.fine = true ∧ x.dep ≤ 39 ∧ x.blk ≤ 200000 then .ok (.str (rp x)) s else .bad
  | .str => match x with
    | .int i => if i.natAbs.log2 < 1920 then .ok (.str (toString i : PySem.Str).cps.toList) s else .bad
    | _ => .bad
  | .ord => match x with
    | .str [c] => .ok (.int c) s
    | _ => .bad
  | .chr => match x with
    | .int i => if 0 ≤ i ∧ i ≤ 1114111 then .ok (.str [i.toNat]) s else .bad
    | _ => .bad
  | _ => .bad
def bi2 (b : Bi) (x y : U) (s : Sto) : R U := match b with
  | .divmod => match x, y with
    | .int i, .int j => if 0 < j ∧ j < 1073741824 then .ok (.tup [.int (i / j), .int (i % j)]) s else .bad
    | _, _ => .bad
  | .min => match x, y with
    | .int i, .int j => .ok (.int (if j < i then j else i)) s
    | _, _ => .bad
  | .max => match x, y with
    | .int i, .int j => .ok (.int (if j > i then j else i)) s
    | _, _ => .bad
  | _ => .bad
def biF (b : Bi) (xs : List U) (s : Sto) : R U := match xs with
  | [x] => bi1 b x s
  | [x, y] => bi2 b x y s
  | _ => .bad
/-- a list's own change: what is told, what the list is then -/
def mtL (s : Sto) (m : Mt) (zs : List U) (xs : List U) : Option (U × List U) := match m with
  | .append => match xs with
    | [y] => if zs.length < line then some (.non, zs ++ [y]) else none
    | _ => none
  | .reverse => match xs with
    | [] => some (.non, zs.reverse)
    | _ => none
  | .extend => match xs with
    | [y] => match mst? s y with
      | some ys => if zs.length + ys.length ≤ line then some (.non, zs ++ ys) else none
      | none => none
    | _ => none
  | .pop => match xs with
    | [] => match zs[zs.length - 1]? with
      | some z => some (z, zs.dropLast)
      | none => none
    | _ => none
  | .popi => match xs with
    | [.int n] => if -1000000000 ≤ n ∧ n ≤ 1000000000 then (match L2.ixN zs.length n with
      | some k => match zs[k]? with
        | some z => some (z, zs.eraseIdx k)
        | none => none
      | none => none) else none
    | _ => none
  | _ => none
def mth (m : Mt) (o : U) (xs : List U) (s : Sto) : R U := match o with
  | .obj i => match s[i]? with
    | some (.lst zs) => match mtL s m zs xs with
      | some (u, ys) => .ok u (s.set i (.lst ys))
      | none => .bad
    | _ => .bad
  | .str z => match m with
    | .join => match xs with
      | [x] => match (mst? s x).bind strs? with
        | some ys => if (ys.map (·.length)).sum + ys.length * z.length ≤ line then .ok (.str (joinD z ys)) s else .bad
        | none => .bad
      | _ => .bad
    | .upper => if xs.isEmpty = true ∧ z.all (fun c => decide (c < 128)) = true ∧ z.length ≤ 1000000 then .ok (.str (z.map upA)) s else .bad
    | _ => .bad
  | _ => .bad
/-- o[i] = v of what is told: what it is then -/
def setI (o : U) (i v : U) : Option U := match o with
  | .lst xs => match i with
    | .int n => (L2.ixN xs.length n).map fun j => .lst (xs.set j v)
    | _ => none
  | .dct kvs => match i.key with
    | some q => if kvs.length < line then some (.dct (putK kvs q v)) else none
    | none => none
  | _ => none
def setS (o p q v : U) : Option U := match o with
  | .lst xs => match p, q, v with
    | .int a, .int c, .tup ys => if 0 ≤ a ∧ a ≤ c ∧ c ≤ xs.length ∧ xs.length + ys.length ≤ line then some (.lst (xs.take a.toNat ++ ys ++ xs.drop c.toNat)) else none
    | _, _, _ => none
  | _ => none
def MO.toU : MO → U
  | .lst xs => .lst xs
  | .dct kvs => .dct kvs
def U.toMO : U → Option MO
  | .lst xs => some (.lst xs)
  | .dct kvs => some (.dct kvs)
  | _ => none
/-- a thing of the store is put anew -/
def putO (i : Nat) (o : Option U) (s : Sto) : R Unit := match o.bind U.toMO with
  | some m => .ok () (s.set i m)
  | none => .bad
def stIx (o i v : U) (s : Sto) : R Unit := match o with
  | .obj k => putO k ((s[k]?).bind fun m => setI m.toU i v) s
  | _ => .bad
def stSl (o p q v : U) (s : Sto) : R Unit := match o with
  | .obj k => putO k ((s[k]?).bind fun m => setS m.toU p q v) s
  | _ => .bad

/-! ### terms -/
inductive Fl where | nx | brk | cnt | ret (o : Bool) (d : U)
structure Src where
  its : List U
  grd : Option (Nat × MO)
def Src.ok (r : Src) (s : Sto) : Bool := match r.grd with
  | none => true
  | some (i, o) => decide (s[i]? = some o)
structure Sm where
  /-- a value that others may keep -/
  e : Lo → Sto → R U
  /-- a value that is looked at -/
  p : Lo → Sto → R U
  /-- a value for a name: whether nobody else has hold of it; the names behind -/
  x : Lo → Sto → R ((Bool × U) × Lo)
  l : Lo → Sto → R (List U)
  lp : Lo → Sto → R (List U)
  w : Lo → Sto → R Src
  wp : Lo → Sto → R Src
  t : Bool → U → Lo → Sto → R Lo
  /-- a target of names alone -/
  tn : U → Lo → Option Lo
  tns : List U → Lo → Option Lo
  s : Lo → Sto → R (Fl × Lo)
  /-- what is made goes to the store -/
  n : Lo → Sto → R (Fl × Lo)
  v : Option Nat
def Sm.bad : Sm := ⟨fun _ _ => .bad, fun _ _ => .bad, fun _ _ => .bad, fun _ _ => .bad, fun _ _ => .bad, fun _ _ => .bad, fun _ _ => .bad, fun _ _ _ _ => .bad, fun _ _ => none, fun _ _ => none, fun _ _ => .bad, fun _ _ => .bad, none⟩
/-- a term whose value may be shared -/
def Sm.ofE (f : Lo → Sto → R U) : Sm := { Sm.bad with e := f, p := f, x := fun l s => (f l s).bind fun u s1 => .ok ((false, u), l) s1 }
/-- a term whose value is new -/
def Sm.ofN (f : Lo → Sto → R U) : Sm := { Sm.bad with e := f, p := f, x := fun l s => (f l s).bind fun u s1 => .ok ((true, u), l) s1 }
def Sm.ofW (f : Lo → Sto → R Src) : Sm := { Sm.bad with w := f, wp := f }
def Sm.ofS (f : Lo → Sto → R (Fl × Lo)) : Sm := { Sm.bad with s := f }
abbrev Cl := Nat → List U → Sto → R (Bool × U)
def asB (d : U) (s : Sto) : R Bool := match d with
  | .bl b => .ok b s
  | _ => .bad
def wipe (l : Lo) : List Nat → Lo
  | [] => l
  | v :: vs => (wipe l vs).set v .no
def frz (l : Lo) : List Nat → Lo
  | [] => l
  | i :: is => match l[i]? with
    | some (.own u) => frz (l.set i (.val u)) is
    | _ => frz l is
/-- what a name holds -/
def hideL (l : Lo) (i : Nat) (kvs : List (Ky × U)) : Lo := (l.map fun s => match s with | .own _ => .no | s => s).set i (.lk (.dct kvs))
def slot (o : Bool) (u : U) : Sl := match u with
  | .lst _ => if o = true then .own u else .val u
  | .dct _ => if o = true then .own u else .val u
  | _ => .val u
def forL (src : Src) (t : U → Lo → Option Lo) (b : Lo → Sto → R (Fl × Lo)) : List U → Lo → Sto → R (Fl × Lo)
  | [], l, s => if src.ok s then .ok (.nx, l) s else .bad
  | d :: ds, l, s => if src.ok s then (ofO (t d l) s).bind fun l1 s1 => (b l1 s1).bind fun r s2 => (match r.1 with
    | .nx => forL src t b ds r.2 s2
    | .cnt => forL src t b ds r.2 s2
    | .brk => .ok (.nx, r.2) s2
    | .ret o v => .ok (.ret o v, r.2) s2) else .bad
/-- a comprehension's turns: what is made -/
def comL (src : Src) (l : Lo) (t : U → Lo → Option Lo) (c : Lo → Sto → R Bool) (e : Lo → Sto → R U) : List U → Sto → R (List U)
  | [], s => if src.ok s then .ok [] s else .bad
  | d :: ds, s => if src.ok s then (ofO (t d l) s).bind fun l1 s1 => (c l1 s1).bind fun b s2 => if b = true then
      (e l1 s2).bind fun y s3 => (comL src l t c e ds s3).bind fun ys s4 => .ok (y :: ys) s4
    else comL src l t c e ds s2 else .bad
def comD (src : Src) (l : Lo) (t : U → Lo → Option Lo) (c : Lo → Sto → R Bool) (e1 e2 : Lo → Sto → R U) : List U → List (Ky × U) → Sto → R (List (Ky × U))
  | [], acc, s => if src.ok s then .ok acc s else .bad
  | d :: ds, acc, s => if src.ok s then (ofO (t d l) s).bind fun l1 s1 => (c l1 s1).bind fun b s2 => if b = true then
      (e1 l1 s2).bind fun x s3 => (e2 l1 s3).bind fun y s4 => (match x.key with
        | some q => if acc.length < line then comD src l t c e1 e2 ds (putK acc q y) s4 else .bad
        | none => .bad)
    else comD src l t c e1 e2 ds acc s2 else .bad
/-- the inner for of a comprehension of two -/
def comA (src : Src) (l : Lo) (t : U → Lo → Option Lo) (e : Lo → Sto → R U) : List U → Sto → R (List U)
  | [], s => if src.ok s then .ok [] s else .bad
  | d :: ds, s => if src.ok s then (ofO (t d l) s).bind fun l1 s1 => (e l1 s1).bind fun y s2 => (comA src l t e ds s2).bind fun ys s3 => .ok (y :: ys) s3 else .bad
def com2 (src : Src) (l : Lo) (t : U → Lo → Option Lo) (w2 : Lo → Sto → R Src) (own2 : List Nat) (t2 : U → Lo → Option Lo) (e : Lo → Sto → R U) : List U → Sto → R (List U)
  | [], s => if src.ok s then .ok [] s else .bad
  | d :: ds, s => if src.ok s then (ofO (t d l) s).bind fun l1 s1 => (w2 l1 s1).bind fun src2 s2 =>
      (comA src2 (wipe l1 own2) t2 e src2.its s2).bind fun ys s3 => (com2 src l t w2 own2 t2 e ds s3).bind fun zs s4 => .ok (ys ++ zs) s4 else .bad
def whL (c : Lo → Sto → R Bool) (b : Lo → Sto → R (Fl × Lo)) : Nat → Lo → Sto → R (Fl × Lo)
  | 0, _, _ => .bad
  | n + 1, l, s => (c l s).bind fun k s1 => if k = true then (b l s1).bind fun r s2 => (match r.1 with
    | .nx => whL c b n r.2 s2
    | .cnt => whL c b n r.2 s2
    | .brk => .ok (.nx, r.2) s2
    | .ret o v => .ok (.ret o v, r.2) s2) else .ok (.nx, l) s1
def rng (a b : Int) : List U := (List.range (b - a).toNat).map fun i => U.int (a + (i : Nat))
def rng3 (a b c : Int) : List U := (List.range (rgN a b c)).map fun i => U.int (a + (i : Nat) * c)
def oInt (m : Ex) (f : Lo → Sto → R U) (l : Lo) (s : Sto) : R (Option Int) := match m with
  | .nil => .ok none s
  | _ => (f l s).bind fun d s1 => match d with
    | .int i => .ok (some i) s1
    | _ => .bad
def mtOk (m : Mt) (x : U) (s : Sto) : Bool := match m with
  | .join => match x with
    | .str _ => true
    | _ => false
  | .upper => match x with
    | .str _ => true
    | _ => false
  | _ => match x with
    | .obj i => match s[i]? with
      | some (.lst _) => true
      | _ => false
    | _ => false
/-- whether a method only looks at what it is handed -/
def mtLook : Mt → Bool
  | .extend | .join => true
  | _ => false
mutual
/-- data that has one shape alone -/
def U.one : U → Bool
  | .non => true
  | .bl _ => true
  | .int _ => true
  | .str _ => true
  | .tup xs => ones xs
  | .obj _ => true
  | .kl _ => false
  | .lst _ => false
  | .dct _ => false
def ones : List U → Bool
  | [] => true
  | x :: xs => x.one && ones xs
end
/-- a method of a list that a name alone has hold of -/
def mtOwn : Mt → Bool
  | .join | .upper => false
  | _ => true
def srcEn (x : U) (s : Sto) : R Src := match x with
  | .tup xs => .ok ⟨enumU 0 xs, none⟩ s
  | .lst xs => .ok ⟨enumU 0 xs, none⟩ s
  | _ => .bad
def srcOf (x : U) (s : Sto) : R Src := match x with
  | .tup xs => .ok ⟨xs, none⟩ s
  | .kl xs => .ok ⟨xs, none⟩ s
  | .lst xs => .ok ⟨xs, none⟩ s
  | .str z => .ok ⟨z.map fun c => .str [c], none⟩ s
  | .obj i => (match s[i]? with
    | some (.lst xs) => if ones xs = true then .ok ⟨xs, some (i, .lst xs)⟩ s else .bad
    | _ => .bad)
  | _ => .bad
mutual
/-- a module's constant -/
def ofD : Z.D → U
  | .non => .non
  | .bl b => .bl b
  | .int i => .int i
  | .str s => .str s
  | .tup xs => .tup (ofDs xs)
  | .kl xs => .kl (ofDs xs)
  | .obj _ => .non
def ofDs : List Z.D → List U
  | [] => []
  | x :: xs => ofD x :: ofDs xs
end
mutual
def plainD : Z.D → Bool
  | .non => true
  | .bl _ => true
  | .int _ => true
  | .str _ => true
  | .tup xs => plainDs xs
  | .kl _ => false
  | .obj _ => false
def plainDs : List Z.D → Bool
  | [] => true
  | x :: xs => plainD x && plainDs xs
end
/-- [[ ]] of a list that is new -/
def toNew (u : U) (s : Sto) : R U := match u.toMO with
  | some m => .ok (.obj s.length) (s ++ [m])
  | none => .bad
def sem (cl : Cl) : Ex → Sm
  | .nil => { Sm.bad with l := fun _ s => .ok [] s, lp := fun _ s => .ok [] s, s := fun l s => .ok (.nx, l) s, tns := fun ds l => (match ds with | [] => some l | _ => none) }
  | .cons a r => { Sm.bad with
      l := fun l s => ((sem cl a).e l s).bind fun x s1 => ((sem cl r).l l s1).bind fun xs s2 => .ok (x :: xs) s2
      lp := fun l s => ((sem cl a).p l s).bind fun x s1 => ((sem cl r).lp l s1).bind fun xs s2 => .ok (x :: xs) s2
      tns := fun ds l => (match ds with
        | d :: ds => ((sem cl a).tn d l).bind fun l1 => (sem cl r).tns ds l1
        | [] => none)
      s := fun l s => ((sem cl a).s l s).bind fun r1 s1 => (match r1.1 with
        | .nx => (sem cl r).s r1.2 s1
        | _ => .ok r1 s1) }
  | .var i => { Sm.bad with
      e := fun l s => (match l[i]? with | some (.val d) => .ok d s | _ => .bad)
      p := fun l s => (match l[i]? with | some (.val d) => .ok d s | some (.own d) => .ok d s | _ => .bad)
      x := fun l s => (match l[i]? with | some (.val d) => .ok ((false, d), l) s | some (.own d) => .ok ((true, d), l.set i .no) s | _ => .bad)
      v := some i }
  | .glb _ d => Sm.ofE fun _ s => if plainD d = true then .ok (ofD d) s else .bad
  | .int i => Sm.ofE fun _ s => .ok (.int i) s
  | .str x => Sm.ofE fun _ s => .ok (.str x) s
  | .bl b => Sm.ofE fun _ s => .ok (.bl b) s
  | .non => Sm.ofE fun _ s => .ok .non s
  | .bin o a b => Sm.ofN fun l s => ((sem cl a).p l s).bind fun x s1 => ((sem cl b).p l s1).bind fun y s2 => bin o x y s2
  | .neg a => Sm.ofE fun l s => ((sem cl a).p l s).bind fun x s1 => (match x with | .int i => .ok (.int (-i)) s1 | _ => .bad)
  | .not a => Sm.ofE fun l s => (((sem cl a).p l s).bind asB).bind fun b s1 => .ok (.bl (!b)) s1
  | .and a b => Sm.ofE fun l s => (((sem cl a).p l s).bind asB).bind fun k s1 => if k = true then (sem cl b).e l s1 else .ok (.bl false) s1
  | .or a b => Sm.ofE fun l s => (((sem cl a).p l s).bind asB).bind fun k s1 => if k = true then .ok (.bl true) s1 else (sem cl b).e l s1
  | .one a => Sm.ofE (sem cl a).e
  | .cmp o a b => Sm.ofE fun l s => ((sem cl a).p l s).bind fun x s1 => ((sem cl b).p l s1).bind fun y s2 => cmp o x y s2
  | .cmp2 o p a b c => Sm.ofE fun l s => ((sem cl a).p l s).bind fun x s1 => ((sem cl b).p l s1).bind fun y s2 => ((cmp o x y s2).bind asB).bind fun k s3 =>
      if k = true then ((sem cl c).p l s3).bind fun z s4 => cmp p y z s4 else .ok (.bl false) s3
  | .ite c a b => { Sm.ofE fun l s => (((sem cl c).p l s).bind asB).bind fun k s1 => if k = true then (sem cl a).e l s1 else (sem cl b).e l s1 with
      p := fun l s => (((sem cl c).p l s).bind asB).bind fun k s1 => if k = true then (sem cl a).p l s1 else (sem cl b).p l s1 }
  | .tup es => Sm.ofE fun l s => ((sem cl es).l l s).bind fun xs s1 => if xs.length ≤ line then .ok (.tup xs) s1 else .bad
  | .lst es => Sm.ofN fun l s => ((sem cl es).l l s).bind fun xs s1 => if xs.length ≤ line then .ok (.lst xs) s1 else .bad
  | .dct ks vs => Sm.ofN fun l s => ((sem cl vs).l l s).bind fun ys s2 =>
      if ys.length = ks.length ∧ ks.length ≤ 15 then .ok (.dct ((ks.zip ys).foldl (fun acc kv => putK acc kv.1 kv.2) [])) s2 else .bad
  | .ix a i => Sm.ofE fun l s => ((sem cl a).p l s).bind fun x s1 => ((sem cl i).p l s1).bind fun y s2 => opIx x y s2
  | .sl a lo hi => Sm.ofN fun l s => ((sem cl a).p l s).bind fun x s1 => (oInt lo (sem cl lo).p l s1).bind fun p s2 => (oInt hi (sem cl hi).p l s2).bind fun q s3 => opSl x p q s3
  | .rev a => Sm.ofN fun l s => ((sem cl a).p l s).bind fun x s1 => opRev x s1
  | .call f as => { Sm.ofE fun l s => ((sem cl as).l l s).bind fun xs s1 => (cl f xs s1).bind fun r s2 => .ok r.2 s2 with
      x := fun l s => ((sem cl as).l l s).bind fun xs s1 => (cl f xs s1).bind fun r s2 => .ok (r, l) s2 }
  | .bi b as => Sm.ofN fun l s => ((sem cl as).lp l s).bind fun xs s1 => biF b xs s1
  | .isi a t => Sm.ofE fun l s => ((sem cl a).p l s).bind fun x s1 => (match isTy t x s1 with | some b => .ok (.bl b) s1 | none => .bad)
  | .mt m o as => { Sm.ofE fun l s => ((sem cl o).p l s).bind fun x s1 => if mtOk m x s1 = true then ((if mtLook m = true then (sem cl as).lp else (sem cl as).l) l s1).bind fun xs s2 => mth m x xs s2 else .bad with
      x := fun l s => match ((sem cl o).v.bind fun i => l[i]?) with
        | some (.own (.lst _)) => if mtOwn m = true then ((if mtLook m = true then (sem cl as).lp else (sem cl as).l) l s).bind fun xs s1 => (match (sem cl o).v with
            | some i => (match l[i]? with
              | some (.own (.lst zs)) => (match mtL s1 m zs xs with
                | some (u, ys) => .ok ((false, u), l.set i (.own (.lst ys))) s1
                | none => .bad)
              | _ => .bad)
            | none => .bad) else .bad
        | _ => (((sem cl o).p l s).bind fun x s1 => if mtOk m x s1 = true then ((if mtLook m = true then (sem cl as).lp else (sem cl as).l) l s1).bind fun xs s2 => mth m x xs s2 else .bad).bind fun u s1 => .ok ((false, u), l) s1 }
  | .comp e tg it c own => Sm.ofN fun l s => ((sem cl it).wp l s).bind fun src s1 =>
      (comL src (wipe l own) (sem cl tg).tn (if isNil c = true then (fun _ s => R.ok true s) else (fun l s => ((sem cl c).p l s).bind asB)) (sem cl e).e src.its s1).noex.bind fun ys s2 => if ys.length ≤ line then .ok (.lst ys) s2 else .bad
  | .callK f as kv d => { Sm.ofE fun l s => ((sem cl as).l l s).bind fun xs s1 => ((sem cl kv).l l s1).bind fun ys s2 => (match ys with
      | [] => if plainD d = true then (cl f (xs ++ [ofD d]) s2).bind fun r s2 => .ok r.2 s2 else .bad
      | [y] => (cl f (xs ++ [y]) s2).bind fun r s2 => .ok r.2 s2
      | _ => .bad) with
      x := fun l s => ((sem cl as).l l s).bind fun xs s1 => ((sem cl kv).l l s1).bind fun ys s2 => (match ys with
      | [] => if plainD d = true then (cl f (xs ++ [ofD d]) s2).bind fun r s2 => .ok (r, l) s2 else .bad
      | [y] => (cl f (xs ++ [y]) s2).bind fun r s2 => .ok (r, l) s2
      | _ => .bad) }
  | .gix _ kvs a => Sm.ofE fun l s => ((sem cl a).p l s).bind fun x s1 => (match x with
      | .int z => (match kvs.find? (fun kv => decide (kv.1 = z)) with
        | some kv => .ok (.int kv.2) s1
        | none => .bad)
      | _ => .bad)
  | .sset a => Sm.ofN fun l s => ((sem cl a).p l s).bind fun x s1 => (match (seq? s1 x).bind ints? with
      | some ns => if ns.length ≤ 60 then .ok (.lst ((Z.sset ns).map .int)) s1 else .bad
      | none => .bad)
  | .comp2 e tg it tg2 it2 own own2 => Sm.ofN fun l s => ((sem cl it).wp l s).bind fun src s1 =>
      (com2 src (wipe l own) (sem cl tg).tn (sem cl it2).wp own2 (sem cl tg2).tn (sem cl e).e src.its s1).noex.bind fun ys s2 => if ys.length ≤ line then .ok (.lst ys) s2 else .bad
  | .compD ek ev tg it c own => Sm.ofN fun l s => ((sem cl it).wp l s).bind fun src s1 =>
      (comD src (wipe l own) (sem cl tg).tn (if isNil c = true then (fun _ s => R.ok true s) else (fun l s => ((sem cl c).p l s).bind asB)) (sem cl ek).e (sem cl ev).e src.its [] s1).noex.bind fun kvs s2 => .ok (.dct kvs) s2
  | .itR3 a b c => Sm.ofW fun l s => ((sem cl a).p l s).bind fun x s1 => ((sem cl b).p l s1).bind fun y s2 => ((sem cl c).p l s2).bind fun z s3 => (match x, y, z with
      | .int i, .int j, .int k => if rgOk i j = true ∧ 0 < k ∧ k ≤ 1000000 then .ok ⟨rng3 i j k, none⟩ s3 else .bad
      | _, _, _ => .bad)
  | .lr1 b => Sm.ofN fun l s => ((sem cl b).p l s).bind fun y s1 => (match y with
      | .int j => if rgOk 0 j = true ∧ j ≤ 16777216 then .ok (.lst (rng 0 j)) s1 else .bad
      | _ => .bad)
  | .lr2 a b => Sm.ofN fun l s => ((sem cl a).p l s).bind fun x s1 => ((sem cl b).p l s1).bind fun y s2 => (match x, y with
      | .int i, .int j => if rgOk i j = true ∧ j - i ≤ 16777216 then .ok (.lst (rng i j)) s2 else .bad
      | _, _ => .bad)
  | .get1 o k => Sm.ofE fun l s => ((sem cl o).p l s).bind fun x s1 => if (dct? s1 x).isSome = true then ((sem cl k).p l s1).bind fun y s2 => getD x y .non s2 else .bad
  | .get2 o k d => Sm.ofE fun l s => ((sem cl o).p l s).bind fun x s1 => if (dct? s1 x).isSome = true then ((sem cl k).p l s1).bind fun y s2 => ((sem cl d).e l s2).bind fun z s3 => getD x y z s3 else .bad
  | .lsI a => Sm.ofN fun l s => ((sem cl a).p l s).bind fun x s1 => (match dct? s1 x with
      | some kvs => .ok (.lst (kvs.map fun kv => .tup [keyU kv.1, kv.2])) s1
      | none => .bad)
  | .isiM a ts => Sm.ofE fun l s => ((sem cl a).p l s).bind fun x s1 => (match isTys x s1 ts with
      | some bs => if 0 < ts.length ∧ ts.length ≤ 20 then .ok (.bl (bs.any id)) s1 else .bad
      | none => .bad)
  | .itE e => { Sm.bad with w := fun l s => ((sem cl e).e l s).bind srcEn, wp := fun l s => ((sem cl e).p l s).bind srcEn }
  | .itS e => { Sm.bad with w := fun l s => ((sem cl e).e l s).bind srcOf, wp := fun l s => ((sem cl e).p l s).bind srcOf }
  | .itK i => { Sm.bad with wp := fun l s => match l[i]? with
      | some (.lk (.dct kvs)) => .ok ⟨kvs.map fun kv => keyU kv.1, none⟩ s
      | _ => .bad }
  | .itR1 b => Sm.ofW fun l s => ((sem cl b).p l s).bind fun y s1 => (match y with
      | .int j => if rgOk 0 j then .ok ⟨rng 0 j, none⟩ s1 else .bad
      | _ => .bad)
  | .itR2 a b => Sm.ofW fun l s => ((sem cl a).p l s).bind fun x s1 => ((sem cl b).p l s1).bind fun y s2 => (match x, y with
      | .int i, .int j => if rgOk i j then .ok ⟨rng i j, none⟩ s2 else .bad
      | _, _ => .bad)
  | .tv i => { Sm.bad with t := fun o d l s => .ok (l.set i (slot o d)) s, tn := fun d l => some (l.set i (.val d)) }
  | .tt ts => { Sm.bad with t := fun _ d l s => (match d with | .tup ds => ofO ((sem cl ts).tns ds l) s | _ => .bad), tn := fun d l => (match d with | .tup ds => (sem cl ts).tns ds l | _ => none) }
  | .tix o i => { Sm.bad with t := fun _ d l s => match (sem cl o).v.bind fun i => l[i]? with
      | some (.own u) => ((sem cl i).p l s).bind fun y s1 => (match (sem cl o).v, setI u y d with
          | some j, some u2 => .ok (l.set j (.own u2)) s1
          | _, _ => .bad)
      | _ => ((sem cl o).p l s).bind fun x s1 => ((sem cl i).p l s1).bind fun y s2 => (stIx x y d s2).bind fun _ s3 => .ok l s3 }
  | .tsl o lo hi => { Sm.bad with t := fun _ d l s => match (sem cl o).v.bind fun i => l[i]? with
      | some (.own u) => ((sem cl lo).p l s).bind fun p s1 => ((sem cl hi).p l s1).bind fun q s2 => (match (sem cl o).v, setS u p q d with
          | some j, some u2 => .ok (l.set j (.own u2)) s2
          | _, _ => .bad)
      | _ => ((sem cl o).p l s).bind fun x s1 => ((sem cl lo).p l s1).bind fun p s2 => ((sem cl hi).p l s2).bind fun q s3 => (stSl x p q d s3).bind fun _ s4 => .ok l s4 }
  | .expr e => Sm.ofS fun l s => ((sem cl e).x l s).bind fun r s1 => .ok (.nx, r.2) s1
  | .asg t e => { Sm.bad with
      s := fun l s => ((sem cl e).x l s).bind fun r s1 => ((sem cl t).t r.1.1 r.1.2 r.2 s1).bind fun l1 s2 => .ok (.nx, l1) s2
      n := fun l s => ((sem cl e).x l s).bind fun r s1 => if r.1.1 = true then (toNew r.1.2 s1).bind fun u s2 => ((sem cl t).t false u r.2 s2).bind fun l1 s3 => .ok (.nx, l1) s3 else .bad }
  | .sif c a b => Sm.ofS fun l s => (((sem cl c).p l s).bind asB).bind fun k s1 => if k = true then (sem cl a).s l s1 else (sem cl b).s l s1
  | .sfor t it b => Sm.ofS fun l s => ((sem cl it).w l s).bind fun src s1 => forL src (sem cl t).tn (sem cl b).s src.its l s1
  | .swh c b => Sm.ofS fun l s => whL (fun l s => ((sem cl c).p l s).bind asB) (sem cl b).s whFuel l s
  | .ret e => { Sm.bad with
      s := fun l s => ((sem cl e).x l s).bind fun r s1 => .ok (.ret r.1.1 r.1.2, r.2) s1
      n := fun l s => ((sem cl e).x l s).bind fun r s1 => if r.1.1 = true then (toNew r.1.2 s1).bind fun u s2 => .ok (.ret false u, r.2) s2 else .bad }
  | .retN => Sm.ofS fun l s => .ok (.ret false .non, l) s
  | .pass => Sm.ofS fun l s => .ok (.nx, l) s
  | .brk => Sm.ofS fun l s => .ok (.brk, l) s
  | .cnt => Sm.ofS fun l s => .ok (.cnt, l) s
  | .lockE i a => Sm.ofE fun l s => match l[i]? with
      | some (.own (.dct kvs)) => ((sem cl a).e (hideL l i kvs) s).noex
      | _ => .bad
  | .lockS _ _ => Sm.bad
  | .rai => Sm.bad
  | .fz is a => { Sm.bad with s := fun l s => (sem cl a).s (frz l is) s, n := fun l s => (sem cl a).n (frz l is) s }
  | .new a => Sm.ofS (sem cl a).n
/-- whether nobody else has hold of what a def tells -/
def ownF (o : Bool) (u : U) : Bool := match u with
  | .lst _ => o
  | .dct _ => o
  | _ => false
def runFn (cl : Cl) (f : Fn) (as : List U) (s : Sto) : R (Bool × U) :=
  if as.length = f.np then ((sem cl f.body).s (as.map .val ++ List.replicate (f.nn - f.np) .no) s).bind fun r s1 => (match r.1 with
    | .ret o d => .ok (ownF o d, d) s1
    | .nx => .ok (false, .non) s1
    | _ => .bad) else .bad
def callN (fs : List Fn) : Nat → Cl
  | 0 => fun _ _ _ => .bad
  | n + 1 => fun f as s => match fs[f]? with
    | some g => runFn (callN fs n) g as s
    | none => .bad
end Y

/-! YRel: the plain layer over the store of ZCore. -/
namespace Y
open Z (Ky Bop Cop Bi Ty Mt Ex Fn line big D)
/-- a world: where the plain store's things are, and the store -/
structure Wd where
  m : List Nat
  s : Z.Sto
abbrev Ps := Nat → Prop
/-- a later world: what is not the plain store's, nor of C, stays -/
structure Le (C : Ps) (w w' : Wd) : Prop where
  pre : ∀ (i j : Nat), w.m[i]? = some j → w'.m[i]? = some j
  out : ∀ j, j < w.s.length → j ∉ w.m → ¬ C j → j ∉ w'.m
  old : ∀ (j : Nat) (o : Z.MO), w.s[j]? = some o → j ∉ w.m → ¬ C j → w'.s[j]? = some o
  len : w.s.length ≤ w'.s.length
theorem Le.refl {C : Ps} {w : Wd} : Le C w w := ⟨fun _ _ h => h, fun _ _ h _ => h, fun _ _ h _ _ => h, Nat.le_refl _⟩
theorem lt_of_get {α : Type} {s : List α} {i : Nat} {o : α} (h : s[i]? = some o) : i < s.length := (List.getElem?_eq_some_iff.mp h).1
theorem Le.trans {C : Ps} {a b c : Wd} (h : Le C a b) (k : Le C b c) : Le C a c :=
  ⟨fun i j e => k.pre i j (h.pre i j e), fun j l e c => k.out j (Nat.lt_of_lt_of_le l h.len) (h.out j l e c) c, fun j o e n nc => k.old j o (h.old j o e n nc) (h.out j (lt_of_get e) n nc) nc, Nat.le_trans h.len k.len⟩
theorem Le.weak {C C' : Ps} {a b : Wd} (h : Le C a b) (k : ∀ j, C j → C' j) : Le C' a b := ⟨h.pre, fun j l e c => h.out j l e fun q => c (k j q), fun j o e n nc => h.old j o e n fun c => nc (k j c), h.len⟩
mutual
inductive VR (X : Ps) (w : Wd) : U → D → Prop
  | non : VR X w .non .non
  | bl (b : Bool) : VR X w (.bl b) (.bl b)
  | int (i : Int) : VR X w (.int i) (.int i)
  | str (s : List Nat) : VR X w (.str s) (.str s)
  | tup {xs : List U} {ys : List D} : VRs X w xs ys → VR X w (.tup xs) (.tup ys)
  | kl {xs : List U} {ys : List D} : VRs X w xs ys → VR X w (.kl xs) (.kl ys)
  | lst {j : Nat} {xs : List U} {ys : List D} : w.s[j]? = some (.lst ys) → j ∉ w.m → ¬ X j → VRs X w xs ys → VR X w (.lst xs) (.obj j)
  | dct {j : Nat} {xs : List (Ky × U)} {ys : List (Ky × D)} : w.s[j]? = some (.dct ys) → j ∉ w.m → ¬ X j → VRk X w xs ys → VR X w (.dct xs) (.obj j)
  | obj {i j : Nat} : w.m[i]? = some j → VR X w (.obj i) (.obj j)
inductive VRs (X : Ps) (w : Wd) : List U → List D → Prop
  | nil : VRs X w [] []
  | cons {u : U} {d : D} {us : List U} {ds : List D} : VR X w u d → VRs X w us ds → VRs X w (u :: us) (d :: ds)
inductive VRk (X : Ps) (w : Wd) : List (Ky × U) → List (Ky × D) → Prop
  | nil : VRk X w [] []
  | cons {k : Ky} {u : U} {d : D} {us : List (Ky × U)} {ds : List (Ky × D)} : VR X w u d → VRk X w us ds → VRk X w ((k, u) :: us) ((k, d) :: ds)
end
mutual
theorem VR.up {C X : Ps} {w w' : Wd} (h : Le C w w') (k : ∀ j, C j → X j) : ∀ {u : U} {d : D}, VR X w u d → VR X w' u d
  | _, _, .non => .non
  | _, _, .bl b => .bl b
  | _, _, .int b => .int b
  | _, _, .str b => .str b
  | _, _, .tup r => .tup (VRs.up h k r)
  | _, _, .kl r => .kl (VRs.up h k r)
  | _, _, .lst e n x r => .lst (h.old _ _ e n fun c => x (k _ c)) (h.out _ (lt_of_get e) n fun c => x (k _ c)) x (VRs.up h k r)
  | _, _, .dct e n x r => .dct (h.old _ _ e n fun c => x (k _ c)) (h.out _ (lt_of_get e) n fun c => x (k _ c)) x (VRk.up h k r)
  | _, _, .obj e => .obj (h.pre _ _ e)
theorem VRs.up {C X : Ps} {w w' : Wd} (h : Le C w w') (k : ∀ j, C j → X j) : ∀ {u : List U} {d : List D}, VRs X w u d → VRs X w' u d
  | _, _, .nil => .nil
  | _, _, .cons a r => .cons (VR.up h k a) (VRs.up h k r)
theorem VRk.up {C X : Ps} {w w' : Wd} (h : Le C w w') (k : ∀ j, C j → X j) : ∀ {u : List (Ky × U)} {d : List (Ky × D)}, VRk X w u d → VRk X w' u d
  | _, _, .nil => .nil
  | _, _, .cons a r => .cons (VR.up h k a) (VRk.up h k r)
end
mutual
theorem VR.ch {X X' : Ps} {w : Wd} (k : ∀ j, X' j → X j ∨ w.s.length ≤ j) : ∀ {u : U} {d : D}, VR X w u d → VR X' w u d
  | _, _, .non => .non
  | _, _, .bl b => .bl b
  | _, _, .int b => .int b
  | _, _, .str b => .str b
  | _, _, .tup r => .tup (VRs.ch k r)
  | _, _, .kl r => .kl (VRs.ch k r)
  | _, _, .lst e n x r => .lst e n (fun c => (k _ c).elim x fun l => absurd (lt_of_get e) (Nat.not_lt.mpr l)) (VRs.ch k r)
  | _, _, .dct e n x r => .dct e n (fun c => (k _ c).elim x fun l => absurd (lt_of_get e) (Nat.not_lt.mpr l)) (VRk.ch k r)
  | _, _, .obj e => .obj e
theorem VRs.ch {X X' : Ps} {w : Wd} (k : ∀ j, X' j → X j ∨ w.s.length ≤ j) : ∀ {u : List U} {d : List D}, VRs X w u d → VRs X' w u d
  | _, _, .nil => .nil
  | _, _, .cons a r => .cons (VR.ch k a) (VRs.ch k r)
theorem VRk.ch {X X' : Ps} {w : Wd} (k : ∀ j, X' j → X j ∨ w.s.length ≤ j) : ∀ {u : List (Ky × U)} {d : List (Ky × D)}, VRk X w u d → VRk X' w u d
  | _, _, .nil => .nil
  | _, _, .cons a r => .cons (VR.ch k a) (VRk.ch k r)
end
theorem VR.weak {X X' : Ps} {w : Wd} {u : U} {d : D} (h : VR X w u d) (k : ∀ j, X' j → X j) : VR X' w u d := h.ch fun j c => .inl (k j c)
theorem VRs.weak {X X' : Ps} {w : Wd} {u : List U} {d : List D} (h : VRs X w u d) (k : ∀ j, X' j → X j) : VRs X' w u d := h.ch fun j c => .inl (k j c)
section
variable {X X' C O O' : Ps} {w w' w0 : Wd} {u : U} {d : D} {us : List U} {ds : List D} {sV : Sto}
theorem VRs.length (h : VRs X w us ds) : us.length = ds.length := by
  induction us generalizing ds with
  | nil => cases h; rfl
  | cons u us ih => cases h with | cons a r => simp [ih r]
theorem VRk.length {us : List (Ky × U)} {ds : List (Ky × D)} (h : VRk X w us ds) : us.length = ds.length := by
  induction us generalizing ds with
  | nil => cases h; rfl
  | cons u us ih => cases h with | cons a r => simp [ih r]
theorem VRs.append {vs : List U} {es : List D} (h : VRs X w us ds) (k : VRs X w vs es) : VRs X w (us ++ vs) (ds ++ es) := by
  induction us generalizing ds with
  | nil => cases h; exact k
  | cons u us ih => cases h with | cons a r => exact .cons a (ih r)
theorem VRs.drop (n : Nat) (h : VRs X w us ds) : VRs X w (us.drop n) (ds.drop n) := by
  induction n generalizing us ds with
  | zero => exact h
  | succ n ih => cases h with
    | nil => exact .nil
    | cons a r => exact ih r
theorem VRs.take (n : Nat) (h : VRs X w us ds) : VRs X w (us.take n) (ds.take n) := by
  induction n generalizing us ds with
  | zero => exact .nil
  | succ n ih => cases h with
    | nil => exact .nil
    | cons a r => exact .cons a (ih r)
theorem VRs.reverse (h : VRs X w us ds) : VRs X w us.reverse ds.reverse := by
  induction us generalizing ds with
  | nil => cases h; exact .nil
  | cons u us ih => cases h with
    | cons a r =>
      rw [List.reverse_cons, List.reverse_cons]
      exact (ih r).append (.cons a .nil)
theorem VRs.get (h : VRs X w us ds) {n : Nat} (e : us[n]? = some u) : ∃ d, ds[n]? = some d ∧ VR X w u d := by
  induction n generalizing us ds with
  | zero => cases h with
    | nil => cases e
    | cons a r => cases e; exact ⟨_, rfl, a⟩
  | succ n ih => cases h with
    | nil => cases e
    | cons a r => exact ih r (by simpa using e)
theorem VRs.getN (h : VRs X w us ds) {n : Nat} (e : us[n]? = none) : ds[n]? = none := by
  rw [List.getElem?_eq_none_iff] at e ⊢
  rw [← h.length]; exact e
theorem VRs.set (h : VRs X w us ds) (k : VR X w u d) (n : Nat) : VRs X w (us.set n u) (ds.set n d) := by
  induction n generalizing us ds with
  | zero => cases h with
    | nil => exact .nil
    | cons a r => exact .cons k r
  | succ n ih => cases h with
    | nil => exact .nil
    | cons a r => exact .cons a (ih r)
theorem VRs.replicate (n : Nat) (h : VRs X w us ds) : VRs X w (List.replicate n us).flatten (List.replicate n ds).flatten := by
  induction n with
  | zero => exact .nil
  | succ n ih => rw [List.replicate_succ, List.replicate_succ, List.flatten_cons, List.flatten_cons]; exact h.append ih
theorem VRs.dropLast (h : VRs X w us ds) : VRs X w us.dropLast ds.dropLast := by
  rw [List.dropLast_eq_take, List.dropLast_eq_take, h.length]; exact h.take _
theorem atI_eq {α β : Type} {f : α → β → Prop} {xs : List α} {ys : List β} (hl : xs.length = ys.length) {i : Int} (hg : ∀ (n : Nat) a, xs[n]? = some a → ∃ b, ys[n]? = some b ∧ f a b) {a : α} (h : L2.atI xs i = some a) : ∃ b, L2.atI ys i = some b ∧ f a b := by
  unfold L2.atI at h ⊢
  rw [← hl]
  cases e : L2.ixN xs.length i with
  | none => rw [e] at h; cases h
  | some n => rw [e] at h; exact hg n a h
theorem VRs.atI (h : VRs X w us ds) {i : Int} (e : L2.atI us i = some u) : ∃ d, L2.atI ds i = some d ∧ VR X w u d := atI_eq h.length (fun n a ha => h.get ha) e
/-- a thing of the store -/
inductive MOR (X : Ps) (w : Wd) : MO → Z.MO → Prop
  | lst {xs : List U} {ys : List D} : VRs X w xs ys → MOR X w (.lst xs) (.lst ys)
  | dct {xs : List (Ky × U)} {ys : List (Ky × D)} : VRk X w xs ys → MOR X w (.dct xs) (.dct ys)
theorem MOR.up {o : MO} {o' : Z.MO} (h : MOR X w o o') (l : Le C w w') (k : ∀ j, C j → X j) : MOR X w' o o' := by
  cases h with
  | lst r => exact .lst (r.up l k)
  | dct r => exact .dct (r.up l k)
theorem MOR.ch {o : MO} {o' : Z.MO} (h : MOR X w o o') (k : ∀ j, X' j → X j ∨ w.s.length ≤ j) : MOR X' w o o' := by
  cases h with
  | lst r => exact .lst (r.ch k)
  | dct r => exact .dct (r.ch k)
structure SR (X : Ps) (w : Wd) (sV : Sto) : Prop where
  len : w.m.length = sV.length
  nd : ∀ (i i' j : Nat), w.m[i]? = some j → w.m[i']? = some j → i = i'
  at_ : ∀ (i : Nat) (o : MO), sV[i]? = some o → ∃ j o', w.m[i]? = some j ∧ w.s[j]? = some o' ∧ MOR X w o o'
  fr : ∀ j, X j → j < w.s.length ∧ j ∉ w.m
theorem SR.ch (h : SR X w sV) (k : ∀ j, X' j → X j ∨ w.s.length ≤ j) (f : ∀ j, X' j → j < w.s.length ∧ j ∉ w.m) : SR X' w sV :=
  ⟨h.len, h.nd, fun i o e => let ⟨j, o', a, b, c⟩ := h.at_ i o e; ⟨j, o', a, b, c.ch k⟩, f⟩
theorem SR.weak (h : SR X w sV) (k : ∀ j, X' j → X j) : SR X' w sV := h.ch (fun j c => .inl (k j c)) fun j c => h.fr j (k j c)
/-- a thing is laid that nobody has hold of -/
theorem SR.push (h : SR X w sV) (o : Z.MO) : SR X ⟨w.m, w.s ++ [o]⟩ sV ∧ ∀ C, Le C w ⟨w.m, w.s ++ [o]⟩ := by
  have l : ∀ C, Le C w ⟨w.m, w.s ++ [o]⟩ := fun C => ⟨fun _ _ h => h, fun _ _ h _ => h, fun j u e _ _ => by show (w.s ++ [o])[j]? = _; rw [List.getElem?_append_left (lt_of_get e)]; exact e, by show _ ≤ (w.s ++ [o]).length; simp⟩
  refine ⟨⟨h.len, h.nd, fun i u e => ?_, fun j c => ?_⟩, l⟩
  · obtain ⟨j, u', a, b, c⟩ := h.at_ i u e
    refine ⟨j, u', a, ?_, c.up (l fun _ => False) fun _ h => h.elim⟩
    show (w.s ++ [o])[j]? = _
    rw [List.getElem?_append_left (lt_of_get b)]; exact b
  · obtain ⟨a, b⟩ := h.fr j c
    exact ⟨by show j < (w.s ++ [o]).length; simp; omega, b⟩
/-- what is at j of the store, for a name alone -/
def MAt (X : Ps) (w : Wd) (j : Nat) (u : U) : Prop := ∃ o o', u.toMO = some o ∧ w.s[j]? = some o' ∧ MOR X w o o'
theorem MAt.up {j : Nat} (h : MAt X w j u) (l : Le C w w') (k : ∀ j, C j → X j) (n : j ∉ w.m) (c : ¬ C j) : MAt X w' j u := by
  obtain ⟨o, o', a, b, r⟩ := h
  exact ⟨o, o', a, l.old _ _ b n c, r.up l k⟩
theorem MAt.ch {j : Nat} (h : MAt X w j u) (k : ∀ j, X' j → X j ∨ w.s.length ≤ j) : MAt X' w j u := by
  obtain ⟨o, o', a, b, r⟩ := h
  exact ⟨o, o', a, b, r.ch k⟩
theorem MAt.vr {j : Nat} (h : MAt X w j u) (n : j ∉ w.m) (x : ¬ X j) : VR X w u (.obj j) := by
  obtain ⟨o, o', a, b, r⟩ := h
  cases r with
  | lst r => cases u <;> simp [U.toMO] at a; subst a; exact .lst b n x r
  | dct r => cases u <;> simp [U.toMO] at a; subst a; exact .dct b n x r
/-- what is looked at -/
def VP (X O : Ps) (w : Wd) (u : U) (d : D) : Prop := VR X w u d ∨ ∃ j, d = .obj j ∧ (X j ∧ O j) ∧ MAt X w j u
theorem VP.up (h : VP X O w u d) (S : SR X w sV) (l : Le C w w') (k : ∀ j, C j → X j) (c : ∀ j, C j → ¬ X j ∨ d ≠ .obj j) : VP X O w' u d := by
  rcases h with h | ⟨j, rfl, x, a⟩
  · exact .inl (h.up l k)
  · exact .inr ⟨j, rfl, x, a.up l k (S.fr j x.1).2 fun q => (c j q).elim (fun n => n x.1) fun n => n rfl⟩
/-- no C -/
abbrev C0 : Ps := fun _ => False
theorem VP.up0 (h : VP X O w u d) (S : SR X w sV) (l : Le C0 w w') : VP X O w' u d := h.up S l (fun _ h => h.elim) fun _ h => h.elim
theorem VR.up0 (h : VR X w u d) (l : Le C0 w w') : VR X w' u d := h.up l fun _ h => h.elim
theorem VRs.up0 (h : VRs X w us ds) (l : Le C0 w w') : VRs X w' us ds := h.up l fun _ h => h.elim
inductive VPs (X O : Ps) (w : Wd) : List U → List D → Prop
  | nil : VPs X O w [] []
  | cons {u : U} {d : D} {us : List U} {ds : List D} : VP X O w u d → VPs X O w us ds → VPs X O w (u :: us) (d :: ds)
theorem VPs.up0 (h : VPs X O w us ds) (S : SR X w sV) (l : Le C0 w w') : VPs X O w' us ds := by
  induction h with
  | nil => exact .nil
  | cons a _ ih => exact .cons (a.up0 S l) ih
theorem VRs.vps (h : VRs X w us ds) : VPs X O w us ds := by
  induction us generalizing ds with
  | nil => cases h; exact .nil
  | cons u us ih => cases h with | cons a r => exact .cons (.inl a) (ih r)
/-- the names -/
structure LR (X O : Ps) (w : Wd) (lV : Lo) (l : Z.Lo) : Prop where
  len : lV.length = l.length
  val : ∀ (i : Nat) (u : U), lV[i]? = some (.val u) → ∃ d, l[i]? = some (some d) ∧ VR X w u d
  own : ∀ (i : Nat) (u : U), lV[i]? = some (.own u) → ∃ j, l[i]? = some (some (.obj j)) ∧ (X j ∧ O j) ∧ MAt X w j u
  lk : ∀ (i : Nat) (u : U), lV[i]? = some (.lk u) → ∃ j xs ys, u = .dct xs ∧ l[i]? = some (some (.obj j)) ∧ (X j ∧ O j) ∧ w.s[j]? = some (.dctL ys) ∧ VRk X w xs ys
/-- no dict is walked -/
abbrev NoLk (lV : Lo) : Prop := ∀ (i : Nat) (u : U), lV[i]? ≠ some (.lk u)
theorem NoLk.set {lV : Lo} {s : Sl} (h : NoLk lV) (n : ∀ u, s ≠ .lk u) (i : Nat) : NoLk (lV.set i s) := by
  intro k u e
  by_cases hk : i = k
  · subst hk
    have hl := lt_of_get e
    rw [List.length_set] at hl
    rw [List.getElem?_set_self hl] at e
    cases e
    exact n u rfl
  · rw [List.getElem?_set_ne hk] at e
    exact h k u e
theorem LR.up {lV : Lo} {l : Z.Lo} (h : LR X O w lV l) (S : SR X w sV) (k : Le C0 w w') : LR X O w' lV l :=
  ⟨h.len, fun i u e => let ⟨d, a, b⟩ := h.val i u e; ⟨d, a, b.up0 k⟩, fun i u e => let ⟨j, a, b, c⟩ := h.own i u e; ⟨j, a, b, c.up k (fun _ h => h.elim) (S.fr j b.1).2 fun h => h⟩,
    fun i u e => let ⟨j, xs, ys, a, b, c, d, f⟩ := h.lk i u e; ⟨j, xs, ys, a, b, c, k.old _ _ d (S.fr j c.1).2 fun h => h, f.up k fun _ h => h.elim⟩⟩
theorem LR.ch {lV : Lo} {l : Z.Lo} (h : LR X O w lV l) (k : ∀ j, X' j → X j ∨ w.s.length ≤ j) (k2 : ∀ j, X j ∧ O j → X' j ∧ O' j) : LR X' O' w lV l :=
  ⟨h.len, fun i u e => let ⟨d, a, b⟩ := h.val i u e; ⟨d, a, b.ch k⟩, fun i u e => let ⟨j, a, b, c⟩ := h.own i u e; ⟨j, a, k2 j b, c.ch k⟩,
    fun i u e => let ⟨j, xs, ys, a, b, c, d, f⟩ := h.lk i u e; ⟨j, xs, ys, a, b, k2 j c, d, f.ch k⟩⟩
theorem LR.set {lV : Lo} {l : Z.Lo} (h : LR X O w lV l) (r : VR X w u d) (i : Nat) : LR X O w (lV.set i (.val u)) (l.set i (some d)) := by
  refine ⟨by simp [h.len], fun k v e => ?_, fun k v e => ?_, fun k v e => ?_⟩
  rotate_left 2
  · by_cases hk : i = k
    · subst hk
      have hl : i < lV.length := by have := lt_of_get e; simpa using this
      rw [List.getElem?_set_self hl] at e
      cases e
    · rw [List.getElem?_set_ne hk] at e ⊢
      exact h.lk k v e
  · by_cases hk : i = k
    · subst hk
      have hl : i < lV.length := by have := lt_of_get e; simpa using this
      rw [List.getElem?_set_self hl] at e
      cases e
      exact ⟨d, by rw [List.getElem?_set_self (h.len ▸ hl)], r⟩
    · rw [List.getElem?_set_ne hk] at e ⊢
      exact h.val k v e
  · by_cases hk : i = k
    · subst hk
      have hl : i < lV.length := by have := lt_of_get e; simpa using this
      rw [List.getElem?_set_self hl] at e
      cases e
    · rw [List.getElem?_set_ne hk] at e ⊢
      exact h.own k v e
theorem LR.wipe {lV : Lo} {l : Z.Lo} (h : LR X O w lV l) : ∀ vs : List Nat, LR X O w (wipe lV vs) (Z.wipe l vs)
  | [] => h
  | i :: vs => by
    have ih := LR.wipe h vs
    unfold Y.wipe Z.wipe
    refine ⟨by simp [ih.len], fun k v e => ?_, fun k v e => ?_, fun k v e => ?_⟩
    all_goals
      by_cases hk : i = k
      · subst hk
        have hl := lt_of_get e
        rw [List.length_set] at hl
        rw [List.getElem?_set_self hl] at e
        cases e
      · rw [List.getElem?_set_ne hk] at e ⊢
        first | exact ih.val k v e | exact ih.own k v e | exact ih.lk k v e
/-! ### what is told by both -/
def Sim {α β : Type} (ok : α → Sto → β → Z.Sto → Prop) (ex : U → Sto → D → Z.Sto → Prop) (r : R α) (q : Z.R β) : Prop := match r with
  | .ok a s => ∃ b t, q = .ok b t ∧ ok a s b t
  | .ex e s => ∃ d t, q = .ex d t ∧ ex e s d t
  | .bad => True
theorem Sim.mono {α β : Type} {ok ok' : α → Sto → β → Z.Sto → Prop} {ex ex' : U → Sto → D → Z.Sto → Prop} {r : R α} {q : Z.R β} (h : Sim ok ex r q) (k1 : ∀ a s b t, ok a s b t → ok' a s b t) (k2 : ∀ a s b t, ex a s b t → ex' a s b t) : Sim ok' ex' r q := by
  cases r with
  | ok a s => obtain ⟨b, t, e, p⟩ := h; exact ⟨b, t, e, k1 _ _ _ _ p⟩
  | ex a s => obtain ⟨b, t, e, p⟩ := h; exact ⟨b, t, e, k2 _ _ _ _ p⟩
  | bad => trivial
theorem Sim.bind {α β α' β' : Type} {ok : α → Sto → β → Z.Sto → Prop} {ok' : α' → Sto → β' → Z.Sto → Prop} {ex : U → Sto → D → Z.Sto → Prop} {r : R α} {q : Z.R β} {f : α → Sto → R α'} {g : β → Z.Sto → Z.R β'}
    (h : Sim ok ex r q) (k : ∀ a s b t, ok a s b t → Sim ok' ex (f a s) (g b t)) : Sim ok' ex (r.bind f) (q.bind g) := by
  cases r with
  | ok a s => obtain ⟨b, t, rfl, p⟩ := h; exact k _ _ _ _ p
  | ex a s => obtain ⟨b, t, rfl, p⟩ := h; exact ⟨b, t, rfl, p⟩
  | bad => trivial
/-- a value, in a later world -/
def Ok {α β : Type} (C : Ps) (P : Wd → α → β → Prop) (X : Ps) (w : Wd) (a : α) (sV : Sto) (b : β) (t : Z.Sto) : Prop := ∃ m, Le C w ⟨m, t⟩ ∧ SR X ⟨m, t⟩ sV ∧ P ⟨m, t⟩ a b
abbrev Sm0 {α β : Type} (P : Wd → α → β → Prop) (X : Ps) (w : Wd) : R α → Z.R β → Prop := Sim (Ok C0 P X w) (Ok C0 (VR X) X w)
theorem Ok.back {α β : Type} {P : Wd → α → β → Prop} {a : α} {b : β} {t : Z.Sto} (h : Ok C P X w' a sV b t) (l : Le C w w') : Ok C P X w a sV b t := let ⟨m, x, y⟩ := h; ⟨m, l.trans x, y⟩
theorem Sm0.bind {α β α' β' : Type} {P : Wd → α → β → Prop} {P' : Wd → α' → β' → Prop} {r : R α} {q : Z.R β} {f : α → Sto → R α'} {g : β → Z.Sto → Z.R β'}
    (h : Sm0 P X w r q) (k : ∀ (w' : Wd) a sV b, Le C0 w w' → SR X w' sV → P w' a b → Sm0 P' X w' (f a sV) (g b w'.s)) : Sm0 P' X w (r.bind f) (q.bind g) :=
  Sim.bind h fun a s b t ⟨m, l, S, p⟩ => (k ⟨m, t⟩ a s b l S p).mono (fun _ _ _ _ o => o.back l) fun _ _ _ _ o => o.back l
theorem Sm0.ok {α β : Type} {P : Wd → α → β → Prop} {a : α} {b : β} (S : SR X w sV) (h : P w a b) : Sm0 P X w (.ok a sV) (.ok b w.s) := ⟨b, w.s, rfl, w.m, .refl, S, h⟩
theorem Sm0.bad {α β : Type} {P : Wd → α → β → Prop} {q : Z.R β} : Sm0 P X w (.bad : R α) q := trivial
theorem Sm0.imp {α β : Type} {P P' : Wd → α → β → Prop} {r : R α} {q : Z.R β} (h : Sm0 P X w r q) (k : ∀ w a b, P w a b → P' w a b) : Sm0 P' X w r q := Sim.mono h (fun _ _ _ _ ⟨m, l, S, p⟩ => ⟨m, l, S, k _ _ _ p⟩) fun _ _ _ _ o => o
/-- a value that may be new: if it is, and can change, nobody else has hold of it -/
def New (X : Ps) (n : Nat) (w : Wd) (sV : Sto) (u : U) (d : D) : Prop := ∀ o, u.toMO = some o → ∃ j, d = .obj j ∧ n ≤ j ∧ j < w.s.length ∧ j ∉ w.m ∧ SR (fun k => X k ∨ k = j) w sV ∧ MAt (fun k => X k ∨ k = j) w j u
def OkN (X : Ps) (w : Wd) (r : Bool × U) (sV : Sto) (d : D) (t : Z.Sto) : Prop := ∃ m, Le C0 w ⟨m, t⟩ ∧ SR X ⟨m, t⟩ sV ∧ VR X ⟨m, t⟩ r.2 d ∧ (r.1 = true → New X w.s.length ⟨m, t⟩ sV r.2 d)
abbrev SmN (X : Ps) (w : Wd) : R (Bool × U) → Z.R D → Prop := Sim (OkN X w) (Ok C0 (VR X) X w)
abbrev SmT (X : Ps) (w : Wd) : R U → Z.R D → Prop := Sim (fun u => OkN X w (true, u)) (Ok C0 (VR X) X w)
theorem OkN.back {r : Bool × U} {t : Z.Sto} (h : OkN X w' r sV d t) (l : Le C0 w w') : OkN X w r sV d t := by
  obtain ⟨m, x, y, z, n⟩ := h
  refine ⟨m, l.trans x, y, z, fun e o ho => ?_⟩
  obtain ⟨j, a, b, c⟩ := n e o ho
  exact ⟨j, a, Nat.le_trans l.len b, c⟩
theorem SmT.bind {α β : Type} {P : Wd → α → β → Prop} {r : R α} {q : Z.R β} {f : α → Sto → R U} {g : β → Z.Sto → Z.R D}
    (h : Sm0 P X w r q) (k : ∀ (w' : Wd) a sV b, Le C0 w w' → SR X w' sV → P w' a b → SmT X w' (f a sV) (g b w'.s)) : SmT X w (r.bind f) (q.bind g) :=
  Sim.bind h fun a s b t ⟨m, l, S, p⟩ => (k ⟨m, t⟩ a s b l S p).mono (fun _ _ _ _ o => o.back l) fun _ _ _ _ o => o.back l
theorem SmT.e {r : R U} {q : Z.R D} (h : SmT X w r q) : Sm0 (VR X) X w r q := Sim.mono h (fun _ _ _ _ ⟨m, l, S, v, _⟩ => ⟨m, l, S, v⟩) fun _ _ _ _ o => o
theorem SmT.flat (S : SR X w sV) (h : VR X w u d) (n : u.toMO = none) : SmT X w (.ok u sV) (.ok d w.s) := ⟨d, w.s, rfl, w.m, .refl, S, h, fun _ o e => by rw [n] at e; cases e⟩
theorem new_of (S : SR X w sV) {o : MO} {o' : Z.MO} (e : u.toMO = some o) (r : MOR X w o o') : OkN X w (true, u) sV (.obj w.s.length) (w.s ++ [o']) := by
  obtain ⟨S1, l⟩ := S.push o'
  have x : ¬ X w.s.length := fun c => by have := (S.fr _ c).1; omega
  have nm : w.s.length ∉ w.m := fun c => by
    obtain ⟨i, hi, e⟩ := List.getElem_of_mem c
    have hs : i < sV.length := by rw [← S.len]; exact hi
    obtain ⟨j, q, a, b, _⟩ := S.at_ i sV[i] (by simp [hs])
    have : w.m[i]? = some w.s.length := by rw [List.getElem?_eq_getElem hi, e]
    rw [this] at a; cases a
    have := lt_of_get b
    omega
  have at_ : (w.s ++ [o'])[w.s.length]? = some o' := by simp
  have k : ∀ j, (X j ∨ j = w.s.length) → X j ∨ w.s.length ≤ j := fun j h => h.imp_right fun h => by omega
  have M : MAt (fun k => X k ∨ k = w.s.length) ⟨w.m, w.s ++ [o']⟩ w.s.length u := ⟨o, o', e, at_, (r.ch k).up (l C0) fun _ h => h.elim⟩
  refine ⟨w.m, l C0, S1, (M.ch (X' := X) fun j h => .inl (.inl h)).vr nm x, fun _ o1 _ => ⟨w.s.length, rfl, Nat.le_refl _, by simp, nm, ?_, M⟩⟩
  refine ⟨S.len, S.nd, fun i o2 h2 => ?_, fun j h => ?_⟩
  · obtain ⟨j, o3, a, b, c⟩ := S.at_ i o2 h2
    exact ⟨j, o3, a, (by show (w.s ++ [o'])[j]? = _; rw [List.getElem?_append_left (lt_of_get b)]; exact b), (c.ch k).up (l C0) fun _ h => h.elim⟩
  · rcases h with h | rfl
    · exact S1.fr j h
    · exact ⟨by simp, nm⟩
end
end Y

/-! YOps: operators of the plain layer say what those of ZCore say. -/
namespace Y
open Z (Ky Bop Cop Bi Ty Mt Ex Fn line big D)
section
variable {X X' C O O' : Ps} {w w' w0 : Wd} {u v : U} {d e : D} {us : List U} {ds : List D} {sV : Sto}
theorem SmT.flatE {q : Z.R D} (S : SR X w sV) (e : q = .ok d w.s) (h : VR X w u d) (n : u.toMO = none) : SmT X w (.ok u sV) q := e ▸ SmT.flat S h n
theorem SmT.newE {q : Z.R D} {o : MO} {o' : Z.MO} (S : SR X w sV) (e : q = .ok (.obj w.s.length) (w.s ++ [o'])) (hu : u.toMO = some o) (r : MOR X w o o') : SmT X w (.ok u sV) q := e ▸ ⟨_, _, rfl, new_of S hu r⟩
theorem Sm0.okE {α β : Type} {P : Wd → α → β → Prop} {a : α} {b : β} {q : Z.R β} (S : SR X w sV) (e : q = .ok b w.s) (h : P w a b) : Sm0 P X w (.ok a sV) q := e ▸ Sm0.ok S h
theorem VP.int {i : Int} (h : VP X O w (.int i) d) : d = .int i := by
  rcases h with h | ⟨j, _, _, o, o', e, _⟩
  · cases h; rfl
  · simp [U.toMO] at e
theorem VP.str {i : List Nat} (h : VP X O w (.str i) d) : d = .str i := by
  rcases h with h | ⟨j, _, _, o, o', e, _⟩
  · cases h; rfl
  · simp [U.toMO] at e
theorem VP.bl {i : Bool} (h : VP X O w (.bl i) d) : d = .bl i := by
  rcases h with h | ⟨j, _, _, o, o', e, _⟩
  · cases h; rfl
  · simp [U.toMO] at e
theorem VP.non (h : VP X O w .non d) : d = .non := by
  rcases h with h | ⟨j, _, _, o, o', e, _⟩
  · cases h; rfl
  · simp [U.toMO] at e
theorem VP.tup (h : VP X O w (.tup us) d) : ∃ ds, d = .tup ds ∧ VRs X w us ds := by
  rcases h with h | ⟨j, _, _, o, o', e, _⟩
  · cases h; exact ⟨_, rfl, by assumption⟩
  · simp [U.toMO] at e
theorem VP.kl (h : VP X O w (.kl us) d) : ∃ ds, d = .kl ds ∧ VRs X w us ds := by
  rcases h with h | ⟨j, _, _, o, o', e, _⟩
  · cases h; exact ⟨_, rfl, by assumption⟩
  · simp [U.toMO] at e
theorem VP.lst (h : VP X O w (.lst us) d) : ∃ j ds, d = .obj j ∧ w.s[j]? = some (.lst ds) ∧ VRs X w us ds := by
  rcases h with h | ⟨j, rfl, _, o, o', e, b, r⟩
  · cases h; exact ⟨_, _, rfl, by assumption, by assumption⟩
  · simp [U.toMO] at e; subst e
    cases r with | lst r => exact ⟨j, _, rfl, b, r⟩
theorem VP.dct {us : List (Ky × U)} (h : VP X O w (.dct us) d) : ∃ j ds, d = .obj j ∧ w.s[j]? = some (.dct ds) ∧ VRk X w us ds := by
  rcases h with h | ⟨j, rfl, _, o, o', e, b, r⟩
  · cases h; exact ⟨_, _, rfl, by assumption, by assumption⟩
  · simp [U.toMO] at e; subst e
    cases r with | dct r => exact ⟨j, _, rfl, b, r⟩
theorem VP.obj {i : Nat} (h : VP X O w (.obj i) d) : ∃ j, d = .obj j ∧ w.m[i]? = some j := by
  rcases h with h | ⟨j, _, _, o, o', e, _⟩
  · cases h; exact ⟨_, rfl, by assumption⟩
  · simp [U.toMO] at e
theorem SR.get {i j : Nat} {o : MO} (S : SR X w sV) (h : sV[i]? = some o) (e : w.m[i]? = some j) : ∃ o', w.s[j]? = some o' ∧ MOR X w o o' := by
  obtain ⟨j', o', a, b, r⟩ := S.at_ i o h
  rw [e] at a; cases a
  exact ⟨o', b, r⟩
theorem SR.lst {i j : Nat} {xs : List U} (S : SR X w sV) (h : sV[i]? = some (.lst xs)) (e : w.m[i]? = some j) : ∃ ys, w.s[j]? = some (.lst ys) ∧ VRs X w xs ys := by
  obtain ⟨o', b, r⟩ := S.get h e
  cases r with | lst r => exact ⟨_, b, r⟩
theorem SR.dct {i j : Nat} {xs : List (Ky × U)} (S : SR X w sV) (h : sV[i]? = some (.dct xs)) (e : w.m[i]? = some j) : ∃ ys, w.s[j]? = some (.dct ys) ∧ VRk X w xs ys := by
  obtain ⟨o', b, r⟩ := S.get h e
  cases r with | dct r => exact ⟨_, b, r⟩
theorem mst_sim {xs : List U} (S : SR X w sV) (h : VP X O w u d) (e : mst? sV u = some xs) : ∃ j ys, d = .obj j ∧ w.s[j]? = some (.lst ys) ∧ VRs X w xs ys := by
  unfold mst? at e
  split at e
  · cases e; exact h.lst
  · obtain ⟨j, rfl, hj⟩ := h.obj
    split at e
    · rename_i hi
      cases e
      obtain ⟨ys, a, b⟩ := S.lst hi hj
      exact ⟨j, ys, rfl, a, b⟩
    · cases e
  · cases e
theorem lst_sim {xs : List U} (S : SR X w sV) (h : VP X O w u d) (e : lst? sV u = some xs) : ∃ ys, VRs X w xs ys ∧ (d = .kl ys ∨ ∃ j, d = .obj j ∧ w.s[j]? = some (.lst ys)) := by
  unfold lst? at e
  split at e
  · cases e
    obtain ⟨j, ys, a, b, c⟩ := h.lst
    exact ⟨ys, c, .inr ⟨j, a, b⟩⟩
  · cases e
    obtain ⟨ys, a, c⟩ := h.kl
    exact ⟨ys, c, .inl a⟩
  · obtain ⟨j, rfl, hj⟩ := h.obj
    split at e
    · rename_i hi
      cases e
      obtain ⟨ys, a, b⟩ := S.lst hi hj
      exact ⟨ys, b, .inr ⟨j, rfl, a⟩⟩
    · cases e
  · cases e
theorem zlst {ys : List D} (h : d = .kl ys ∨ ∃ j, d = .obj j ∧ w.s[j]? = some (.lst ys)) : Z.lst? w.s d = some ys := by
  rcases h with rfl | ⟨j, rfl, e⟩
  · rfl
  · simp [Z.lst?, e]
theorem dct_sim {xs : List (Ky × U)} (S : SR X w sV) (h : VP X O w u d) (e : dct? sV u = some xs) : ∃ j ys, d = .obj j ∧ w.s[j]? = some (.dct ys) ∧ VRk X w xs ys := by
  unfold dct? at e
  split at e
  · cases e; exact h.dct
  · obtain ⟨j, rfl, hj⟩ := h.obj
    split at e
    · rename_i hi
      cases e
      obtain ⟨ys, a, b⟩ := S.dct hi hj
      exact ⟨j, ys, rfl, a, b⟩
    · cases e
  · cases e
theorem seq_sim {xs : List U} (S : SR X w sV) (h : VP X O w u d) (e : seq? sV u = some xs) : ∃ ys, VRs X w xs ys ∧ Z.seq? w.s d = some ys := by
  unfold seq? at e
  split at e
  · cases e
    obtain ⟨ys, rfl, r⟩ := h.tup
    exact ⟨ys, r, rfl⟩
  · obtain ⟨ys, r, k⟩ := lst_sim S h e
    refine ⟨ys, r, ?_⟩
    rcases k with rfl | ⟨j, rfl, k⟩
    · rfl
    · simp [Z.seq?, Z.lst?, k]
/-! ### + * .. -/
theorem add_sim (S : SR X w sV) (hx : VP X O w u d) (hy : VP X O w v e) : SmT X w (ofO (opAdd u v sV) sV) (Z.opAdd d e w.s) := by
  unfold opAdd
  split
  · obtain rfl := hx.int; obtain rfl := hy.int
    exact SmT.flat S (.int _) rfl
  · obtain rfl := hx.str; obtain rfl := hy.str
    split
    · rename_i hl; exact SmT.flatE S (if_pos hl) (.str _) rfl
    · trivial
  · obtain ⟨a, rfl, ra⟩ := hx.tup; obtain ⟨b, rfl, rb⟩ := hy.tup
    split
    · rename_i hl; exact SmT.flatE S (if_pos (by rw [← ra.length, ← rb.length]; exact hl)) (.tup (ra.append rb)) rfl
    · trivial
  · split
    · rename_i a b ha hb
      obtain ⟨i, ys, rfl, hi, ri⟩ := mst_sim S hx ha
      obtain ⟨j, zs, rfl, hj, rj⟩ := mst_sim S hy hb
      split
      · rename_i hl
        refine SmT.newE (o' := .lst (ys ++ zs)) S ?_ rfl (.lst (ri.append rj))
        simp only [Z.opAdd, hi, hj]
        exact if_pos (by rw [← ri.length, ← rj.length]; exact hl)
      · trivial
    · trivial
theorem mul_sim (S : SR X w sV) (hx : VP X O w u d) (hy : VP X O w v e) : SmT X w (ofO (opMul u v sV) sV) (Z.opMul d e w.s) := by
  unfold opMul
  split
  · obtain rfl := hx.int; obtain rfl := hy.int
    split
    · rename_i hl; exact SmT.flatE S (if_pos hl) (.int _) rfl
    · trivial
  · rename_i a k
    obtain ⟨b, rfl, ra⟩ := hx.tup; obtain rfl := hy.int
    split
    · rename_i hl
      have rr := ra.replicate k.toNat
      by_cases h0 : a = []
      · subst h0
        cases ra
        have e1 : (List.replicate k.toNat ([] : List U)).flatten = [] := by simp
        rw [e1]
        have e2 : ¬ (([] : List D) ≠ [] ∧ 2 ≤ k ∧ k ≤ 1000000 ∧ ([] : List D).length * k.toNat ≤ line) := fun h => h.1 rfl
        exact SmT.flatE S (by unfold Z.opMul; dsimp only; rw [if_neg e2, if_pos ⟨.inl rfl, hl.1, hl.2.1⟩]) (.tup .nil) rfl
      · have h0' : b ≠ [] := by rintro rfl; cases ra; exact h0 rfl
        have hl2 : b.length * k.toNat ≤ line := by rw [← ra.length]; exact hl.2.2
        by_cases h2 : 2 ≤ k
        · exact SmT.flatE S (if_pos ⟨h0', h2, hl.2.1, hl2⟩) (.tup rr) rfl
        · by_cases h1 : k = 1
          · subst h1
            have e1 : (List.replicate (1 : Int).toNat a).flatten = a := by simp
            rw [e1]
            exact SmT.flatE S (by unfold Z.opMul; dsimp only; rw [if_neg (fun h => h2 h.2.1), if_pos ⟨.inr rfl, hl.1, hl.2.1⟩]) (.tup ra) rfl
          · have e0 : k.toNat = 0 := by omega
            rw [e0]
            refine SmT.flatE S (by unfold Z.opMul; dsimp only; rw [if_neg (fun h => h2 h.2.1), if_neg (fun h => h.1.elim h0' h1), if_pos ⟨h0', hl.1, by omega⟩]) (.tup .nil) rfl
    · trivial
  · rename_i z k
    obtain rfl := hx.str; obtain rfl := hy.int
    split
    · rename_i hl
      by_cases h0 : z = []
      · subst h0
        have e1 : (List.replicate k.toNat ([] : List Nat)).flatten = [] := by simp
        rw [e1]
        exact SmT.flatE S (by unfold Z.opMul; dsimp only; rw [if_neg (fun h => h.1 rfl), if_pos ⟨rfl, hl.1, hl.2.1⟩]) (.str _) rfl
      · exact SmT.flatE S (if_pos ⟨h0, hl⟩) (.str _) rfl
    · trivial
  · split
    · rename_i a ha
      obtain ⟨i, ys, rfl, hi, ri⟩ := mst_sim S hx ha
      obtain rfl := hy.int
      split
      · rename_i k _ _ _ _ hl
        refine SmT.newE (o' := .lst (List.replicate _ ys).flatten) S ?_ rfl (.lst (ri.replicate _))
        simp only [Z.opMul, hi]
        exact if_pos (by rw [← ri.length]; exact hl)
      · trivial
    · trivial
  · trivial
theorem bin_sim {o : Bop} (S : SR X w sV) (hx : VP X O w u d) (hy : VP X O w v e) : SmT X w (bin o u v sV) (Z.bin o d e w.s) := by
  unfold bin
  cases o with
  | add => exact add_sim S hx hy
  | mul => exact mul_sim S hx hy
  | sub =>
    unfold binO; dsimp only; split
    · obtain rfl := hx.int; obtain rfl := hy.int; exact SmT.flat S (.int _) rfl
    · trivial
  | div =>
    unfold binO; dsimp only; split
    · obtain rfl := hx.int; obtain rfl := hy.int
      split
      · rename_i hl; exact SmT.flatE S (if_pos hl) (.int _) rfl
      · trivial
    · trivial
  | mod =>
    unfold binO; dsimp only; split
    · obtain rfl := hx.int; obtain rfl := hy.int
      split
      · rename_i hl; exact SmT.flatE S (if_pos hl) (.int _) rfl
      · trivial
    · trivial
  | pow =>
    unfold binO; dsimp only; split
    · obtain rfl := hx.int; obtain rfl := hy.int
      split
      · rename_i hl; exact SmT.flatE S (if_pos hl) (.int _) rfl
      · trivial
    · trivial
end
end Y

/-! YCmp: ==, in, repr of the plain layer. -/
namespace Y
open PySem
open Z (Ky Bop Cop Bi Ty Mt Ex Fn line big D)
section
variable {X X' C O O' : Ps} {w w' w0 : Wd} {u v : U} {d e : D} {us : List U} {ds : List D} {sV : Sto} {s : Z.Sto}
/-- what reads alone -/
abbrev VC (s : Z.Sto) : U → D → Prop := VR C0 ⟨[], s⟩
abbrev VCs (s : Z.Sto) : List U → List D → Prop := VRs C0 ⟨[], s⟩
abbrev VCk (s : Z.Sto) : List (Ky × U) → List (Ky × D) → Prop := VRk C0 ⟨[], s⟩
def clo (u : U) : Prop := u.lay = true ∨ u.fine = true
def clos (u : List U) : Prop := lays u = true ∨ fines u = true
theorem clos_cons (h : clos (u :: us)) : clo u ∧ clos us := by
  rcases h with h | h
  · simp only [lays, Bool.and_eq_true] at h; exact ⟨.inl h.1, .inl h.2⟩
  · simp only [fines, Bool.and_eq_true] at h; exact ⟨.inr h.1, .inr h.2⟩
theorem finek_cons {k : Ky} {us : List (Ky × U)} (h : finek ((k, u) :: us) = true) : keyOk k = true ∧ u.fine = true ∧ finek us = true := by
  simp only [finek, Bool.and_eq_true] at h; exact ⟨h.1.1, h.1.2, h.2⟩
mutual
theorem VR.vc : ∀ {u : U} {d : D}, VR X w u d → clo u → VC w.s u d
  | _, _, .non, _ => .non
  | _, _, .bl b, _ => .bl b
  | _, _, .int b, _ => .int b
  | _, _, .str b, _ => .str b
  | _, _, .tup r, h => .tup (VRs.vc r (h.imp (fun h => by simpa only [U.lay] using h) fun h => by simpa only [U.fine] using h))
  | _, _, .kl r, h => .kl (VRs.vc r (h.elim (fun h => .inl (by simpa only [U.lay] using h)) fun h => by simp [U.fine] at h))
  | _, _, .lst e _ _ r, h => .lst e (by simp) (fun h => h) (VRs.vc r (h.imp (fun h => by simpa only [U.lay] using h) fun h => by simpa only [U.fine] using h))
  | _, _, .dct e _ _ r, h => .dct e (by simp) (fun h => h) (VRk.vc r (h.elim (fun h => by simp [U.lay] at h) fun h => by simpa only [U.fine] using h))
  | _, _, .obj _, h => by rcases h with h | h <;> simp [U.lay, U.fine] at h
theorem VRs.vc : ∀ {u : List U} {d : List D}, VRs X w u d → clos u → VCs w.s u d
  | _, _, .nil, _ => .nil
  | _, _, .cons a r, h => .cons (VR.vc a (clos_cons h).1) (VRs.vc r (clos_cons h).2)
theorem VRk.vc : ∀ {u : List (Ky × U)} {d : List (Ky × D)}, VRk X w u d → finek u = true → VCk w.s u d
  | _, _, .nil, _ => .nil
  | _, _, .cons a r, h => .cons (VR.vc a (.inr (finek_cons h).2.1)) (VRk.vc r (finek_cons h).2.2)
end
theorem VP.vc (h : VP X O w u d) (c : clo u) : VC w.s u d := by
  rcases h with h | ⟨j, rfl, _, o, o', a, b, r⟩
  · exact h.vc c
  · cases r with
    | lst r =>
      cases u <;> simp [U.toMO] at a
      subst a
      exact .lst b (by simp) (fun h => h) (r.vc (c.imp (fun h => by simpa only [U.lay] using h) fun h => by simpa only [U.fine] using h))
    | dct r =>
      cases u <;> simp [U.toMO] at a
      subst a
      exact .dct b (by simp) (fun h => h) (r.vc (c.elim (fun h => by simp [U.lay] at h) fun h => by simpa only [U.fine] using h))
mutual
theorem VR.pd : ∀ {u : U} {d : D}, VC s u d → ∀ n, u.dep ≤ n → Z.pd s (n + 1) d = some u.toP
  | _, _, .non, _, _ => rfl
  | _, _, .bl b, _, _ => rfl
  | _, _, .int b, _, _ => rfl
  | _, _, .str b, _, _ => rfl
  | _, _, .tup r, n, h => by
    obtain ⟨m, rfl⟩ : ∃ m, n = m + 1 := ⟨n - 1, by simp only [U.dep] at h; omega⟩
    show (Z.optAll (Z.pd s (m + 1)) _).map PyData.tuple = _
    rw [VRs.pd r m (by simp only [U.dep] at h; omega)]; rfl
  | _, _, .kl r, n, h => by
    obtain ⟨m, rfl⟩ : ∃ m, n = m + 1 := ⟨n - 1, by simp only [U.dep] at h; omega⟩
    show (Z.optAll (Z.pd s (m + 1)) _).map PyData.list = _
    rw [VRs.pd r m (by simp only [U.dep] at h; omega)]; rfl
  | _, _, .lst (j := j) e _ _ r, n, h => by
    obtain ⟨m, rfl⟩ : ∃ m, n = m + 1 := ⟨n - 1, by simp only [U.dep] at h; omega⟩
    have e : s[j]? = some _ := e
    show (match s[j]? with | some (Z.MO.lst xs) => (Z.optAll (Z.pd s (m + 1)) xs).map PyData.list | some (.dct kvs) => _ | _ => none) = _
    rw [e]
    show (Z.optAll (Z.pd s (m + 1)) _).map PyData.list = _
    rw [VRs.pd r m (by simp only [U.dep] at h; omega)]; rfl
  | _, _, .dct (j := j) e _ _ r, n, h => by
    obtain ⟨m, rfl⟩ : ∃ m, n = m + 1 := ⟨n - 1, by simp only [U.dep] at h; omega⟩
    have e : s[j]? = some _ := e
    have q := VRk.pd r m (by simp only [U.dep] at h; omega)
    have u : Z.pd s (m + 1 + 1) (.obj j) = (match s[j]? with | some (Z.MO.lst xs) => (Z.optAll (Z.pd s (m + 1)) xs).map PyData.list | some (.dct kvs) => (Z.optAll (fun kv : Ky × D => (Z.pd s (m + 1) kv.2).map fun p => ((match kv.1 with | .inl i => PySem.PyData.int i | .inr x => PySem.PyData.str ⟨x.toArray⟩), p)) kvs).map PyData.dict | _ => none) := rfl
    rw [u, e]
    exact congrArg (Option.map PyData.dict) q
  | _, _, .obj e, _, _ => by cases e
theorem VRs.pd : ∀ {u : List U} {d : List D}, VCs s u d → ∀ n, deps u ≤ n → Z.optAll (Z.pd s (n + 1)) d = some (toPs u)
  | _, _, .nil, _, _ => rfl
  | _, _, .cons a r, n, h => by
    simp only [deps] at h
    simp only [Z.optAll, VR.pd a n (by omega), VRs.pd r n (by omega), toPs]
theorem VRk.pd : ∀ {u : List (Ky × U)} {d : List (Ky × D)}, VCk s u d → ∀ n, depk u ≤ n → Z.optAll (fun kv : Ky × D => (Z.pd s (n + 1) kv.2).map fun p => ((match kv.1 with | .inl i => PySem.PyData.int i | .inr x => PySem.PyData.str ⟨x.toArray⟩), p)) d = some (toPk u)
  | _, _, .nil, _, _ => rfl
  | _, _, .cons (k := k) a r, n, h => by
    simp only [depk] at h
    have e := VRk.pd r n (by omega)
    simp only [Z.optAll, VR.pd a n (by omega), Option.map_some]
    rw [e]
    cases k <;> rfl
end
mutual
theorem lay_ok : ∀ u : U, u.lay = true → u.toP.canLay0 = true ∧ u.toP.depth ≤ u.dep
  | .non, _ => ⟨rfl, Nat.le_refl _⟩
  | .bl _, _ => ⟨rfl, Nat.le_refl _⟩
  | .int _, _ => ⟨rfl, Nat.le_refl _⟩
  | .str x, h => by
    simp only [U.lay, strOk, List.all_eq_true, decide_eq_true_eq] at h
    refine ⟨?_, by simp [U.toP, PyData.depth]⟩
    simp only [U.toP, PyData.canLay0, PyData.strOk]
    simpa using h
  | .tup xs, h => by
    obtain ⟨a, b⟩ := lays_ok xs (by simpa only [U.lay] using h)
    simp only [U.toP, PyData.canLay0, PyData.depth, U.dep]
    exact ⟨a, by omega⟩
  | .kl xs, h => by
    obtain ⟨a, b⟩ := lays_ok xs (by simpa only [U.lay] using h)
    simp only [U.toP, PyData.canLay0, PyData.depth, U.dep]
    exact ⟨a, by omega⟩
  | .lst xs, h => by
    obtain ⟨a, b⟩ := lays_ok xs (by simpa only [U.lay] using h)
    simp only [U.toP, PyData.canLay0, PyData.depth, U.dep]
    exact ⟨a, by omega⟩
  | .dct _, h => by simp [U.lay] at h
  | .obj _, h => by simp [U.lay] at h
theorem lays_ok : ∀ u : List U, lays u = true → PyData.canLayAll0 (toPs u) = true ∧ PyData.depthAll (toPs u) ≤ deps u
  | [], _ => ⟨rfl, Nat.le_refl _⟩
  | x :: xs, h => by
    simp only [lays, Bool.and_eq_true] at h
    obtain ⟨a, b⟩ := lay_ok x h.1
    obtain ⟨c, e⟩ := lays_ok xs h.2
    simp only [toPs, PyData.canLayAll0, PyData.depthAll, deps, a, c, Bool.and_self, true_and]
    omega
end
theorem shaped_ok (h : u.lay = true) (k : u.dep ≤ 39) : SeqAt.shaped u.toP = true := by
  obtain ⟨a, b⟩ := lay_ok u h
  unfold SeqAt.shaped
  rw [a, Bool.true_and, decide_eq_true_eq]; omega
theorem eqP_sim (hx : VP X O w u d) (hy : VP X O w v e) (l1 : u.lay = true) (l2 : v.lay = true) (d1 : u.dep ≤ 39) (d2 : v.dep ≤ 39) : Z.eqP w.s d e = some (PyData.eqv u.toP v.toP) := by
  unfold Z.eqP Z.fuel
  rw [(hx.vc (.inl l1)).pd 39 d1, (hy.vc (.inl l2)).pd 39 d2]
  simp only [shaped_ok l1 d1, shaped_ok l2 d2, and_self, if_true]
theorem lenNe_sim (S : SR X w sV) (hx : VP X O w u d) (hy : VP X O w v e) (h : lenNe sV u v = true) : Z.lenNe w.s d e = true := by
  unfold lenNe at h
  split at h
  · rename_i a b ha hb
    obtain ⟨ys, r, k⟩ := lst_sim S hx ha
    obtain ⟨zs, r', k'⟩ := lst_sim S hy hb
    unfold Z.lenNe
    rw [zlst k, zlst k']
    simpa [r.length, r'.length] using h
  · cases h
theorem isEmpty_len {α β : Type} {xs : List α} {ys : List β} (h : xs.length = ys.length) : xs.isEmpty = ys.isEmpty := by
  cases xs <;> cases ys <;> simp_all
theorem VP.notStr (h : VP X O w u d) (n : ∀ a, u ≠ .str a) : ∀ a, d ≠ .str a := by
  rintro a rfl
  rcases h with h | ⟨j, h, _⟩
  · cases h; exact n _ rfl
  · cases h
theorem VP.notTup (h : VP X O w u d) (n : ∀ a, u ≠ .tup a) : ∀ a, d ≠ .tup a := by
  rintro a rfl
  rcases h with h | ⟨j, h, _⟩
  · cases h; exact n _ rfl
  · cases h
theorem zeqD (h1 : ∀ a b, d = .str a → e = .str b → False) (h2 : ∀ a b, d = .tup a → e = .tup b → False) : Z.eqD s d e = if Z.lenNe s d e = true then some false else Z.eqP s d e := by
  unfold Z.eqD
  split
  · exact (h1 _ _ rfl rfl).elim
  · exact (h2 _ _ rfl rfl).elim
  · rfl
theorem zlenNe_not (h : ∀ a, lst? sV u ≠ some a ∨ lst? sV v ≠ some a) : True := trivial
theorem VP.tupOf {ds : List D} (h : VP X O w u (.tup ds)) : ∃ a, u = .tup a := by
  rcases h with h | ⟨j, h, _⟩
  · cases h; exact ⟨_, rfl⟩
  · cases h
theorem VP.strOf {ds : List Nat} (h : VP X O w u (.str ds)) : ∃ a, u = .str a := by
  rcases h with h | ⟨j, h, _⟩
  · cases h; exact ⟨_, rfl⟩
  · cases h
/-- of what reads alone: unlike lengths are unlike data -/
theorem eqvAll_len : ∀ (a b : List PyData), a.length ≠ b.length → PyData.eqvAll a b = false
  | [], [], h => absurd rfl h
  | [], _ :: _, _ => by simp [PyData.eqvAll]
  | _ :: _, [], _ => by simp [PyData.eqvAll]
  | x :: a, y :: b, h => by
    have := eqvAll_len a b (by simpa using h)
    simp [PyData.eqvAll, this]
theorem toPs_len : ∀ us : List U, (toPs us).length = us.length
  | [] => rfl
  | u :: us => by simp [toPs, toPs_len us]
theorem zlenNe_eqv (S : SR X w sV) (hx : VP X O w u d) (hy : VP X O w v e) (h : Z.lenNe w.s d e = true) (l1 : u.lay = true) (l2 : v.lay = true) : PyData.eqv u.toP v.toP = false := by
  have key : ∀ {u : U} {d : D} {xs : List D}, VP X O w u d → u.lay = true → Z.lst? w.s d = some xs → ∃ zs, u.toP = .list (toPs zs) ∧ zs.length = xs.length := by
    intro u d xs hx l e
    cases u with
    | non => cases hx.non; cases e
    | bl b => cases hx.bl; cases e
    | int b => cases hx.int; cases e
    | str b => cases hx.str; cases e
    | tup b => obtain ⟨_, rfl, _⟩ := hx.tup; cases e
    | kl b => obtain ⟨_, rfl, r⟩ := hx.kl; cases e; exact ⟨b, rfl, r.length⟩
    | lst b =>
      obtain ⟨j, ys, rfl, hj, r⟩ := hx.lst
      simp [Z.lst?, hj] at e
      subst e
      exact ⟨b, rfl, r.length⟩
    | dct b => simp [U.lay] at l
    | obj b => simp [U.lay] at l
  unfold Z.lenNe at h
  split at h
  · rename_i a b ha hb
    obtain ⟨zs, e1, e2⟩ := key hx l1 ha
    obtain ⟨zs', e3, e4⟩ := key hy l2 hb
    rw [e1, e3]
    simp only [PyData.eqv]
    exact eqvAll_len _ _ (by rw [toPs_len, toPs_len, e2, e4]; exact bne_iff_ne.mp h)
  · cases h
theorem eq_sim {b : Bool} (S : SR X w sV) (hx : VP X O w u d) (hy : VP X O w v e) (h : eqD sV u v = some b) : Z.eqD w.s d e = some b := by
  unfold eqD at h
  split at h
  · obtain rfl := hx.str; obtain rfl := hy.str
    exact h
  · obtain ⟨xs, rfl, rx⟩ := hx.tup; obtain ⟨ys, rfl, ry⟩ := hy.tup
    rename_i a b
    unfold Z.eqD
    simp only [← isEmpty_len rx.length, ← isEmpty_len ry.length]
    split at h
    · rename_i hl; rw [if_pos hl]; exact h
    · rename_i hl
      rw [if_neg hl]
      split at h
      · rename_i hc
        rw [eqP_sim hx hy (by simpa only [U.lay] using hc.1) (by simpa only [U.lay] using hc.2.1) (by simp only [U.dep]; omega) (by simp only [U.dep]; omega)]
        simpa only [U.toP, PyData.eqv] using h
      · cases h
  · rename_i n1 n2
    have z := zeqD (s := w.s) (d := d) (e := e) (fun a b e1 e2 => by subst e1; subst e2; obtain ⟨a', rfl⟩ := hx.strOf; obtain ⟨b', rfl⟩ := hy.strOf; exact n1 _ _ rfl rfl)
      (fun a b e1 e2 => by subst e1; subst e2; obtain ⟨a', rfl⟩ := hx.tupOf; obtain ⟨b', rfl⟩ := hy.tupOf; exact n2 _ _ rfl rfl)
    rw [z]
    split at h
    · rename_i hl
      rw [if_pos (lenNe_sim S hx hy hl)]; exact h
    · split at h
      · rename_i hc
        split
        · rename_i hz
          rw [← zlenNe_eqv S hx hy hz hc.1 hc.2.1]; exact h
        · rw [eqP_sim hx hy hc.1 hc.2.1 hc.2.2.1 hc.2.2.2]; exact h
      · cases h
/-! in, is, < -/
theorem flat_sim (h : VP X O w u d) (f : flatD u = true) : Z.flatD d = true := by
  cases u with
  | non => cases h.non; rfl
  | bl b => cases h.bl; rfl
  | int b => cases h.int; rfl
  | str b => cases h.str; rfl
  | _ => simp [flatD] at f
theorem flats_sim (h : VRs X w us ds) (f : us.all flatD = true) : ds.all Z.flatD = true := by
  induction us generalizing ds with
  | nil => cases h; rfl
  | cons u us ih =>
    cases h with
    | cons a r =>
      simp only [List.all_cons, Bool.and_eq_true] at f ⊢
      exact ⟨flat_sim (O := C0) (.inl a) f.1, ih r f.2⟩
theorem eqF_sim (hx : VP X O w u d) (hy : VP X O w v e) (fx : flatD u = true) (fy : flatD v = true) : Z.eqF d e = eqF u v := by
  cases u <;> simp [flatD] at fx <;> cases v <;> simp [flatD] at fy
  all_goals
    first | cases hx.non | cases hx.bl | cases hx.int | cases hx.str
    first | cases hy.non | cases hy.bl | cases hy.int | cases hy.str
    rfl
theorem inF_sim (hx : VP X O w u d) (hy : VRs X w us ds) (fx : flatD u = true) (fy : us.all flatD = true) : Z.inF d ds = inF u us := by
  induction us generalizing ds with
  | nil => cases hy; rfl
  | cons v us ih =>
    cases hy with
    | cons a r =>
      simp only [List.all_cons, Bool.and_eq_true] at fy
      have := ih r fy.2
      unfold Z.inF inF at this ⊢
      simp only [List.any_cons, this, eqF_sim (.inl a) hx fy.1 fx]
theorem key_sim {k : Ky} (h : VP X O w u d) (e : u.key = some k) : d.key = some k := by
  cases u with
  | int b => cases h.int; exact e
  | str b => cases h.str; exact e
  | _ => cases e
theorem look_sim {kvs : List (Ky × U)} {kds : List (Ky × D)} (h : VRk X w kvs kds) (k : Ky) : match lookK kvs k with
    | some u => ∃ d, Z.lookK kds k = some d ∧ VR X w u d
    | none => Z.lookK kds k = none := by
  induction kvs generalizing kds with
  | nil => cases h; rfl
  | cons kv kvs ih =>
    cases h with
    | cons a r =>
      rename_i q u d ds
      have := ih r
      unfold lookK Z.lookK at this ⊢
      by_cases hq : q = k
      · simp only [hq, List.find?_cons, decide_true, Option.map_some]
        exact ⟨d, rfl, a⟩
      · simpa only [hq, List.find?_cons, decide_false] using this
theorem in_sim {b : Bool} (S : SR X w sV) (hx : VP X O w u d) (hy : VP X O w v e) (h : opIn u v sV = some b) : Z.opIn d e w.s = some b := by
  unfold opIn at h
  split at h
  · obtain rfl := hy.str
    split at h
    · obtain rfl := hx.str; exact h
    · cases h
  · obtain ⟨ys, rfl, r⟩ := hy.tup
    split at h
    · rename_i hc
      unfold Z.opIn
      dsimp only
      rw [if_pos ⟨flat_sim hx hc.1, flats_sim r hc.2⟩, inF_sim hx r hc.1 hc.2]; exact h
    · cases h
  · split at h
    · rename_i ys hl
      obtain ⟨zs, r, k⟩ := lst_sim S hy hl
      split at h
      · rename_i hc
        have a := flat_sim hx hc.1
        have b := flats_sim r hc.2
        have c := inF_sim hx r hc.1 hc.2
        rcases k with rfl | ⟨j, rfl, k⟩
        · unfold Z.opIn; dsimp only; rw [if_pos ⟨a, b⟩, c]; exact h
        · simp only [Z.opIn, k]
          rw [if_pos ⟨a, b⟩, c]; exact h
      · cases h
    · split at h
      · rename_i kvs k hk hkey
        obtain ⟨j, kds, rfl, hj, r⟩ := dct_sim S hy hk
        simp only [Z.opIn, hj, key_sim hx hkey]
        have := look_sim r k
        cases h
        split at this
        · rename_i hl
          obtain ⟨d', e', _⟩ := this
          rw [hl, e']; rfl
        · rename_i hl
          rw [hl, this]; rfl
      · cases h
theorem is_sim {b : Bool} (hx : VP X O w u d) (hy : VP X O w v e) (h : opIs u v = some b) : Z.opIs d e = some b := by
  unfold opIs at h
  split at h
  · obtain rfl := hy.non
    split at h
    · obtain rfl := hx.non; cases h; rfl
    · rename_i n
      cases h
      have : d ≠ .non := by
        rintro rfl
        rcases hx with hx | ⟨j, hx, _⟩
        · cases hx; exact n rfl
        · cases hx
      simp [Z.opIs, this]
  · obtain rfl := hy.bl
    split at h
    · obtain rfl := hx.bl; exact h
    · cases h
  · cases h
theorem lt_sim {f : Int → Int → Bool} {b : Bool} (hx : VP X O w u d) (hy : VP X O w v e) (h : opLt f u v = some b) : Z.opLt f d e = some b := by
  unfold opLt at h
  split at h
  · obtain rfl := hx.int; obtain rfl := hy.int; exact h
  · cases h
theorem cmpO_sim {o : Cop} {b : Bool} (S : SR X w sV) (hx : VP X O w u d) (hy : VP X O w v e) (h : cmpO o u v sV = some b) : Z.cmpO o d e w.s = some b := by
  cases o with
  | eq => exact eq_sim S hx hy h
  | ne =>
    simp only [cmpO, Option.map_eq_some_iff] at h
    obtain ⟨c, a, rfl⟩ := h
    simp only [Z.cmpO, eq_sim S hx hy a, Option.map_some]
  | lt => exact lt_sim hx hy h
  | le => exact lt_sim hx hy h
  | gt => exact lt_sim hx hy h
  | ge => exact lt_sim hx hy h
  | is => exact is_sim hx hy h
  | isn =>
    simp only [cmpO, Option.map_eq_some_iff] at h
    obtain ⟨c, a, rfl⟩ := h
    simp only [Z.cmpO, is_sim hx hy a, Option.map_some]
  | mem => exact in_sim S hx hy h
  | nmem =>
    simp only [cmpO, Option.map_eq_some_iff] at h
    obtain ⟨c, a, rfl⟩ := h
    simp only [Z.cmpO, in_sim S hx hy a, Option.map_some]
theorem cmp_sim {o : Cop} (S : SR X w sV) (hx : VP X O w u d) (hy : VP X O w v e) : Sm0 (VR X) X w (cmp o u v sV) (Z.cmp o d e w.s) := by
  unfold cmp
  cases h : cmpO o u v sV with
  | none => trivial
  | some b =>
    refine Sm0.okE S ?_ (.bl b)
    unfold Z.cmp
    rw [cmpO_sim S hx hy h]
/-! repr -/
theorem strOk_short {x : List Nat} (h : strOk x = true) : (PyData.str ⟨x.toArray⟩).leavesShort 71 = true := by
  simp only [strOk, List.all_eq_true, decide_eq_true_eq] at h
  simp only [PyData.leavesShort, List.all_eq_true, decide_eq_true_eq]
  intro c hc
  have := h c (by simpa using hc)
  have e : (16 : Nat) ^ 8 = 4294967296 := by decide
  omega
theorem int_ok {i : Int} (h : i.natAbs < 10 ^ 70) : (PyData.int i).leavesShort 71 = true ∧ (PyData.int i).showable = true := by
  refine ⟨?_, ?_⟩
  · simp only [PyData.leavesShort, decide_eq_true_eq]
    have e := int_text_length_le10 (k := 70) (by decide) h
    show (Str.ofString (toString i)).length ≤ 71
    rw [ofString_length]; exact e
  · simp only [PyData.showable, decide_eq_true_eq]
    by_cases h0 : i.natAbs = 0
    · rw [h0]; decide
    · have h1 : (10 : Nat) ^ 70 < 2 ^ 240 := by decide
      have h2 := (Nat.log2_lt h0 (k := 240)).mpr (Nat.lt_trans h h1)
      omega
theorem key_ok {k : Ky} (h : keyOk k = true) : (keyD k).leavesShort 71 = true ∧ (keyD k).showable = true ∧ (keyD k).bulk = keyBlk k := by
  cases k with
  | inl i =>
    have := int_ok (of_decide_eq_true h)
    exact ⟨this.1, this.2, by simp [keyD, keyBlk, PyData.bulk]⟩
  | inr x => exact ⟨strOk_short h, rfl, by simp [keyD, keyBlk, PyData.bulk]⟩
mutual
theorem fine_ok : ∀ u : U, u.fine = true → u.toP.leavesShort 71 = true ∧ u.toP.showable = true ∧ u.toP.bulk = u.blk
  | .non, _ => ⟨rfl, rfl, by simp [U.toP, PyData.bulk, U.blk]⟩
  | .bl _, _ => ⟨rfl, rfl, by simp [U.toP, PyData.bulk, U.blk]⟩
  | .int i, h => by
    have := int_ok (i := i) (by simpa only [U.fine, decide_eq_true_eq] using h)
    exact ⟨this.1, this.2, by simp [U.toP, PyData.bulk, U.blk]⟩
  | .str x, h => ⟨strOk_short (by simpa only [U.fine] using h), rfl, by simp [U.toP, PyData.bulk, U.blk]⟩
  | .tup xs, h => by
    obtain ⟨a, b, c⟩ := fines_ok xs (by simpa only [U.fine] using h)
    simp only [U.toP, PyData.leavesShort, PyData.showable, PyData.bulk, U.blk]
    exact ⟨a, b, c⟩
  | .kl xs, h => by simp [U.fine] at h
  | .lst xs, h => by
    obtain ⟨a, b, c⟩ := fines_ok xs (by simpa only [U.fine] using h)
    simp only [U.toP, PyData.leavesShort, PyData.showable, PyData.bulk, U.blk]
    exact ⟨a, b, c⟩
  | .dct xs, h => by
    obtain ⟨a, b, c⟩ := finek_ok xs (by simpa only [U.fine] using h)
    simp only [U.toP, PyData.leavesShort, PyData.showable, PyData.bulk, U.blk]
    exact ⟨a, b, c⟩
  | .obj _, h => by simp [U.fine] at h
theorem fines_ok : ∀ u : List U, fines u = true → PyData.leavesShortAll 71 (toPs u) = true ∧ PyData.showableAll (toPs u) = true ∧ PyData.bulkAll (toPs u) = blks u
  | [], _ => ⟨rfl, rfl, by simp [toPs, PyData.bulkAll, blks]⟩
  | x :: xs, h => by
    simp only [fines, Bool.and_eq_true] at h
    obtain ⟨a, b, c⟩ := fine_ok x h.1
    obtain ⟨a', b', c'⟩ := fines_ok xs h.2
    simp only [toPs, PyData.leavesShortAll, PyData.showableAll, PyData.bulkAll, blks, a, b, c, a', b', c', Bool.and_self, and_self]
theorem finek_ok : ∀ u : List (Ky × U), finek u = true → PyData.leavesShortKv 71 (toPk u) = true ∧ PyData.showableKv (toPk u) = true ∧ PyData.bulkKv (toPk u) = blkk u
  | [], _ => ⟨rfl, rfl, by simp [toPk, PyData.bulkKv, blkk]⟩
  | (k, x) :: xs, h => by
    obtain ⟨h1, h2, h3⟩ := finek_cons h
    obtain ⟨p, q, r⟩ := key_ok h1
    obtain ⟨a, b, c⟩ := fine_ok x h2
    obtain ⟨a', b', c'⟩ := finek_ok xs h3
    simp only [toPk, PyData.leavesShortKv, PyData.showableKv, PyData.bulkKv, blkk, p, q, r, a, b, c, a', b', c', Bool.and_self, and_self]
end
theorem shown_sim (h : VP X O w u d) (f : u.fine = true) (n : u.dep ≤ 39) (b : u.blk ≤ 200000) : Z.shownD d w.s = some (rp u) := by
  unfold Z.shownD Z.fuel
  rw [(h.vc (.inr f)).pd 39 n]
  obtain ⟨a, c, k⟩ := fine_ok u f
  have h1 := PyData.shown_le_bulk 71 (by omega) u.toP a
  have h2 : u.toP.shown.length ≤ line := by unfold line; omega
  simp only [c, h2, and_self, if_true]
  rfl
end
end Y

/-! YBi: items, slices, built-ins, methods, stores. -/
namespace Y
open Z (Ky Bop Cop Bi Ty Mt Ex Fn line big D)
section
variable {X X' C O O' : Ps} {w w' w0 : Wd} {u v : U} {d e : D} {us : List U} {ds : List D} {sV : Sto} {s : Z.Sto}
theorem atI_map {α β : Type} (f : α → β) (xs : List α) (i : Int) : L2.atI (xs.map f) i = (L2.atI xs i).map f := by
  unfold L2.atI
  rw [List.length_map]
  cases L2.ixN xs.length i with
  | none => rfl
  | some n => simp
theorem ix_sim (S : SR X w sV) (hx : VP X O w u d) (hy : VP X O w v e) : Sm0 (VR X) X w (opIx u v sV) (Z.opIx d e w.s) := by
  unfold opIx
  split
  · obtain ⟨ys, rfl, r⟩ := hx.tup
    split
    · obtain rfl := hy.int
      rename_i i
      cases h : L2.atI _ i with
      | none => trivial
      | some a =>
        obtain ⟨b, q, rr⟩ := r.atI h
        exact Sm0.okE S (by simp only [Z.opIx, q]) rr
    · trivial
  · obtain rfl := hx.str
    rename_i z
    split
    · obtain rfl := hy.int
      rename_i i
      split
      · rename_i hl
        cases h : L2.atI z i with
        | none => trivial
        | some a => exact Sm0.okE S (by simp only [Z.opIx, hl, if_true, h]) (.str _)
      · trivial
    · trivial
  · split
    · rename_i xs hl
      obtain ⟨ys, r, k⟩ := lst_sim S hx hl
      split
      · obtain rfl := hy.int
        rename_i i
        cases h : L2.atI xs i with
        | none => trivial
        | some a =>
          obtain ⟨b, q, rr⟩ := r.atI h
          refine Sm0.okE S ?_ rr
          rcases k with rfl | ⟨j, rfl, k⟩
          · simp only [Z.opIx, q]
          · simp only [Z.opIx, k, q]
      · trivial
    · split
      · rename_i kvs hk
        obtain ⟨j, kds, rfl, hj, r⟩ := dct_sim S hx hk
        split
        · rename_i q hq
          have := look_sim r q
          cases h : lookK kvs q with
          | none => trivial
          | some a =>
            rw [h] at this
            obtain ⟨b, e1, rr⟩ := this
            exact Sm0.okE S (by simp only [Z.opIx, hj, key_sim hy hq, e1]) rr
        · trivial
      · trivial
theorem VRs.cut (h : VRs X w us ds) (lo hi : Option Int) : VRs X w (Z.cut us lo hi) (Z.cut ds lo hi) := by
  unfold Z.cut
  rw [h.length]
  exact (h.drop _).take _
theorem sl_sim {lo hi : Option Int} (S : SR X w sV) (hx : VP X O w u d) : SmT X w (opSl u lo hi sV) (Z.opSl d lo hi w.s) := by
  unfold opSl
  split
  · obtain ⟨ys, rfl, r⟩ := hx.tup
    exact SmT.flatE S rfl (.tup (r.cut lo hi)) rfl
  · obtain rfl := hx.str
    split
    · rename_i hl; exact SmT.flatE S (if_pos hl) (.str _) rfl
    · trivial
  · split
    · rename_i xs hl
      obtain ⟨ys, r, k⟩ := lst_sim S hx hl
      refine SmT.newE (o' := .lst (Z.cut ys lo hi)) S ?_ rfl (.lst (r.cut lo hi))
      rcases k with rfl | ⟨j, rfl, k⟩
      · rfl
      · simp only [Z.opSl, k]; rfl
    · trivial
theorem rev_sim (S : SR X w sV) (hx : VP X O w u d) : SmT X w (opRev u sV) (Z.opRev d w.s) := by
  unfold opRev
  split
  · obtain ⟨ys, rfl, r⟩ := hx.tup
    exact SmT.flatE S rfl (.tup r.reverse) rfl
  · split
    · rename_i xs hl
      obtain ⟨ys, r, k⟩ := lst_sim S hx hl
      refine SmT.newE (o' := .lst ys.reverse) S ?_ rfl (.lst r.reverse)
      rcases k with rfl | ⟨j, rfl, k⟩
      · rfl
      · simp only [Z.opRev, k]; rfl
    · trivial
theorem ty_sim {t : Ty} {b : Bool} (S : SR X w sV) (hx : VP X O w u d) (h : isTy t u sV = some b) : Z.isTy t d w.s = some b := by
  unfold isTy at h
  split at h
  · obtain rfl := hx.non; exact h
  · obtain rfl := hx.bl; exact h
  · obtain rfl := hx.int; exact h
  · obtain rfl := hx.str; exact h
  · obtain ⟨_, rfl, _⟩ := hx.tup; exact h
  · obtain ⟨_, rfl, _⟩ := hx.kl; exact h
  · obtain ⟨j, _, rfl, hj, _⟩ := hx.lst; simp only [Z.isTy, hj]; exact h
  · obtain ⟨j, _, rfl, hj, _⟩ := hx.dct; simp only [Z.isTy, hj]; exact h
  · obtain ⟨j, rfl, hj⟩ := hx.obj
    split at h
    · rename_i hi
      obtain ⟨_, a, _⟩ := S.lst hi hj
      simp only [Z.isTy, a]; exact h
    · rename_i hi
      obtain ⟨_, a, _⟩ := S.dct hi hj
      simp only [Z.isTy, a]; exact h
    · cases h
theorem len_sim (S : SR X w sV) (hx : VP X O w u d) : SmT X w (bLen u sV) (Z.bLen d w.s) := by
  unfold bLen
  split
  · obtain rfl := hx.str
    split
    · rename_i hl; exact SmT.flatE S (if_pos hl) (.int _) rfl
    · trivial
  · obtain ⟨ys, rfl, r⟩ := hx.tup
    exact SmT.flatE S (d := .int ys.length) rfl (by rw [← r.length]; exact .int _) rfl
  · split
    · rename_i xs hl
      obtain ⟨ys, r, k⟩ := lst_sim S hx hl
      refine SmT.flatE S (d := .int ys.length) ?_ (by rw [← r.length]; exact .int _) rfl
      rcases k with rfl | ⟨j, rfl, k⟩
      · rfl
      · simp only [Z.bLen, k]
    · trivial
theorem bls_sim {bs : List Bool} (h : VRs X w us ds) (e : bls? us = some bs) : Z.bls? ds = some bs := by
  induction us generalizing ds bs with
  | nil => cases h; exact e
  | cons u us ih =>
    cases h with
    | cons a r =>
      cases u with
      | bl b =>
        simp only [bls?, Option.map_eq_some_iff] at e
        obtain ⟨cs, e, rfl⟩ := e
        cases a
        simp only [Z.bls?, ih r e, Option.map_some]
      | _ => cases e
theorem ints_sim {bs : List Int} (h : VRs X w us ds) (e : ints? us = some bs) : Z.ints? ds = some bs := by
  induction us generalizing ds bs with
  | nil => cases h; exact e
  | cons u us ih =>
    cases h with
    | cons a r =>
      cases u with
      | int b =>
        simp only [ints?, Option.map_eq_some_iff] at e
        obtain ⟨cs, e, rfl⟩ := e
        cases a
        simp only [Z.ints?, ih r e, Option.map_some]
      | _ => cases e
theorem strs_sim {bs : List (List Nat)} (h : VRs X w us ds) (e : strs? us = some bs) : Z.strs? ds = some bs := by
  induction us generalizing ds bs with
  | nil => cases h; exact e
  | cons u us ih =>
    cases h with
    | cons a r =>
      cases u with
      | str b =>
        simp only [strs?, Option.map_eq_some_iff] at e
        obtain ⟨cs, e, rfl⟩ := e
        cases a
        simp only [Z.strs?, ih r e, Option.map_some]
      | _ => cases e
theorem vrs_strs : ∀ z : List Nat, VRs X w (z.map fun c => .str [c]) (z.map fun c => .str [c])
  | [] => .nil
  | c :: z => .cons (.str _) (vrs_strs z)
theorem vrs_ints : ∀ z : List Int, VRs X w (z.map .int) (z.map .int)
  | [] => .nil
  | c :: z => .cons (.int _) (vrs_ints z)
theorem key_vr : ∀ k : Ky, VR X w (keyU k) (Z.keyD k)
  | .inl i => .int i
  | .inr s => .str s
theorem keys_sim : ∀ {kvs : List (Ky × U)} {kds : List (Ky × D)}, VRk X w kvs kds → VRs X w (kvs.map fun kv => keyU kv.1) (kds.map fun kv => Z.keyD kv.1)
  | _, _, .nil => .nil
  | _, _, .cons _ r => .cons (key_vr _) (keys_sim r)
theorem items_sim : ∀ {kvs : List (Ky × U)} {kds : List (Ky × D)}, VRk X w kvs kds → VRs X w (kvs.map fun kv => .tup [keyU kv.1, kv.2]) (kds.map fun kv => .tup [Z.keyD kv.1, kv.2])
  | _, _, .nil => .nil
  | _, _, .cons a r => .cons (.tup (.cons (key_vr _) (.cons a .nil))) (items_sim r)
theorem pairs_sim : ∀ {us : List U} {ds : List D} {kvs : List (Ky × U)}, VRs X w us ds → pairs? us = some kvs → ∃ zs, Z.optAll Z.pair? ds = some zs ∧ VRk X w kvs zs
  | [], _, _, r, h => by cases r; cases h; exact ⟨[], rfl, .nil⟩
  | u :: us, _, _, r, h => by
    cases r with
    | cons a r =>
      unfold pairs? at h
      split at h
      · rename_i y ys e1 e2
        cases h
        obtain ⟨zs, k1, k2⟩ := pairs_sim r e2
        unfold pair? at e1
        split at e1
        · obtain ⟨q, hq, rfl⟩ := Option.map_eq_some_iff.mp e1
          cases a with
          | tup ra =>
            cases ra with
            | cons rk ra =>
              cases ra with
              | cons rv ra =>
                cases ra
                have kk := key_sim (O := C0) (.inl rk) hq
                refine ⟨(q, _) :: zs, ?_, .cons rv k2⟩
                simp only [Z.optAll, Z.pair?, kk, Option.map_some, k1]
        · cases e1
      · cases h
theorem put_sim {us : List (Ky × U)} {ds : List (Ky × D)} (h : VRk X w us ds) (r : VR X w u d) (k : Ky) : VRk X w (putK us k u) (Z.putK ds k d) := by
  have an : ∀ {us : List (Ky × U)} {ds : List (Ky × D)}, VRk X w us ds → us.any (fun kv => decide (kv.1 = k)) = ds.any fun kv => decide (kv.1 = k) := by
    intro us
    induction us with
    | nil => intro ds h; cases h; rfl
    | cons a us ih =>
      intro ds h
      cases h with
      | cons a r => simp only [List.any_cons, ih r]
  unfold putK Z.putK
  rw [an h]
  split
  · rename_i hh
    clear an hh
    induction us generalizing ds with
    | nil => cases h; exact .nil
    | cons a us ih =>
      cases h with
      | @cons k2 _ _ _ _ b q =>
        simp only [List.map_cons]
        by_cases e : k2 = k
        · simp only [e, if_true]; exact .cons r (ih q)
        · simp only [e, if_false]; exact .cons b (ih q)
  · rename_i hh
    clear an hh
    induction us generalizing ds with
    | nil => cases h; exact .cons r .nil
    | cons a us ih =>
      cases h with
      | cons b q => exact .cons b (ih q)
theorem mrg_sim : ∀ {more : List (Ky × U)} {ms : List (Ky × D)}, VRk X w more ms → ∀ {us : List (Ky × U)} {ds : List (Ky × D)}, VRk X w us ds → VRk X w (mrgK us more) (Z.mrgK ds ms)
  | _, _, .nil, _, _, h => h
  | _, _, .cons a r, _, _, h => mrg_sim r (put_sim h a _)
theorem VRs.erase {us : List U} {ds : List D} (h : VRs X w us ds) : ∀ k : Nat, VRs X w (us.eraseIdx k) (ds.eraseIdx k) := by
  induction us generalizing ds with
  | nil => intro k; cases h; exact .nil
  | cons d us ih =>
    cases h with
    | cons r1 r2 =>
      intro k
      cases k with
      | zero => exact r2
      | succ k => exact .cons r1 (ih r2 k)
theorem getD_sim {z : U} {f : D} (S : SR X w sV) (hx : VP X O w u d) (hy : VP X O w v e) (hz : VR X w z f) : Sm0 (VR X) X w (getD u v z sV) (Z.getD d e f w.s) := by
  unfold getD
  split
  · rename_i kvs hk
    obtain ⟨j, ys, rfl, hj, r⟩ := dct_sim S hx hk
    split
    · rename_i q hq
      have key := key_sim hy hq
      have hl := look_sim r q
      have hd : Z.dct? w.s (.obj j) = some ys := by simp only [Z.dct?, hj]
      cases h : lookK kvs q with
      | none =>
        rw [h] at hl
        have hl : Z.lookK ys q = none := hl
        exact Sm0.okE S (by simp only [Z.getD, hd, key, hl]; rfl) hz
      | some a =>
        rw [h] at hl
        obtain ⟨b, e1, rr⟩ := hl
        exact Sm0.okE S (by simp only [Z.getD, hd, key, e1]; rfl) rr
    · trivial
  · trivial
theorem isD_sim (S : SR X w sV) (hx : VP X O w u d) (h : (dct? sV u).isSome = true) : (Z.dct? w.s d).isSome = true := by
  obtain ⟨kvs, e⟩ := Option.isSome_iff_exists.mp h
  obtain ⟨j, ys, rfl, hj, r⟩ := dct_sim S hx e
  simp only [Z.dct?, hj]; rfl
theorem tys_sim (S : SR X w sV) (hx : VP X O w u d) : ∀ {ts : List Ty} {bs : List Bool}, isTys u sV ts = some bs → Z.optAll (fun t => Z.isTy t d w.s) ts = some bs
  | [], _, h => by cases h; rfl
  | t :: ts, bs, h => by
    unfold isTys at h
    split at h
    · rename_i e1 e2
      cases h
      simp only [Z.optAll, ty_sim S hx e1, tys_sim S hx e2]
    · cases h
theorem bi1_sim {b : Bi} (S : SR X w sV) (hx : VP X O w u d) : SmT X w (bi1 b u sV) (Z.bi1 b d w.s) := by
  cases b with
  | len => exact len_sim S hx
  | abs =>
    simp only [bi1]; split
    · obtain rfl := hx.int; exact SmT.flatE S rfl (.int _) rfl
    · trivial
  | int =>
    simp only [bi1]; split
    · obtain rfl := hx.int; exact SmT.flatE S rfl (.int _) rfl
    · obtain rfl := hx.bl; exact SmT.flatE S rfl (.int _) rfl
    · trivial
  | all =>
    simp only [bi1]; split
    · rename_i bs h
      obtain ⟨xs, h1, h2⟩ := Option.bind_eq_some_iff.mp h
      obtain ⟨ys, r, k⟩ := lst_sim S hx h1
      exact SmT.flatE S (by simp only [Z.bi1, zlst k, bls_sim r h2]) (.bl _) rfl
    · trivial
  | any =>
    simp only [bi1]; split
    · rename_i bs h
      obtain ⟨xs, h1, h2⟩ := Option.bind_eq_some_iff.mp h
      obtain ⟨ys, r, k⟩ := lst_sim S hx h1
      exact SmT.flatE S (by simp only [Z.bi1, zlst k, bls_sim r h2]) (.bl _) rfl
    · trivial
  | list =>
    simp only [bi1]; split
    · obtain rfl := hx.str
      rename_i z
      split
      · rename_i hl
        refine SmT.newE (o' := .lst (z.map fun c => .str [c])) S ?_ rfl (.lst (vrs_strs z))
        simp only [Z.bi1]; rw [if_pos hl]; rfl
      · trivial
    · rename_i n
      split
      · rename_i xs hs
        obtain ⟨ys, r, k⟩ := seq_sim S hx hs
        refine SmT.newE (o' := .lst ys) S ?_ rfl (.lst r)
        unfold Z.bi1
        dsimp only
        split
        · rename_i z
          cases k
        · rw [k]; rfl
      · split
        · rename_i kvs hk
          obtain ⟨j, ys, rfl, hj, r⟩ := dct_sim S hx hk
          refine SmT.newE (o' := .lst (ys.map fun kv => Z.keyD kv.1)) S ?_ rfl (.lst (keys_sim r))
          have e1 : Z.seq? w.s (.obj j) = none := by simp only [Z.seq?, Z.lst?, hj]
          simp only [Z.bi1, e1, Z.dct?, hj]; rfl
        · trivial
  | dict =>
    simp only [bi1]; split
    · rename_i kvs hk
      obtain ⟨j, ys, rfl, hj, r⟩ := dct_sim S hx hk
      exact SmT.newE (o' := .dct ys) S (by simp only [Z.bi1, Z.dct?, hj]; rfl) rfl (.dct r)
    · split
      · rename_i kvs h
        obtain ⟨xs, h1, h2⟩ := Option.bind_eq_some_iff.mp h
        obtain ⟨ys, r, k⟩ := lst_sim S hx h1
        obtain ⟨zs, e1, e2⟩ := pairs_sim r h2
        refine SmT.newE (o' := .dct (Z.mrgK [] zs)) S ?_ rfl (.dct (mrg_sim e2 .nil))
        have hd : Z.dct? w.s d = none := by
          rcases k with rfl | ⟨j, rfl, k⟩
          · rfl
          · simp only [Z.dct?, k]
        simp only [Z.bi1, hd, zlst k, Option.bind_some, e1]; rfl
      · trivial
  | max =>
    simp only [bi1]; split
    · rename_i n ns h
      obtain ⟨xs, h1, h2⟩ := Option.bind_eq_some_iff.mp h
      obtain ⟨ys, r, k⟩ := lst_sim S hx h1
      exact SmT.flatE S (by simp only [Z.bi1, zlst k, Option.bind_some, ints_sim r h2]) (.int _) rfl
    · trivial
  | min =>
    simp only [bi1]; split
    · rename_i n ns h
      obtain ⟨xs, h1, h2⟩ := Option.bind_eq_some_iff.mp h
      obtain ⟨ys, r, k⟩ := lst_sim S hx h1
      exact SmT.flatE S (by simp only [Z.bi1, zlst k, Option.bind_some, ints_sim r h2]) (.int _) rfl
    · trivial
  | tuple =>
    simp only [bi1]; split
    · rename_i xs hs
      obtain ⟨ys, r, k⟩ := seq_sim S hx hs
      exact SmT.flatE S (by simp only [Z.bi1, k]) (.tup r) rfl
    · trivial
  | sum =>
    simp only [bi1]; split
    · rename_i bs h
      obtain ⟨xs, h1, h2⟩ := Option.bind_eq_some_iff.mp h
      obtain ⟨ys, r, k⟩ := lst_sim S hx h1
      exact SmT.flatE S (by simp only [Z.bi1, zlst k, ints_sim r h2]) (.int _) rfl
    · trivial
  | repr =>
    simp only [bi1]; split
    · rename_i h
      exact SmT.flatE S (by simp only [Z.bi1, shown_sim hx h.1 h.2.1 h.2.2]) (.str _) rfl
    · trivial
  | str =>
    simp only [bi1]; split
    · obtain rfl := hx.int
      split
      · rename_i h; exact SmT.flatE S (if_pos h) (.str _) rfl
      · trivial
    · trivial
  | ord =>
    simp only [bi1]; split
    · obtain rfl := hx.str; exact SmT.flatE S rfl (.int _) rfl
    · trivial
  | chr =>
    simp only [bi1]; split
    · obtain rfl := hx.int
      split
      · rename_i h; exact SmT.flatE S (if_pos h) (.str _) rfl
      · trivial
    · trivial
  | _ => trivial
theorem bi2_sim {b : Bi} (S : SR X w sV) (hx : VP X O w u d) (hy : VP X O w v e) : SmT X w (bi2 b u v sV) (Z.bi2 b d e w.s) := by
  cases b with
  | divmod =>
    simp only [bi2]; split
    · obtain rfl := hx.int; obtain rfl := hy.int
      split
      · rename_i h; exact SmT.flatE S (if_pos h) (.tup (.cons (.int _) (.cons (.int _) .nil))) rfl
      · trivial
    · trivial
  | min =>
    simp only [bi2]; split
    · obtain rfl := hx.int; obtain rfl := hy.int; exact SmT.flatE S rfl (.int _) rfl
    · trivial
  | max =>
    simp only [bi2]; split
    · obtain rfl := hx.int; obtain rfl := hy.int; exact SmT.flatE S rfl (.int _) rfl
    · trivial
  | _ => trivial
theorem bi_sim {b : Bi} (S : SR X w sV) (h : VPs X O w us ds) : SmT X w (biF b us sV) (Z.biF b ds w.s) := by
  unfold biF
  split
  · cases h with | cons a r => cases r; exact bi1_sim S a
  · cases h with | cons a r => cases r with | cons b r => cases r; exact bi2_sim S a b
  · trivial
/-! methods -/
theorem mtL_sim {m : Mt} {zs ws xs : List U} {ys : List D} (S : SR X w sV) (r : VRs X w zs ys) (hm : if Y.mtLook m = true then VPs X O w xs ds else VRs X w xs ds) (h : mtL sV m zs xs = some (u, ws)) {j : Nat} (hj : w.s[j]? = some (.lst ys)) :
    ∃ d ys', Z.mth m (.obj j) ds w.s = .ok d (w.s.set j (.lst ys')) ∧ VR X w u d ∧ VRs X w ws ys' := by
  unfold mtL at h
  cases m with
  | append =>
    rw [if_neg (by decide)] at hm
    dsimp only at h
    split at h
    · cases hm with
      | cons a q =>
        cases q
        split at h
        · rename_i hl
          cases h
          refine ⟨.non, ys ++ [_], ?_, .non, r.append (.cons a .nil)⟩
          simp only [Z.mth, hj]
          exact if_pos (by rw [← r.length]; exact hl)
        · cases h
    · cases h
  | reverse =>
    rw [if_neg (by decide)] at hm
    dsimp only at h
    split at h
    · cases hm
      cases h
      exact ⟨.non, ys.reverse, by simp only [Z.mth, hj]; rfl, .non, r.reverse⟩
    · cases h
  | extend =>
    rw [if_pos (by decide)] at hm
    dsimp only at h
    split at h
    · cases hm with
      | cons a q =>
        cases q
        split at h
        · rename_i hy
          obtain ⟨k, vs, rfl, hk, rk⟩ := mst_sim S a hy
          split at h
          · rename_i hl
            cases h
            refine ⟨.non, ys ++ vs, ?_, .non, r.append rk⟩
            simp only [Z.mth, hj, hk]
            exact if_pos (by rw [← r.length, ← rk.length]; exact hl)
          · cases h
        · cases h
    · cases h
  | pop =>
    rw [if_neg (by decide)] at hm
    dsimp only at h
    split at h
    · cases hm
      split at h
      · rename_i z hz
        cases h
        obtain ⟨d, e, rd⟩ := r.get hz
        refine ⟨d, ys.dropLast, ?_, rd, r.dropLast⟩
        rw [r.length] at e
        simp only [Z.mth, hj, e]
        rfl
      · cases h
    · cases h
  | popi =>
    rw [if_neg (by decide)] at hm
    dsimp only at h
    split at h
    · cases hm with
      | cons a q =>
        cases q
        cases a
        split at h
        · rename_i n hn
          split at h
          · rename_i k hk
            split at h
            · rename_i z hz
              cases h
              obtain ⟨d, e, rd⟩ := r.get hz
              refine ⟨d, ys.eraseIdx k, ?_, rd, r.erase k⟩
              rw [r.length] at hk
              simp only [Z.mth, hj, hk, e]
              exact if_pos hn
            · cases h
          · cases h
        · cases h
    · cases h
  | join => cases h
  | upper => cases h
/-- a thing of the plain store is put anew -/
theorem SR.put {i j : Nat} {o : MO} {o' : Z.MO} (S : SR X w sV) (hi : i < sV.length) (hj : w.m[i]? = some j) (r : MOR X w o o') : SR X ⟨w.m, w.s.set j o'⟩ (sV.set i o) ∧ Le C0 w ⟨w.m, w.s.set j o'⟩ := by
  have l : Le C0 w ⟨w.m, w.s.set j o'⟩ := ⟨fun _ _ h => h, fun _ _ h _ => h, fun k u e n _ => by
    show (w.s.set j o')[k]? = _
    rw [List.getElem?_set_ne (fun q : j = k => n (q ▸ List.mem_of_getElem? hj))]; exact e, by simp⟩
  refine ⟨⟨by simp [S.len], S.nd, fun k u e => ?_, fun k c => ?_⟩, l⟩
  · by_cases hk : i = k
    · subst hk
      rw [List.getElem?_set_self hi] at e
      cases e
      obtain ⟨j', q, a, b, _⟩ := S.at_ i sV[i] (by simp [hi])
      rw [hj] at a; cases a
      refine ⟨j, o', hj, ?_, r.up l fun _ h => h.elim⟩
      show (w.s.set j o')[j]? = _
      rw [List.getElem?_set_self (lt_of_get b)]
    · rw [List.getElem?_set_ne hk] at e
      obtain ⟨j', q, a, b, c⟩ := S.at_ k u e
      refine ⟨j', q, a, ?_, c.up l fun _ h => h.elim⟩
      show (w.s.set j o')[j']? = _
      rw [List.getElem?_set_ne (fun q : j = j' => hk (S.nd _ _ _ hj (q ▸ a)))]; exact b
  · obtain ⟨a, b⟩ := S.fr k c
    exact ⟨by simpa using a, b⟩
theorem mth_sim {m : Mt} (S : SR X w sV) (hx : VP X O w u d) (hm : if Y.mtLook m = true then VPs X O w us ds else VRs X w us ds) : Sm0 (VR X) X w (mth m u us sV) (Z.mth m d ds w.s) := by
  unfold mth
  split
  · obtain ⟨j, rfl, hj⟩ := hx.obj
    rename_i i
    split
    · rename_i zs hz
      obtain ⟨ys, a, r⟩ := S.lst hz hj
      split
      · rename_i v ws h
        obtain ⟨d, ys', e, rd, rw'⟩ := mtL_sim S r hm h a
        rw [e]
        obtain ⟨S2, l⟩ := S.put (o := .lst ws) (o' := .lst ys') (lt_of_get hz) hj (.lst rw')
        exact ⟨_, _, rfl, _, l, S2, rd.up0 l⟩
      · trivial
    · trivial
  · obtain rfl := hx.str
    split
    · rw [if_pos (by decide)] at hm
      split
      · cases hm with
        | cons a q =>
          cases q
          split
          · rename_i bs h
            obtain ⟨xs, h1, h2⟩ := Option.bind_eq_some_iff.mp h
            obtain ⟨j, ys, rfl, hj, r⟩ := mst_sim S a h1
            split
            · rename_i hl
              refine Sm0.okE S ?_ (.str _)
              simp only [Z.mth, hj, strs_sim r h2]
              exact if_pos hl
            · trivial
          · trivial
      · trivial
    · rw [if_neg (by decide)] at hm
      split
      · rename_i h
        have : us = [] := by cases us with
          | nil => rfl
          | cons a r => simp at h
        subst this
        cases hm
        exact Sm0.okE S (if_pos h.2) (.str _)
      · trivial
    · trivial
  · trivial
theorem mtOk_sim {m : Mt} (S : SR X w sV) (hx : VP X O w u d) (h : mtOk m u sV = true) : Z.mtOk m d w.s = true := by
  cases m with
  | join =>
    simp only [mtOk] at h
    split at h
    · obtain rfl := hx.str; rfl
    · cases h
  | upper =>
    simp only [mtOk] at h
    split at h
    · obtain rfl := hx.str; rfl
    · cases h
  | _ =>
    simp only [mtOk] at h
    split at h
    · obtain ⟨j, rfl, hj⟩ := hx.obj
      split at h
      · rename_i hi
        obtain ⟨_, a, _⟩ := S.lst hi hj
        simp [Z.mtOk, a]
      · cases h
    · cases h
/-! stores -/
theorem VRk.put {us : List (Ky × U)} {ds : List (Ky × D)} (h : VRk X w us ds) (r : VR X w u d) (k : Ky) : VRk X w (putK us k u) (Z.putK ds k d) := by
  have an : ∀ {us : List (Ky × U)} {ds : List (Ky × D)}, VRk X w us ds → us.any (fun kv => decide (kv.1 = k)) = ds.any fun kv => decide (kv.1 = k) := by
    intro us
    induction us with
    | nil => intro ds h; cases h; rfl
    | cons a us ih =>
      intro ds h
      cases h with
      | cons a r => simp only [List.any_cons, ih r]
  unfold putK Z.putK
  rw [an h]
  split
  · rename_i hh
    clear an hh
    induction us generalizing ds with
    | nil => cases h; exact .nil
    | cons a us ih =>
      cases h with
      | @cons k2 _ _ _ _ b q =>
        simp only [List.map_cons]
        by_cases e : k2 = k
        · simp only [e, if_true]; exact .cons r (ih q)
        · simp only [e, if_false]; exact .cons b (ih q)
  · rename_i hh
    clear an hh
    induction us generalizing ds with
    | nil => cases h; exact .cons r .nil
    | cons a us ih =>
      cases h with
      | cons b q => exact .cons b (ih q)
/-- o[i] = v, at j -/
theorem setI_sim {j : Nat} {u' : U} {i x : U} {di dx : D} (hm : MAt X w j u) (hi : VP X O w i di) (hx : VR X w x dx) (h : setI u i x = some u') : ∃ o', Z.stIx (.obj j) di dx w.s = .ok () (w.s.set j o') ∧ ∃ o, u'.toMO = some o ∧ MOR X w o o' := by
  obtain ⟨o, o', a, b, r⟩ := hm
  unfold setI at h
  split at h
  · simp only [U.toMO, Option.some.injEq] at a
    subst a
    cases r with
    | lst r =>
      split at h
      · obtain rfl := hi.int
        simp only [Option.map_eq_some_iff] at h
        obtain ⟨n, hn, rfl⟩ := h
        refine ⟨.lst _, ?_, .lst _, rfl, .lst (r.set hx n)⟩
        rw [r.length] at hn
        simp only [Z.stIx, b, hn]
        rfl
      · cases h
  · simp only [U.toMO, Option.some.injEq] at a
    subst a
    cases r with
    | dct r =>
      split at h
      · rename_i k hk
        split at h
        · rename_i hl
          cases h
          refine ⟨.dct _, ?_, .dct _, rfl, .dct (r.put hx k)⟩
          simp only [Z.stIx, b, key_sim hi hk]
          exact if_pos (by rw [← r.length]; exact hl)
        · cases h
      · cases h
  · cases h
theorem setS_sim {j : Nat} {u' : U} {p q x : U} {dp dq dx : D} (hm : MAt X w j u) (hp : VP X O w p dp) (hq : VP X O w q dq) (hx : VR X w x dx) (h : setS u p q x = some u') : ∃ o', Z.stSl (.obj j) dp dq dx w.s = .ok () (w.s.set j o') ∧ ∃ o, u'.toMO = some o ∧ MOR X w o o' := by
  obtain ⟨o, o', a, b, r⟩ := hm
  unfold setS at h
  split at h
  · simp only [U.toMO, Option.some.injEq] at a
    subst a
    cases r with
    | lst r =>
      split at h
      · obtain rfl := hp.int; obtain rfl := hq.int
        cases hx with
        | tup rx =>
          split at h
          · rename_i hl
            cases h
            refine ⟨.lst _, ?_, .lst _, rfl, .lst (((r.take _).append rx).append (r.drop _))⟩
            simp only [Z.stSl, b]
            exact if_pos (by rw [← r.length, ← rx.length]; exact hl)
          · cases h
      · cases h
  · cases h
theorem mo_back (o : MO) : o.toU.toMO = some o := by cases o <;> rfl
theorem SR.mat {i j : Nat} {o : MO} (S : SR X w sV) (h : sV[i]? = some o) (e : w.m[i]? = some j) : MAt X w j o.toU := by
  obtain ⟨o', a, r⟩ := S.get h e
  exact ⟨o, o', mo_back o, a, r⟩
theorem stIx_sim {i x : U} {di dx : D} (S : SR X w sV) (ho : VP X O w u d) (hi : VP X O w i di) (hx : VR X w x dx) : Sm0 (fun _ _ _ => True) X w (stIx u i x sV) (Z.stIx d di dx w.s) := by
  unfold stIx
  split
  · obtain ⟨j, rfl, hj⟩ := ho.obj
    rename_i k
    cases hk : sV[k]? with
    | none => trivial
    | some o =>
      cases h : setI o.toU i x with
      | none => simp only [hk, Option.bind_some, h, putO]; trivial
      | some u' =>
        obtain ⟨o', e, o2, e2, r⟩ := setI_sim (S.mat hk hj) hi hx h
        simp only [hk, Option.bind_some, h, putO, e2]
        rw [e]
        obtain ⟨S2, l⟩ := S.put (o := o2) (o' := o') (lt_of_get hk) hj r
        exact ⟨_, _, rfl, _, l, S2, trivial⟩
  · trivial
theorem stSl_sim {p q x : U} {dp dq dx : D} (S : SR X w sV) (ho : VP X O w u d) (hp : VP X O w p dp) (hq : VP X O w q dq) (hx : VR X w x dx) : Sm0 (fun _ _ _ => True) X w (stSl u p q x sV) (Z.stSl d dp dq dx w.s) := by
  unfold stSl
  split
  · obtain ⟨j, rfl, hj⟩ := ho.obj
    rename_i k
    cases hk : sV[k]? with
    | none => trivial
    | some o =>
      cases h : setS o.toU p q x with
      | none => simp only [hk, Option.bind_some, h, putO]; trivial
      | some u' =>
        obtain ⟨o', e, o2, e2, r⟩ := setS_sim (S.mat hk hj) hp hq hx h
        simp only [hk, Option.bind_some, h, putO, e2]
        rw [e]
        obtain ⟨S2, l⟩ := S.put (o := o2) (o' := o') (lt_of_get hk) hj r
        exact ⟨_, _, rfl, _, l, S2, trivial⟩
  · trivial
end
end Y

/-! YExp: expressions of the plain layer say what those of ZCore say. -/
namespace Y
open Z (Ky Bop Cop Bi Ty Mt Ex Fn line big D)
theorem R.bind_eq_ok {α β : Type} {r : R α} {f : α → Sto → R β} {b : β} {s : Sto} (h : r.bind f = .ok b s) : ∃ a s1, r = .ok a s1 ∧ f a s1 = .ok b s := by
  cases r with
  | ok a s1 => exact ⟨a, s1, rfl, h⟩
  | ex => cases h
  | bad => cases h
theorem ofO_eq_ok {α : Type} {o : Option α} {a : α} {s s1 : Sto} (h : ofO o s = .ok a s1) : o = some a ∧ s1 = s := by
  cases o with
  | none => cases h
  | some b => cases h; exact ⟨rfl, rfl⟩
section
variable {X X' C O O' : Ps} {w w' w0 w1 : Wd} {u v : U} {d e : D} {us : List U} {ds : List D} {sV : Sto} {s : Z.Sto} {lV : Lo} {l : Z.Lo}
theorem SR.mlt (S : SR X w sV) {j : Nat} (h : j ∈ w.m) : j < w.s.length := by
  obtain ⟨i, hi, e⟩ := List.getElem_of_mem h
  have hs : i < sV.length := by rw [← S.len]; exact hi
  obtain ⟨j', q, a, b, _⟩ := S.at_ i sV[i] (by simp [hs])
  rw [List.getElem?_eq_getElem hi, e] at a
  cases a
  exact lt_of_get b
/-- a thing that nobody has hold of is changed -/
theorem SR.setX {k : Nat} {o : Z.MO} (S : SR X w sV) (hk : X k) : SR X ⟨w.m, w.s.set k o⟩ sV ∧ Le (· = k) w ⟨w.m, w.s.set k o⟩ := by
  have n := (S.fr k hk).2
  have l : Le (· = k) w ⟨w.m, w.s.set k o⟩ := ⟨fun _ _ h => h, fun _ _ h _ => h, fun j u e _ c => by
    show (w.s.set k o)[j]? = _
    rw [List.getElem?_set_ne (Ne.symm c)]; exact e, by simp⟩
  refine ⟨⟨S.len, S.nd, fun i u e => ?_, fun j c => ?_⟩, l⟩
  · obtain ⟨j, q, a, b, c⟩ := S.at_ i u e
    refine ⟨j, q, a, ?_, c.up l fun j h => h ▸ hk⟩
    show (w.s.set k o)[j]? = _
    rw [List.getElem?_set_ne (fun q : k = j => n (q ▸ List.mem_of_getElem? a))]; exact b
  · obtain ⟨a, b⟩ := S.fr j c
    exact ⟨by simpa using a, b⟩
/-! ### what is walked -/
def SrcG (X : Ps) (w : Wd) (src : Src) (q : Z.Src) (P : Nat → Prop) : Prop := VRs X w src.its q.its ∧ match src.grd with
  | none => q.grd = none ∨ ∃ j ys, q.grd = some (j, ys) ∧ w.s[j]? = some ys ∧ j ∉ w.m ∧ P j
  | some (i, o) => ∃ xs j ys, o = .lst xs ∧ q.grd = some (j, .lst ys) ∧ w.m[i]? = some j ∧ ones xs = true ∧ VRs X w xs ys
abbrev SrcR (X : Ps) (w : Wd) (src : Src) (q : Z.Src) : Prop := SrcG X w src q fun j => ¬ X j
abbrev SrcP (X O : Ps) (w : Wd) (src : Src) (q : Z.Src) : Prop := SrcG X w src q fun j => ¬ X j ∨ O j
mutual
theorem VR.uniq (hm : ∀ (i j : Nat), w.m[i]? = some j → w'.m[i]? = some j) : ∀ {u : U} {d e : D}, VR X w u d → VR X' w' u e → u.one = true → d = e
  | .non, _, _, .non, .non, _ => rfl
  | .bl _, _, _, .bl _, .bl _, _ => rfl
  | .int _, _, _, .int _, .int _, _ => rfl
  | .str _, _, _, .str _, .str _, _ => rfl
  | .tup _, _, _, .tup a, .tup b, h => by rw [VRs.uniq hm a b (by simpa only [U.one] using h)]
  | .obj _, _, _, .obj a, .obj b, _ => by rw [hm _ _ a] at b; cases b; rfl
  | .kl _, _, _, _, _, h => by simp [U.one] at h
  | .lst _, _, _, _, _, h => by simp [U.one] at h
  | .dct _, _, _, _, _, h => by simp [U.one] at h
theorem VRs.uniq (hm : ∀ (i j : Nat), w.m[i]? = some j → w'.m[i]? = some j) : ∀ {u : List U} {d e : List D}, VRs X w u d → VRs X' w' u e → ones u = true → d = e
  | [], _, _, .nil, .nil, _ => rfl
  | _ :: _, _, _, .cons a r, .cons b q, h => by
    simp only [ones, Bool.and_eq_true] at h
    rw [VR.uniq hm a b h.1, VRs.uniq hm r q h.2]
end
theorem SrcG.imp {src : Src} {q : Z.Src} {P P' : Nat → Prop} (h : SrcG X w src q P) (k : ∀ (j : Nat) ys, src.grd = none → q.grd = some (j, ys) → P j → P' j) : SrcG X w src q P' := by
  refine ⟨h.1, ?_⟩
  have h2 := h.2
  cases hg : src.grd with
  | none =>
    simp only [hg] at h2 ⊢
    exact h2.imp (fun h => h) fun ⟨j, ys, a, b, c, p⟩ => ⟨j, ys, a, b, c, k j _ hg a p⟩
  | some io =>
    obtain ⟨i, o⟩ := io
    simp only [hg] at h2 ⊢
    exact h2
theorem SrcG.ok {src : Src} {q : Z.Src} {P : Nat → Prop} (h : SrcG X w src q P) (l : Le C w w') (c : ∀ j, j < w.s.length → P j → ¬ C j) (S : SR X' w' sV) (o : src.ok sV = true) : q.ok w'.s = true := by
  obtain ⟨_, g⟩ := h
  unfold Src.ok at o
  split at g
  · rename_i e
    rcases g with g | ⟨j, ys, g, a, n, p⟩
    · simp [Z.Src.ok, g]
    · simp [Z.Src.ok, g, l.old j _ a n (c j (lt_of_get a) p)]
  · rename_i i o' e
    obtain ⟨xs, j, ys, rfl, g, a, f, r⟩ := g
    rw [e] at o
    have o := of_decide_eq_true o
    obtain ⟨zs, b, rz⟩ := S.lst o (l.pre _ _ a)
    have := VRs.uniq l.pre r rz f
    subst this
    simp [Z.Src.ok, g, b]
/-- what ZCore walks -/
def srcZ (x : D) (s : Z.Sto) : Z.R Z.Src := match x with
  | .tup xs => .ok ⟨xs, none⟩ s
  | .kl xs => .ok ⟨xs, none⟩ s
  | .str z => .ok ⟨z.map fun c => .str [c], none⟩ s
  | .obj i => (match s[i]? with
    | some (.lst xs) => .ok ⟨xs, some (i, .lst xs)⟩ s
    | _ => .bad)
  | _ => .bad
theorem srcZ_lst {j : Nat} {ys : List D} (a : s[j]? = some (.lst ys)) : srcZ (.obj j) s = .ok ⟨ys, some (j, .lst ys)⟩ s := by simp only [srcZ, a]
theorem src_sim (S : SR X w sV) (h : VR X w u d) : Sm0 (SrcR X) X w (srcOf u sV) (srcZ d w.s) := by
  unfold srcOf
  cases h with
  | tup r => exact Sm0.okE S rfl ⟨r, .inl rfl⟩
  | kl r => exact Sm0.okE S rfl ⟨r, .inl rfl⟩
  | lst a n x r => exact Sm0.okE S (srcZ_lst a) ⟨r, .inr ⟨_, _, rfl, a, n, x⟩⟩
  | str z => exact Sm0.okE S rfl ⟨vrs_strs z, .inl rfl⟩
  | obj hj =>
    dsimp only
    split
    · rename_i xs hi
      obtain ⟨ys, a, r⟩ := S.lst hi hj
      split
      · rename_i ho
        exact Sm0.okE S (srcZ_lst a) ⟨r, xs, _, ys, rfl, rfl, hj, ho, r⟩
      · trivial
    · trivial
  | _ => trivial
theorem srcP_sim (S : SR X w sV) (h : VP X O w u d) : Sm0 (SrcP X O) X w (srcOf u sV) (srcZ d w.s) := by
  rcases h with h | ⟨j, rfl, x, o, o', a, b, r⟩
  · exact Sm0.imp (src_sim S h) fun (w : Wd) (a : Src) (b : Z.Src) (h : SrcR X w a b) => h.imp fun _ _ _ _ h => .inl h
  · cases r with
    | lst r =>
      cases u <;> simp [U.toMO] at a
      subst a
      exact Sm0.okE S (srcZ_lst b) ⟨r, .inr ⟨_, _, rfl, b, (S.fr j x.1).2, .inr x.2⟩⟩
    | dct r =>
      cases u <;> simp [U.toMO] at a
      trivial
theorem enum_sim : ∀ {us : List U} {ds : List D} (n : Nat), VRs X w us ds → VRs X w (enumU n us) (Z.enumD n ds)
  | _, _, _, .nil => .nil
  | _, _, n, .cons a r => .cons (.tup (.cons (.int _) (.cons a .nil))) (enum_sim (n + 1) r)
/-- enumerate in ZCore -/
def enZ (x : D) (s : Z.Sto) : Z.R Z.Src := match x with
  | .tup xs => .ok ⟨Z.enumD 0 xs, none⟩ s
  | .obj i => (match s[i]? with
    | some (.lst xs) => .ok ⟨Z.enumD 0 xs, some (i, .lst xs)⟩ s
    | _ => .bad)
  | _ => .bad
theorem en_sim (S : SR X w sV) (h : VR X w u d) : Sm0 (SrcR X) X w (srcEn u sV) (enZ d w.s) := by
  unfold srcEn
  cases h with
  | tup r => exact Sm0.okE S rfl ⟨enum_sim 0 r, .inl rfl⟩
  | @lst j xs ys a n x r => exact Sm0.okE S (b := ⟨Z.enumD 0 ys, some (j, .lst ys)⟩) (by simp only [enZ, a]) ⟨enum_sim 0 r, .inr ⟨_, _, rfl, a, n, x⟩⟩
  | _ => trivial
theorem enP_sim (S : SR X w sV) (h : VP X O w u d) : Sm0 (SrcP X O) X w (srcEn u sV) (enZ d w.s) := by
  rcases h with h | ⟨j, rfl, x, o, o', a, b, r⟩
  · exact Sm0.imp (en_sim S h) fun (w : Wd) (a : Src) (b : Z.Src) (h : SrcR X w a b) => h.imp fun _ _ _ _ h => .inl h
  · cases r with
    | @lst xs ys r =>
      cases u <;> simp [U.toMO] at a
      subst a
      exact Sm0.okE S (b := ⟨Z.enumD 0 ys, some (j, .lst ys)⟩) (by simp only [enZ, b]) ⟨enum_sim 0 r, .inr ⟨_, _, rfl, b, (S.fr j x.1).2, .inr x.2⟩⟩
    | dct r =>
      cases u <;> simp [U.toMO] at a
      trivial
theorem vrs_rng {a b : Int} : VRs X w (rng a b) (Z.rng a b) := by
  unfold rng Z.rng
  generalize List.range (b - a).toNat = xs
  induction xs with
  | nil => exact .nil
  | cons x xs ih => exact .cons (.int _) ih
theorem vrs_rng3 {a b c : Int} : VRs X w (rng3 a b c) (Z.rng3 a b c) := by
  unfold rng3 Z.rng3
  generalize List.range (Z.rgN a b c) = xs
  induction xs with
  | nil => exact .nil
  | cons x xs ih => exact .cons (.int _) ih
/-! ### names stored -/
inductive Sets (X : Ps) (w : Wd) : Lo → Z.Lo → Lo → Z.Lo → Prop
  | refl {lV : Lo} {l : Z.Lo} : Sets X w lV l lV l
  | step {lV lV' : Lo} {l l' : Z.Lo} {u : U} {d : D} {i : Nat} : Sets X w lV l lV' l' → VR X w u d → Sets X w lV l (lV'.set i (.val u)) (l'.set i (some d))
theorem Sets.trans {a b c : Lo} {a' b' c' : Z.Lo} (h : Sets X w a a' b b') (k : Sets X w b b' c c') : Sets X w a a' c c' := by
  induction k with
  | refl => exact h
  | step _ r ih => exact .step (ih h) r
theorem Sets.lr {lV' : Lo} {l' : Z.Lo} (h : Sets X w lV l lV' l') (L : LR X O w lV l) : LR X O w lV' l' := by
  induction h with
  | refl => exact L
  | step _ r ih => exact (ih L).set r _
def TnS (tV : U → Lo → Option Lo) (tS : D → Z.Lo → Z.Sto → Z.R Z.Lo) : Prop := ∀ (X : Ps) (w : Wd) (u : U) (d : D) (lV lV' : Lo) (l : Z.Lo), VR X w u d → tV u lV = some lV' → ∃ l', (∀ s, tS d l s = .ok l' s) ∧ Sets X w lV l lV' l'
def TnsS (tV : List U → Lo → Option Lo) (tS : List D → Z.Lo → Z.Sto → Z.R Z.Lo) : Prop := ∀ (X : Ps) (w : Wd) (u : List U) (d : List D) (lV lV' : Lo) (l : Z.Lo), VRs X w u d → tV u lV = some lV' → ∃ l', (∀ s, tS d l s = .ok l' s) ∧ Sets X w lV l lV' l'
/-! ### readings -/
abbrev Es (f : Lo → Sto → R U) (g : Z.Lo → Z.Sto → Z.R D) : Prop := ∀ (X O : Ps) (w : Wd) (sV : Sto) (lV : Lo) (l : Z.Lo), SR X w sV → LR X O w lV l → Sm0 (VR X) X w (f lV sV) (g l w.s)
abbrev EPs (f : Lo → Sto → R U) (g : Z.Lo → Z.Sto → Z.R D) : Prop := ∀ (X O : Ps) (w : Wd) (sV : Sto) (lV : Lo) (l : Z.Lo), SR X w sV → LR X O w lV l → Sm0 (VP X O) X w (f lV sV) (g l w.s)
abbrev ENs (f : Lo → Sto → R U) (g : Z.Lo → Z.Sto → Z.R D) : Prop := ∀ (X O : Ps) (w : Wd) (sV : Sto) (lV : Lo) (l : Z.Lo), SR X w sV → LR X O w lV l → SmT X w (f lV sV) (g l w.s)
abbrev EBs (f : Lo → Sto → R Bool) (g : Z.Lo → Z.Sto → Z.R Bool) : Prop := ∀ (X O : Ps) (w : Wd) (sV : Sto) (lV : Lo) (l : Z.Lo), SR X w sV → LR X O w lV l → Sm0 (fun _ a b => a = b) X w (f lV sV) (g l w.s)
abbrev Wss (f : Lo → Sto → R Src) (g : Z.Lo → Z.Sto → Z.R Z.Src) : Prop := ∀ (X O : Ps) (w : Wd) (sV : Sto) (lV : Lo) (l : Z.Lo), SR X w sV → LR X O w lV l → Sm0 (SrcP X O) X w (f lV sV) (g l w.s)
theorem asB_sim (S : SR X w sV) (h : VP X O w u d) : Sm0 (fun _ a b => a = b) X w (asB u sV) (Z.asB d w.s) := by
  unfold asB
  split
  · obtain rfl := h.bl; exact Sm0.okE S rfl rfl
  · trivial
theorem EPs.asB {f : Lo → Sto → R U} {g : Z.Lo → Z.Sto → Z.R D} (h : EPs f g) : EBs (fun l s => (f l s).bind asB) (fun l s => (g l s).bind Z.asB) :=
  fun X O w sV lV l S L => (h X O w sV lV l S L).bind fun w' a sV b l' S' p => asB_sim S' p
theorem LR.up' (h : LR X O w lV l) (n : ∀ j, X j ∧ O j → j ∉ w.m) (k : Le C0 w w') : LR X O w' lV l :=
  ⟨h.len, fun i u e => let ⟨d, a, b⟩ := h.val i u e; ⟨d, a, b.up0 k⟩, fun i u e => let ⟨j, a, b, c⟩ := h.own i u e; ⟨j, a, b, c.up k (fun _ h => h.elim) (n j b) fun h => h⟩,
    fun i u e => let ⟨j, xs, ys, a, b, c, d, f⟩ := h.lk i u e; ⟨j, xs, ys, a, b, c, k.old _ _ d (n j c) fun h => h, f.up k fun _ h => h.elim⟩⟩
/-! ### comprehensions -/
/-- the worlds behind w1, in which k alone was changed -/
structure Lat (X O : Ps) (k : Nat) (w1 : Wd) (lV : Lo) (l : Z.Lo) : Prop where
  xk : X k
  ok : ¬ O k
  names : ∀ w sV, Le (· = k) w1 w → SR X w sV → LR X O w lV l
theorem lat_of {k : Nat} {o : Z.MO} (S : SR X w sV) (L : LR X O w lV l) (hk : k = w.s.length) : Lat (fun j => X j ∨ j = k) (fun j => X j ∧ O j) k ⟨w.m, w.s ++ [o]⟩ lV l ∧ SR (fun j => X j ∨ j = k) ⟨w.m, w.s ++ [o]⟩ sV := by
  subst hk
  obtain ⟨S1, p⟩ := S.push o
  have c : ∀ j, (X j ∨ j = w.s.length) → X j ∨ w.s.length ≤ j := fun j h => h.imp_right fun h => by omega
  have nm : w.s.length ∉ w.m := fun h => by have := S.mlt h; omega
  have xn : ¬ X w.s.length := fun h => by have := (S.fr _ h).1; omega
  refine ⟨⟨.inr rfl, fun h => xn h.1, fun w2 sV2 h2 S2 => ?_⟩, ⟨S.len, S.nd, fun i o2 h2 => ?_, fun j h => ?_⟩⟩
  · have L1 : LR (fun j => X j ∨ j = w.s.length) (fun j => X j ∧ O j) w lV l := L.ch c fun j h => ⟨.inl h.1, h⟩
    have pl := p (· = w.s.length)
    have all := pl.trans h2
    refine ⟨L1.len, fun i u e => ?_, fun i u e => ?_, fun i u e => ?_⟩
    rotate_left 2
    · obtain ⟨j, xs, ys, a, b, q, d, f⟩ := L.lk i u e
      have hj := S.fr j q.1
      have nj : ¬ j = w.s.length := by have := hj.1; omega
      exact ⟨j, xs, ys, a, b, ⟨.inl q.1, q⟩, all.old _ _ d hj.2 nj, (f.ch c).up all fun j h => .inr h⟩
    · obtain ⟨d, a, b⟩ := L1.val i u e
      exact ⟨d, a, b.up all fun j h => .inr h⟩
    · obtain ⟨j, a, b, q⟩ := L.own i u e
      have hj := S.fr j b.1
      exact ⟨j, a, ⟨.inl b.1, b⟩, (q.ch c).up all (fun j h => .inr h) hj.2 (by show ¬ j = _; have := hj.1; omega)⟩
  · obtain ⟨j, o3, a, b, q⟩ := S.at_ i o2 h2
    refine ⟨j, o3, a, ?_, (q.ch c).up (p C0) fun _ h => h.elim⟩
    show (w.s ++ [o])[j]? = _
    rw [List.getElem?_append_left (lt_of_get b)]; exact b
  · rcases h with h | rfl
    · exact S1.fr j h
    · exact ⟨by simp, nm⟩
theorem Sm0.get {α β : Type} {P : Wd → α → β → Prop} {r : R α} {q : Z.R β} {a : α} {s1 : Sto} (h : Sm0 P X w r q) (e : r = .ok a s1) : ∃ (w' : Wd) (b : β), q = .ok b w'.s ∧ Le C0 w w' ∧ SR X w' s1 ∧ P w' a b := by
  subst e
  obtain ⟨b, t, e, m, l, S, p⟩ := h
  exact ⟨⟨m, t⟩, b, e, l, S, p⟩
theorem comL_sim {src : Src} {q : Z.Src} {tV : U → Lo → Option Lo} {tS : D → Z.Lo → Z.Sto → Z.R Z.Lo} {cV : Lo → Sto → R Bool} {cS : Z.Lo → Z.Sto → Z.R Bool} {eV : Lo → Sto → R U} {eS : Z.Lo → Z.Sto → Z.R D} {k : Nat}
    (ht : TnS tV tS) (hc : EBs cV cS) (he : Es eV eS) (T : Lat X O k w1 lV l) (G : SrcP X O w1 src q) :
    ∀ (its : List U) (itsS : List D) (acc : List U) (accS : List D) (w : Wd) (sV : Sto) (ys : List U) (s' : Sto), Le (· = k) w1 w → SR X w sV → VRs X w its itsS → VRs X w acc accS → w.s[k]? = some (.lst accS) →
      comL src lV tV cV eV its sV = .ok ys s' → acc.length + ys.length ≤ line →
      ∃ (w' : Wd) (zs : List D), Z.comL q l tS cS eS k itsS accS w.s = .ok () w'.s ∧ Le (· = k) w w' ∧ SR X w' s' ∧ w'.s[k]? = some (.lst zs) ∧ VRs X w' (acc ++ ys) zs := by
  have guard : ∀ (w : Wd) (sV : Sto), Le (· = k) w1 w → SR X w sV → src.ok sV = true → q.ok w.s = true := by
    intro w sV l1 S o
    exact SrcG.ok (G.imp (P' := fun j => j ≠ k) fun j ys _ _ p e => p.elim (fun n => n (e ▸ T.xk)) fun o => T.ok (e ▸ o)) l1 (fun j _ p => p) S o
  intro its
  induction its with
  | nil =>
    intro itsS acc accS w sV ys s' l1 S rI rA ek h _
    cases rI
    unfold comL at h
    split at h
    · rename_i o
      cases h
      refine ⟨w, accS, ?_, .refl, S, ek, by rw [List.append_nil]; exact rA⟩
      unfold Z.comL
      rw [if_pos ⟨guard w sV l1 S o, ek⟩]
    · cases h
  | cons u its ih =>
    intro itsS acc accS w sV ys s' l1 S rI rA ek h hl
    cases rI with
    | cons r1 rI =>
      unfold comL at h
      split at h
      · rename_i o
        obtain ⟨l1V, s1, e0, h0⟩ := R.bind_eq_ok h
        clear h
        obtain ⟨e1, es⟩ := ofO_eq_ok e0
        subst es
        clear e0
        have h := h0
        clear h0
        obtain ⟨l2, t1, St1⟩ := ht X w _ _ lV l1V l r1 e1
        have L1 := St1.lr (T.names w _ l1 S)
        obtain ⟨b, s2, e2, h0⟩ := R.bind_eq_ok h
        clear h
        have h := h0
        clear h0
        obtain ⟨w2, b', q2, le2, S2, rfl⟩ := (hc X O w _ _ _ S L1).get e2
        unfold Z.comL
        rw [if_pos ⟨guard w _ l1 S o, ek⟩, t1, Z.R.bind_ok, q2, Z.R.bind_ok]
        have ek2 : w2.s[k]? = some (.lst accS) := le2.old k _ ek (S.fr k T.xk).2 fun h => h
        have le2' : Le (· = k) w w2 := le2.weak fun _ h => h.elim
        cases b with
        | false =>
          rw [if_neg (by decide)] at h ⊢
          obtain ⟨w', zs, a1, a2, a3, a4, a5⟩ := ih _ acc accS w2 s2 ys s' (l1.trans le2') S2 (rI.up0 le2) (rA.up0 le2) ek2 h hl
          exact ⟨w', zs, a1, le2'.trans a2, a3, a4, a5⟩
        | true =>
          rw [if_pos rfl] at h ⊢
          obtain ⟨y, s3, e3, h0⟩ := R.bind_eq_ok h
          clear h
          have h := h0
          clear h0
          obtain ⟨w3, y', q3, le3, S3, ry⟩ := (he X O w2 _ _ _ S2 (L1.up S le2)).get e3
          obtain ⟨ys', s4, e4, h0⟩ := R.bind_eq_ok h
          cases h0
          have ek3 : w3.s[k]? = some (.lst accS) := le3.old k _ ek2 (S2.fr k T.xk).2 fun h => h
          have le3' : Le (· = k) w w3 := le2'.trans (le3.weak fun _ h => h.elim)
          rw [q3, Z.R.bind_ok, if_pos ⟨ek3, by rw [← rA.length]; simp at hl; omega⟩]
          obtain ⟨S4, le4⟩ := S3.setX (o := .lst (accS ++ [y'])) T.xk
          have rA' : VRs X ⟨w3.m, w3.s.set k (.lst (accS ++ [y']))⟩ (acc ++ [y]) (accS ++ [y']) := (((rA.up0 le2).up0 le3).append (.cons ry .nil)).up le4 fun j h => h ▸ T.xk
          obtain ⟨w', zs, a1, a2, a3, a4, a5⟩ := ih _ (acc ++ [y]) (accS ++ [y']) ⟨w3.m, w3.s.set k (.lst (accS ++ [y']))⟩ s3 ys' s' ((l1.trans le3').trans le4) S4 (((rI.up0 le2).up0 le3).up le4 fun j h => h ▸ T.xk) rA' (by show (w3.s.set k _)[k]? = _; rw [List.getElem?_set_self (lt_of_get ek3)]) e4 (by simp at hl ⊢; omega)
          exact ⟨w', zs, a1, (le3'.trans le4).trans a2, a3, a4, by rw [List.append_assoc] at a5; exact a5⟩
      · cases h
theorem comA_sim {src : Src} {q : Z.Src} {tV : U → Lo → Option Lo} {tS : D → Z.Lo → Z.Sto → Z.R Z.Lo} {eV : Lo → Sto → R U} {eS : Z.Lo → Z.Sto → Z.R D} {k : Nat}
    (ht : TnS tV tS) (he : Es eV eS) (xk : X k) (NM : ∀ w sV, Le (· = k) w1 w → SR X w sV → LR X O w lV l) (GD : ∀ w sV, Le (· = k) w1 w → SR X w sV → src.ok sV = true → q.ok w.s = true) :
    ∀ (its : List U) (itsS : List D) (acc : List U) (accS : List D) (w : Wd) (sV : Sto) (ys : List U) (s' : Sto), Le (· = k) w1 w → SR X w sV → VRs X w its itsS → VRs X w acc accS → w.s[k]? = some (.lst accS) →
      comA src lV tV eV its sV = .ok ys s' → acc.length + ys.length ≤ line →
      ∃ (w' : Wd) (zs : List D), Z.comA q l tS eS k itsS accS w.s = .ok zs w'.s ∧ Le (· = k) w w' ∧ SR X w' s' ∧ w'.s[k]? = some (.lst zs) ∧ VRs X w' (acc ++ ys) zs := by
  intro its
  induction its with
  | nil =>
    intro itsS acc accS w sV ys s' l1 S rI rA ek h _
    cases rI
    unfold comA at h
    split at h
    · rename_i o
      cases h
      refine ⟨w, accS, ?_, .refl, S, ek, by rw [List.append_nil]; exact rA⟩
      unfold Z.comA
      rw [if_pos ⟨GD w sV l1 S o, ek⟩]
    · cases h
  | cons u its ih =>
    intro itsS acc accS w sV ys s' l1 S rI rA ek h hl
    cases rI with
    | cons r1 rI =>
      unfold comA at h
      split at h
      · rename_i o
        obtain ⟨l1V, s1, e0, h0⟩ := R.bind_eq_ok h
        clear h
        obtain ⟨e1, es⟩ := ofO_eq_ok e0
        subst es
        clear e0
        have h := h0
        clear h0
        obtain ⟨l2, t1, St1⟩ := ht X w _ _ lV l1V l r1 e1
        have L1 := St1.lr (NM w _ l1 S)
        unfold Z.comA
        rw [if_pos ⟨GD w _ l1 S o, ek⟩, t1, Z.R.bind_ok]
        obtain ⟨y, s3, e3, h0⟩ := R.bind_eq_ok h
        clear h
        have h := h0
        clear h0
        obtain ⟨w3, y', q3, le3, S3, ry⟩ := (he X O w _ _ _ S L1).get e3
        obtain ⟨ys', s4, e4, h0⟩ := R.bind_eq_ok h
        cases h0
        have ek3 : w3.s[k]? = some (.lst accS) := le3.old k _ ek (S.fr k xk).2 fun h => h
        have le3' : Le (· = k) w w3 := le3.weak fun _ h => h.elim
        rw [q3, Z.R.bind_ok, if_pos ⟨ek3, by rw [← rA.length]; simp at hl; omega⟩]
        obtain ⟨S4, le4⟩ := S3.setX (o := .lst (accS ++ [y'])) xk
        have rA' : VRs X ⟨w3.m, w3.s.set k (.lst (accS ++ [y']))⟩ (acc ++ [y]) (accS ++ [y']) := ((rA.up0 le3).append (.cons ry .nil)).up le4 fun j h => h ▸ xk
        obtain ⟨w', zs, a1, a2, a3, a4, a5⟩ := ih _ (acc ++ [y]) (accS ++ [y']) ⟨w3.m, w3.s.set k (.lst (accS ++ [y']))⟩ s3 ys' s' ((l1.trans le3').trans le4) S4 ((rI.up0 le3).up le4 fun j h => h ▸ xk) rA' (by show (w3.s.set k _)[k]? = _; rw [List.getElem?_set_self (lt_of_get ek3)]) e4 (by simp at hl ⊢; omega)
        exact ⟨w', zs, a1, (le3'.trans le4).trans a2, a3, a4, by rw [List.append_assoc] at a5; exact a5⟩
      · cases h
end
end Y

/-! YCom: the other comprehensions. -/
namespace Y
open Z (Ky Bop Cop Bi Ty Mt Ex Fn line big D)
section
variable {X X' C O O' : Ps} {w w' w0 w1 : Wd} {u v : U} {d e : D} {us : List U} {ds : List D} {sV : Sto} {s : Z.Sto} {lV : Lo} {l : Z.Lo}
theorem Lat.guard {src : Src} {q : Z.Src} {k : Nat} (T : Lat X O k w1 lV l) (G : SrcP X O w1 src q) (w : Wd) (sV : Sto) (l1 : Le (· = k) w1 w) (S : SR X w sV) (o : src.ok sV = true) : q.ok w.s = true :=
  SrcG.ok (G.imp (P' := fun j => j ≠ k) fun j ys _ _ p e => p.elim (fun n => n (e ▸ T.xk)) fun o => T.ok (e ▸ o)) l1 (fun j _ p => p) S o
theorem Lat.later {k : Nat} (T : Lat X O k w1 lV l) (h : Le (· = k) w1 w) : Lat X O k w lV l := ⟨T.xk, T.ok, fun w2 sV h2 => T.names w2 sV (h.trans h2)⟩
theorem Sets.up {lV' : Lo} {l' : Z.Lo} (h : Sets X w lV l lV' l') (k : Le C w w') (c : ∀ j, C j → X j) : Sets X w' lV l lV' l' := by
  induction h with
  | refl => exact .refl
  | step _ r ih => exact .step ih (r.up k c)
theorem com2_sim {src : Src} {q : Z.Src} {tV t2V : U → Lo → Option Lo} {tS t2S : D → Z.Lo → Z.Sto → Z.R Z.Lo} {wV : Lo → Sto → R Src} {wS : Z.Lo → Z.Sto → Z.R Z.Src} {own2 : List Nat} {eV : Lo → Sto → R U} {eS : Z.Lo → Z.Sto → Z.R D} {k : Nat}
    (ht : TnS tV tS) (hw : Wss wV wS) (ht2 : TnS t2V t2S) (he : Es eV eS) (T : Lat X O k w1 lV l) (G : SrcP X O w1 src q) :
    ∀ (its : List U) (itsS : List D) (acc : List U) (accS : List D) (w : Wd) (sV : Sto) (ys : List U) (s' : Sto), Le (· = k) w1 w → SR X w sV → VRs X w its itsS → VRs X w acc accS → w.s[k]? = some (.lst accS) →
      com2 src lV tV wV own2 t2V eV its sV = .ok ys s' → acc.length + ys.length ≤ line →
      ∃ (w' : Wd) (zs : List D), Z.com2 q l tS wS own2 t2S eS k itsS accS w.s = .ok () w'.s ∧ Le (· = k) w w' ∧ SR X w' s' ∧ w'.s[k]? = some (.lst zs) ∧ VRs X w' (acc ++ ys) zs := by
  intro its
  induction its with
  | nil =>
    intro itsS acc accS w sV ys s' l1 S rI rA ek h _
    cases rI
    unfold com2 at h
    split at h
    · rename_i o
      cases h
      refine ⟨w, accS, ?_, .refl, S, ek, by rw [List.append_nil]; exact rA⟩
      unfold Z.com2
      rw [if_pos ⟨T.guard G w sV l1 S o, ek⟩]
    · cases h
  | cons u its ih =>
    intro itsS acc accS w sV ys s' l1 S rI rA ek h hl
    cases rI with
    | cons r1 rI =>
      unfold com2 at h
      split at h
      · rename_i o
        obtain ⟨l1V, s1, e0, h0⟩ := R.bind_eq_ok h
        clear h
        obtain ⟨e1, es⟩ := ofO_eq_ok e0
        subst es
        clear e0
        obtain ⟨l2, t1, St1⟩ := ht X w _ _ lV l1V l r1 e1
        have L1 := St1.lr (T.names w _ l1 S)
        obtain ⟨src2, s2, e2, h1⟩ := R.bind_eq_ok h0
        clear h0
        obtain ⟨w2, q2, f2, le2, S2, G2⟩ := (hw X O w _ _ _ S L1).get e2
        obtain ⟨ys1, s3, e3, h2⟩ := R.bind_eq_ok h1
        clear h1
        obtain ⟨zs1, s4, e4, h3⟩ := R.bind_eq_ok h2
        cases h3
        clear h2
        have le2' : Le (· = k) w w2 := le2.weak fun _ h => h.elim
        have ek2 : w2.s[k]? = some (.lst accS) := le2.old k _ ek (S.fr k T.xk).2 fun h => h
        -- the names ahead of the inner turns
        have nm2 : ∀ w3 sV3, Le (· = k) w2 w3 → SR X w3 sV3 → LR X O w3 (wipe l1V own2) (Z.wipe l2 own2) := fun w3 sV3 h3 S3 => by
          have L0 := T.names w3 sV3 ((l1.trans le2').trans h3) S3
          have St3 : Sets X w3 lV l l1V l2 := St1.up (le2'.trans h3) fun j h => h ▸ T.xk
          exact (St3.lr L0).wipe own2
        obtain ⟨w3, zs, a1, a2, a3, a4, a5⟩ := comA_sim (X := X) (O := O) (w1 := w2) (k := k) (q := q2) ht2 he T.xk nm2 (fun w4 sV4 h4 S4 o4 => SrcG.ok (G2.imp (P' := fun j => j ≠ k) fun j ys _ _ p e => p.elim (fun n => n (e ▸ T.xk)) fun o => T.ok (e ▸ o)) h4 (fun j _ p => p) S4 o4) src2.its q2.its acc accS w2 s2 ys1 s3 .refl S2 G2.1 (rA.up0 le2) ek2 e3 (by simp at hl; omega)
        have le3 := le2'.trans a2
        obtain ⟨w', zs', b1, b2, b3, b4, b5⟩ := ih _ (acc ++ ys1) zs w3 s3 zs1 _ (l1.trans le3) a3 (rI.up le3 fun j h => h ▸ T.xk) a5 a4 e4 (by simp at hl ⊢; omega)
        refine ⟨w', zs', ?_, le3.trans b2, b3, b4, by rw [List.append_assoc] at b5; exact b5⟩
        unfold Z.com2
        rw [if_pos ⟨T.guard G w _ l1 S o, ek⟩, t1, Z.R.bind_ok, f2, Z.R.bind_ok, a1, Z.R.bind_ok, b1]
      · cases h
theorem comD_sim {src : Src} {q : Z.Src} {tV : U → Lo → Option Lo} {tS : D → Z.Lo → Z.Sto → Z.R Z.Lo} {cV : Lo → Sto → R Bool} {cS : Z.Lo → Z.Sto → Z.R Bool} {eV e2V : Lo → Sto → R U} {eS e2S : Z.Lo → Z.Sto → Z.R D} {k : Nat}
    (ht : TnS tV tS) (hc : EBs cV cS) (he : Es eV eS) (he2 : Es e2V e2S) (T : Lat X O k w1 lV l) (G : SrcP X O w1 src q) :
    ∀ (its : List U) (itsS : List D) (acc : List (Ky × U)) (accS : List (Ky × D)) (w : Wd) (sV : Sto) (ys : List (Ky × U)) (s' : Sto), Le (· = k) w1 w → SR X w sV → VRs X w its itsS → VRk X w acc accS → w.s[k]? = some (.dct accS) →
      comD src lV tV cV eV e2V its acc sV = .ok ys s' →
      ∃ (w' : Wd) (zs : List (Ky × D)), Z.comD q l tS cS eS e2S k itsS accS w.s = .ok () w'.s ∧ Le (· = k) w w' ∧ SR X w' s' ∧ w'.s[k]? = some (.dct zs) ∧ VRk X w' ys zs := by
  intro its
  induction its with
  | nil =>
    intro itsS acc accS w sV ys s' l1 S rI rA ek h
    cases rI
    unfold comD at h
    split at h
    · rename_i o
      cases h
      refine ⟨w, accS, ?_, .refl, S, ek, rA⟩
      unfold Z.comD
      rw [if_pos ⟨T.guard G w sV l1 S o, ek⟩]
    · cases h
  | cons u its ih =>
    intro itsS acc accS w sV ys s' l1 S rI rA ek h
    cases rI with
    | cons r1 rI =>
      unfold comD at h
      split at h
      · rename_i o
        obtain ⟨l1V, s1, e0, h0⟩ := R.bind_eq_ok h
        clear h
        obtain ⟨e1, es⟩ := ofO_eq_ok e0
        subst es
        clear e0
        obtain ⟨l2, t1, St1⟩ := ht X w _ _ lV l1V l r1 e1
        have L1 := St1.lr (T.names w _ l1 S)
        obtain ⟨b, s2, e2, h⟩ := R.bind_eq_ok h0
        clear h0
        obtain ⟨w2, b', q2, le2, S2, rfl⟩ := (hc X O w _ _ _ S L1).get e2
        unfold Z.comD
        rw [if_pos ⟨T.guard G w _ l1 S o, ek⟩, t1, Z.R.bind_ok, q2, Z.R.bind_ok]
        have ek2 : w2.s[k]? = some (.dct accS) := le2.old k _ ek (S.fr k T.xk).2 fun h => h
        have le2' : Le (· = k) w w2 := le2.weak fun _ h => h.elim
        cases b with
        | false =>
          rw [if_neg (by decide)] at h ⊢
          obtain ⟨w', zs, a1, a2, a3, a4, a5⟩ := ih _ acc accS w2 s2 ys s' (l1.trans le2') S2 (rI.up0 le2) (rA.up le2 fun _ h => h.elim) ek2 h
          exact ⟨w', zs, a1, le2'.trans a2, a3, a4, a5⟩
        | true =>
          rw [if_pos rfl] at h ⊢
          obtain ⟨y, s3, e3, h1⟩ := R.bind_eq_ok h
          clear h
          obtain ⟨w3, y', q3, le3, S3, ry⟩ := (he X O w2 _ _ _ S2 (L1.up S le2)).get e3
          obtain ⟨z, s4, e4, h2⟩ := R.bind_eq_ok h1
          clear h1
          obtain ⟨w4, z', q4, le4, S4, rz⟩ := (he2 X O w3 _ _ _ S3 ((L1.up S le2).up S2 le3)).get e4
          split at h2
          · rename_i kk hk
            split at h2
            · rename_i hl
              have ek3 : w3.s[k]? = some (.dct accS) := le3.old k _ ek2 (S2.fr k T.xk).2 fun h => h
              have ek4 : w4.s[k]? = some (.dct accS) := le4.old k _ ek3 (S3.fr k T.xk).2 fun h => h
              have le4' : Le (· = k) w w4 := (le2'.trans (le3.weak fun _ h => h.elim)).trans (le4.weak fun _ h => h.elim)
              have key := key_sim (O := C0) (.inl (ry.up0 le4)) hk
              rw [q3, Z.R.bind_ok, q4, Z.R.bind_ok]
              simp only [key]
              rw [if_pos ⟨ek4, by rw [← rA.length]; exact hl⟩]
              obtain ⟨S5, le5⟩ := S4.setX (o := .dct (Z.putK accS kk z')) T.xk
              have rA' : VRk X ⟨w4.m, w4.s.set k (.dct (Z.putK accS kk z'))⟩ (putK acc kk z) (Z.putK accS kk z') := ((((rA.up le2 fun _ h => h.elim).up le3 fun _ h => h.elim).up le4 fun _ h => h.elim).put rz kk).up le5 fun j h => h ▸ T.xk
              obtain ⟨w', zs, a1, a2, a3, a4, a5⟩ := ih _ _ _ ⟨w4.m, w4.s.set k (.dct (Z.putK accS kk z'))⟩ s4 ys s' ((l1.trans le4').trans le5) S5 ((((rI.up0 le2).up0 le3).up0 le4).up le5 fun j h => h ▸ T.xk) rA' (by show (w4.s.set k _)[k]? = _; rw [List.getElem?_set_self (lt_of_get ek4)]) h2
              exact ⟨w', zs, a1, (le4'.trans le5).trans a2, a3, a4, a5⟩
            · cases h2
          · cases h2
      · cases h
end
end Y

/-! YSt: names that have lists of their own. -/
namespace Y
open Z (Ky Bop Cop Bi Ty Mt Ex Fn line big D)
section
variable {X P P' C O O' : Ps} {w w' w0 w1 : Wd} {u v : U} {d e : D} {us : List U} {ds : List D} {sV : Sto} {s : Z.Sto} {lV : Lo} {l : Z.Lo} {n0 : Nat}
abbrev XU (X P : Ps) : Ps := fun j => X j ∨ P j
/-- ahead of a statement: P what names alone have hold of -/
structure St (X P : Ps) (n0 : Nat) (w : Wd) (sV : Sto) (lV : Lo) (l : Z.Lo) : Prop where
  sr : SR (XU X P) w sV
  lr : LR (XU X P) P w lV l
  di : ∀ (i i' : Nat) (u u' : U) (j : Nat), lV[i]? = some (.own u) → lV[i']? = some (.own u') → l[i]? = some (some (.obj j)) → l[i']? = some (some (.obj j)) → i = i'
  lo : ∀ j, P j → n0 ≤ j
  dj : ∀ j, P j → ¬ X j
  le : n0 ≤ w.s.length
  nl : NoLk lV
/-- no name has j -/
def Free (lV : Lo) (l : Z.Lo) (j : Nat) : Prop := ∀ (i : Nat) (u : U), lV[i]? = some (.own u) → l[i]? ≠ some (some (.obj j))
def Own (X P : Ps) (w : Wd) (lV : Lo) (l : Z.Lo) (u : U) (d : D) : Prop := ∃ j, d = .obj j ∧ P j ∧ MAt (XU X P) w j u ∧ Free lV l j
def XRel (X P : Ps) (w : Wd) (lV : Lo) (l : Z.Lo) (o : Bool) (u : U) (d : D) : Prop := if o = true ∧ u.toMO ≠ none then Own X P w lV l u d else VR (XU X P) w u d
abbrev Sub (P P' : Ps) (w : Wd) : Prop := ∀ j, P' j → P j ∨ w.s.length ≤ j
theorem Sub.refl : Sub P P w := fun _ h => .inl h
theorem Sub.of {P' : Ps} (h : ∀ j, P' j → P j) : Sub P P' w := fun j q => .inl (h j q)
theorem Sub.trans {P1 P2 : Ps} (h : Sub P P1 w) (k : Sub P1 P2 w') (le : w.s.length ≤ w'.s.length) : Sub P P2 w := fun j q => (k j q).elim (fun q => h j q) fun q => .inr (Nat.le_trans le q)
theorem Le.trans2 {w2 : Wd} (h : Le P w w1) (sb : Sub P P' w) (k : Le P' w1 w2) : Le P w w2 :=
  ⟨fun i j e => k.pre i j (h.pre i j e),
   fun j l e c => k.out j (Nat.lt_of_lt_of_le l h.len) (h.out j l e c) fun q => (sb j q).elim c fun q => by omega,
   fun j o e n c => k.old j o (h.old j o e n c) (h.out j (lt_of_get e) n c) fun q => (sb j q).elim c fun q => by have := lt_of_get e; omega,
   Nat.le_trans h.len k.len⟩
theorem St.up0 (h : St X P n0 w sV lV l) {sV' : Sto} (k : Le C0 w w') (S : SR (XU X P) w' sV') : St X P n0 w' sV' lV l :=
  ⟨S, h.lr.up h.sr k, h.di, h.lo, h.dj, Nat.le_trans h.le k.len, h.nl⟩
/-- others come to know what is at j -/
theorem St.drop {j : Nat} (h : St X P n0 w sV lV l) (f : Free lV l j) : St X (fun k => P k ∧ k ≠ j) n0 w sV lV l :=
  ⟨h.sr.weak fun k q => q.imp_right fun q => q.1, ⟨h.lr.len, fun i u e => let ⟨d, a, b⟩ := h.lr.val i u e; ⟨d, a, b.weak fun k q => q.imp_right fun q => q.1⟩, fun i u e => by
    obtain ⟨k, a, b, c⟩ := h.lr.own i u e
    have : k ≠ j := by rintro rfl; exact f i u e a
    exact ⟨k, a, ⟨.inr ⟨b.2, this⟩, b.2, this⟩, c.ch fun k q => .inl (q.imp_right fun q => q.1)⟩, fun i u e => absurd e (h.nl i u)⟩, h.di, fun k q => h.lo k q.1, fun k q => h.dj k q.1, h.le, h.nl⟩
theorem Own.vr (h : St X P n0 w sV lV l) (o : Own X P w lV l u d) : ∃ P', (∀ j, P' j → P j) ∧ St X P' n0 w sV lV l ∧ VR (XU X P') w u d := by
  obtain ⟨j, rfl, p, m, f⟩ := o
  refine ⟨fun k => P k ∧ k ≠ j, fun k q => q.1, h.drop f, ?_⟩
  exact (m.ch (X' := XU X fun k => P k ∧ k ≠ j) fun k q => .inl (q.imp_right fun q => q.1)).vr (h.sr.fr j (.inr p)).2 fun q => q.elim (h.dj j p) fun q => q.2 rfl
theorem XRel.vr {o : Bool} (h : St X P n0 w sV lV l) (r : XRel X P w lV l o u d) : ∃ P', (∀ j, P' j → P j) ∧ St X P' n0 w sV lV l ∧ VR (XU X P') w u d := by
  unfold XRel at r
  split at r
  · exact Own.vr h r
  · exact ⟨P, fun _ q => q, h, r⟩
/-- a name is stored -/
theorem St.setV (h : St X P n0 w sV lV l) (r : VR (XU X P) w u d) (i : Nat) : St X P n0 w sV (lV.set i (.val u)) (l.set i (some d)) := by
  have key : ∀ (k : Nat) (v : U), (lV.set i (.val u))[k]? = some (.own v) → lV[k]? = some (.own v) ∧ (l.set i (some d))[k]? = l[k]? := by
    intro k v e
    by_cases hk : i = k
    · subst hk
      have hl := lt_of_get e
      rw [List.length_set] at hl
      rw [List.getElem?_set_self hl] at e
      cases e
    · rw [List.getElem?_set_ne hk] at e ⊢
      exact ⟨e, rfl⟩
  exact ⟨h.sr, h.lr.set r i, fun a b v v' j e1 e2 e3 e4 => by
    obtain ⟨a1, a2⟩ := key a v e1
    obtain ⟨b1, b2⟩ := key b v' e2
    rw [a2] at e3; rw [b2] at e4
    exact h.di a b v v' j a1 b1 e3 e4, h.lo, h.dj, h.le, h.nl.set (fun u h => by cases h) i⟩
theorem St.setO (h : St X P n0 w sV lV l) (o : Own X P w lV l u d) (i : Nat) : St X P n0 w sV (lV.set i (.own u)) (l.set i (some d)) := by
  obtain ⟨j, rfl, p, m, f⟩ := o
  have key : ∀ (k : Nat) (v : U), (lV.set i (.own u))[k]? = some (.own v) → (i = k ∧ v = u ∧ (l.set i (some (.obj j)))[k]? = some (some (.obj j))) ∨ (i ≠ k ∧ lV[k]? = some (.own v) ∧ (l.set i (some (.obj j)))[k]? = l[k]?) := by
    intro k v e
    by_cases hk : i = k
    · subst hk
      have hl := lt_of_get e
      rw [List.length_set] at hl
      rw [List.getElem?_set_self hl] at e
      cases e
      exact .inl ⟨rfl, rfl, by rw [List.getElem?_set_self (h.lr.len ▸ hl)]⟩
    · rw [List.getElem?_set_ne hk] at e ⊢
      exact .inr ⟨hk, e, rfl⟩
  refine ⟨h.sr, ⟨by simp [h.lr.len], fun k v e => ?_, fun k v e => ?_, fun k v e => absurd e (h.nl.set (fun u h => by cases h) i k v)⟩, fun a b v v' j' e1 e2 e3 e4 => ?_, h.lo, h.dj, h.le, h.nl.set (fun u h => by cases h) i⟩
  · by_cases hk : i = k
    · subst hk
      have hl := lt_of_get e
      rw [List.length_set] at hl
      rw [List.getElem?_set_self hl] at e
      cases e
    · rw [List.getElem?_set_ne hk] at e ⊢
      exact h.lr.val k v e
  · rcases key k v e with ⟨rfl, rfl, q⟩ | ⟨n, q, q2⟩
    · exact ⟨j, q, ⟨.inr p, p⟩, m⟩
    · rw [q2]; exact h.lr.own k v q
  · rcases key a v e1 with ⟨rfl, rfl, q⟩ | ⟨n, q, q2⟩ <;> rcases key b v' e2 with ⟨rfl, rfl, r⟩ | ⟨n', r, r2⟩
    · rfl
    · rw [q] at e3; cases e3
      rw [r2] at e4
      exact (f b v' r e4).elim
    · rw [r] at e4; cases e4
      rw [q2] at e3
      exact (f a v q e3).elim
    · rw [q2] at e3; rw [r2] at e4
      exact h.di a b v v' j' q r e3 e4
theorem Sets.st {lV' : Lo} {l' : Z.Lo} (k : Sets (XU X P) w lV l lV' l') (h : St X P n0 w sV lV l) : St X P n0 w sV lV' l' := by
  induction k with
  | refl => exact h
  | step _ r ih => exact (ih h).setV r _
/-- names leave off -/
theorem St.frz : ∀ (is : List Nat) {P : Ps} {lV : Lo}, St X P n0 w sV lV l → ∃ P', (∀ j, P' j → P j) ∧ St X P' n0 w sV (frz lV is) l
  | [], P, lV, h => ⟨P, fun _ q => q, h⟩
  | i :: is, P, lV, h => by
    unfold Y.frz
    split
    · rename_i u hi
      obtain ⟨j, a, b, m⟩ := h.lr.own i u hi
      have il := lt_of_get hi
      have key : ∀ (k : Nat) (v : U), (lV.set i (.val u))[k]? = some (.own v) → i ≠ k ∧ lV[k]? = some (.own v) := by
        intro k v e
        by_cases hk : i = k
        · subst hk
          rw [List.getElem?_set_self il] at e
          cases e
        · rw [List.getElem?_set_ne hk] at e
          exact ⟨hk, e⟩
      have vr : VR (XU X fun k => P k ∧ k ≠ j) w u (.obj j) := (m.ch (X' := XU X fun k => P k ∧ k ≠ j) fun k q => .inl (q.imp_right fun q => q.1)).vr (h.sr.fr j b.1).2 fun q => q.elim (h.dj j b.2) fun q => q.2 rfl
      have h2 : St X (fun k => P k ∧ k ≠ j) n0 w sV (lV.set i (.val u)) l := by
        refine ⟨h.sr.weak fun k q => q.imp_right fun q => q.1, ⟨by simp [h.lr.len], fun k v e => ?_, fun k v e => ?_, fun k v e => absurd e (h.nl.set (fun u h => by cases h) i k v)⟩, fun a b v v' j' e1 e2 e3 e4 => h.di a b v v' j' (key a v e1).2 (key b v' e2).2 e3 e4, fun k q => h.lo k q.1, fun k q => h.dj k q.1, h.le, h.nl.set (fun u h => by cases h) i⟩
        · by_cases hk : i = k
          · subst hk
            rw [List.getElem?_set_self il] at e
            cases e
            exact ⟨_, a, vr⟩
          · rw [List.getElem?_set_ne hk] at e
            obtain ⟨d, q, r⟩ := h.lr.val k v e
            exact ⟨d, q, r.weak fun k q => q.imp_right fun q => q.1⟩
        · obtain ⟨n, e⟩ := key k v e
          obtain ⟨j', q, r, c⟩ := h.lr.own k v e
          have nj : j' ≠ j := by rintro rfl; exact n (h.di i k u v j' hi e a q)
          exact ⟨j', q, ⟨.inr ⟨r.2, nj⟩, r.2, nj⟩, c.ch fun k q => .inl (q.imp_right fun q => q.1)⟩
      obtain ⟨P', p1, p2⟩ := St.frz is h2
      exact ⟨P', fun k q => (p1 k q).1, p2⟩
    · exact St.frz is h
/-! ### what is told -/
def XOk (X P : Ps) (n0 : Nat) (w : Wd) (l : Z.Lo) (r : (Bool × U) × Lo) (sV : Sto) (d : D) (t : Z.Sto) : Prop := ∃ m P', Le P w ⟨m, t⟩ ∧ Sub P P' w ∧ St X P' n0 ⟨m, t⟩ sV r.2 l ∧ XRel X P' ⟨m, t⟩ r.2 l r.1.1 r.1.2 d
def ExOk (X P : Ps) (w : Wd) (e : U) (sV : Sto) (d : D) (t : Z.Sto) : Prop := ∃ m, Le P w ⟨m, t⟩ ∧ SR X ⟨m, t⟩ sV ∧ VR X ⟨m, t⟩ e d
def TOk (X P : Ps) (n0 : Nat) (w : Wd) (lV' : Lo) (sV' : Sto) (l' : Z.Lo) (t : Z.Sto) : Prop := ∃ m P', Le P w ⟨m, t⟩ ∧ Sub P P' w ∧ St X P' n0 ⟨m, t⟩ sV' lV' l'
def FOk (X P : Ps) (n0 : Nat) (w : Wd) (r : Fl × Lo) (sV' : Sto) (r' : Z.Fl × Z.Lo) (t : Z.Sto) : Prop := ∃ m P', Le P w ⟨m, t⟩ ∧ Sub P P' w ∧ match r.1, r'.1 with
  | .nx, .nx => St X P' n0 ⟨m, t⟩ sV' r.2 r'.2
  | .brk, .brk => St X P' n0 ⟨m, t⟩ sV' r.2 r'.2
  | .cnt, .cnt => St X P' n0 ⟨m, t⟩ sV' r.2 r'.2
  | .ret o u, .ret d => SR X ⟨m, t⟩ sV' ∧ VR X ⟨m, t⟩ u d ∧ (o = true → New X n0 ⟨m, t⟩ sV' u d)
  | _, _ => False
theorem ExOk.back {t : Z.Sto} (h : ExOk X P' w1 u sV d t) (l1 : Le P w w1) (sb : Sub P P' w) : ExOk X P w u sV d t := by
  obtain ⟨m, a, b, c⟩ := h
  exact ⟨m, l1.trans2 sb a, b, c⟩
theorem TOk.back {lV' : Lo} {l' : Z.Lo} {t : Z.Sto} (h : TOk X P' n0 w1 lV' sV l' t) (l1 : Le P w w1) (sb : Sub P P' w) : TOk X P n0 w lV' sV l' t := by
  obtain ⟨m, Q, a, b, c⟩ := h
  exact ⟨m, Q, l1.trans2 sb a, sb.trans b l1.len, c⟩
theorem FOk.back {r : Fl × Lo} {r' : Z.Fl × Z.Lo} {t : Z.Sto} (h : FOk X P' n0 w1 r sV r' t) (l1 : Le P w w1) (sb : Sub P P' w) : FOk X P n0 w r sV r' t := by
  obtain ⟨m, Q, a, b, c⟩ := h
  exact ⟨m, Q, l1.trans2 sb a, sb.trans b l1.len, c⟩
/-- from an expression's answer to a statement's -/
theorem ExOk.of {t : Z.Sto} (h : Ok C0 (VR (XU X P)) (XU X P) w u sV d t) : ExOk X P w u sV d t := by
  obtain ⟨m, a, b, c⟩ := h
  exact ⟨m, a.weak fun _ q => q.elim, b.weak fun _ q => .inl q, c.weak fun _ q => .inl q⟩
theorem Sim.map {α α' β : Type} {ok : α → Sto → β → Z.Sto → Prop} {ok' : α' → Sto → β → Z.Sto → Prop} {ex ex' : U → Sto → D → Z.Sto → Prop} {r : R α} {q : Z.R β} {f : α → Sto → R α'}
    (h : Sim ok ex r q) (k : ∀ a s b t, ok a s b t → Sim ok' ex' (f a s) (.ok b t)) (k2 : ∀ a s b t, ex a s b t → ex' a s b t) : Sim ok' ex' (r.bind f) q := by
  cases r with
  | ok a s => obtain ⟨b, t, rfl, p⟩ := h; exact k _ _ _ _ p
  | ex a s => obtain ⟨b, t, rfl, p⟩ := h; exact ⟨b, t, rfl, k2 _ _ _ _ p⟩
  | bad => trivial
theorem x_of {rV : R (Bool × U)} {q : Z.R D} (T : St X P n0 w sV lV l) (h : SmN (XU X P) w rV q) : Sim (XOk X P n0 w l) (ExOk X P w) (rV.bind fun r s1 => .ok (r, lV) s1) q := by
  refine h.map (fun r s1 d t h => ⟨d, t, rfl, ?_⟩) fun a s b t h => .of h
  obtain ⟨m, le, S, v, nw⟩ := h
  obtain ⟨o, u⟩ := r
  have T1 := T.up0 le S
  have leP : Le P w ⟨m, t⟩ := le.weak fun _ q => q.elim
  by_cases hc : o = true ∧ u.toMO ≠ none
  · obtain ⟨mo, hmo⟩ := Option.ne_none_iff_exists'.mp hc.2
    obtain ⟨j, rfl, hj, hjl, nm, SJ, MJ⟩ := nw hc.1 mo hmo
    have conv : ∀ k, (XU X P k ∨ k = j) ↔ XU X (fun k => P k ∨ k = j) k := fun k => or_assoc
    have c0 : ∀ k, XU X (fun k => P k ∨ k = j) k → XU X P k ∨ w.s.length ≤ k := fun k q => ((conv k).mpr q).imp_right fun (q : k = j) => q ▸ hj
    refine ⟨m, fun k => P k ∨ k = j, leP, fun k q => q.imp_right fun (q : k = j) => q ▸ hj, ⟨?_, ?_, T.di, fun k q => q.elim (T.lo k) fun (q : k = j) => q ▸ Nat.le_trans T.le hj, fun k q x => q.elim (fun q => T.dj k q x) fun q => ?_, T1.le, T.nl⟩, ?_⟩
    · exact SJ.weak fun k q => (conv k).mpr q
    · have L0 : LR (XU X fun k => P k ∨ k = j) (fun k => P k ∨ k = j) w lV l := T.lr.ch c0 fun k q => ⟨(conv k).mp (.inl q.1), .inl q.2⟩
      refine L0.up' (fun k q hm => ?_) le
      rcases q.2 with p | rfl
      · exact (T.sr.fr k (.inr p)).2 hm
      · have := T.sr.mlt hm; omega
    · subst q
      have := (T.sr.fr k (.inl x)).1
      omega
    · unfold XRel
      rw [if_pos hc]
      refine ⟨j, rfl, .inr rfl, MJ.ch fun k q => .inl ((conv k).mpr q), fun i v e a => ?_⟩
      obtain ⟨k, a', b', c'⟩ := T.lr.own i v e
      rw [a] at a'; cases a'
      obtain ⟨o1, o2, _, g, _⟩ := c'
      have := lt_of_get g
      omega
  · exact ⟨m, P, leP, .refl, T1, by unfold XRel; rw [if_neg hc]; exact v⟩
theorem x_ofE {rV : R U} {q : Z.R D} (T : St X P n0 w sV lV l) (h : Sm0 (VR (XU X P)) (XU X P) w rV q) : Sim (XOk X P n0 w l) (ExOk X P w) (rV.bind fun u s1 => .ok ((false, u), lV) s1) q := by
  have e : (rV.bind fun u s1 => (R.ok ((false, u), lV) s1 : R ((Bool × U) × Lo))) = (rV.bind fun u s1 => R.ok (false, u) s1).bind fun r s1 => .ok (r, lV) s1 := by cases rV <;> rfl
  rw [e]
  exact x_of T (h.map (fun a s b t ⟨m, a1, a2, a3⟩ => ⟨b, t, rfl, m, a1, a2, a3, fun h => by cases h⟩) fun _ _ _ _ o => o)
theorem x_ofN {rV : R U} {q : Z.R D} (T : St X P n0 w sV lV l) (h : SmT (XU X P) w rV q) : Sim (XOk X P n0 w l) (ExOk X P w) (rV.bind fun u s1 => .ok ((true, u), lV) s1) q := by
  have e : (rV.bind fun u s1 => (R.ok ((true, u), lV) s1 : R ((Bool × U) × Lo))) = (rV.bind fun u s1 => R.ok (true, u) s1).bind fun r s1 => .ok (r, lV) s1 := by cases rV <;> rfl
  rw [e]
  exact x_of T (h.map (fun a s b t o => ⟨b, t, rfl, o⟩) fun _ _ _ _ o => o)
/-! what is a name's alone goes to the plain store -/
mutual
theorem VR.adm {j : Nat} (hj : X j) : ∀ {u : U} {d : D}, VR X w u d → VR (fun k => X k ∧ k ≠ j) ⟨w.m ++ [j], w.s⟩ u d
  | _, _, .non => .non
  | _, _, .bl b => .bl b
  | _, _, .int b => .int b
  | _, _, .str b => .str b
  | _, _, .tup r => .tup (VRs.adm hj r)
  | _, _, .kl r => .kl (VRs.adm hj r)
  | _, _, .lst e n x r => .lst e (fun q => (List.mem_append.mp q).elim n fun q => x (List.mem_singleton.mp q ▸ hj)) (fun q => x q.1) (VRs.adm hj r)
  | _, _, .dct e n x r => .dct e (fun q => (List.mem_append.mp q).elim n fun q => x (List.mem_singleton.mp q ▸ hj)) (fun q => x q.1) (VRk.adm hj r)
  | _, _, .obj e => .obj (by show (w.m ++ [j])[_]? = _; rw [List.getElem?_append_left (lt_of_get e)]; exact e)
theorem VRs.adm {j : Nat} (hj : X j) : ∀ {u : List U} {d : List D}, VRs X w u d → VRs (fun k => X k ∧ k ≠ j) ⟨w.m ++ [j], w.s⟩ u d
  | _, _, .nil => .nil
  | _, _, .cons a r => .cons (VR.adm hj a) (VRs.adm hj r)
theorem VRk.adm {j : Nat} (hj : X j) : ∀ {u : List (Ky × U)} {d : List (Ky × D)}, VRk X w u d → VRk (fun k => X k ∧ k ≠ j) ⟨w.m ++ [j], w.s⟩ u d
  | _, _, .nil => .nil
  | _, _, .cons a r => .cons (VR.adm hj a) (VRk.adm hj r)
end
theorem MOR.adm {j : Nat} (hj : X j) {o : MO} {o' : Z.MO} (h : MOR X w o o') : MOR (fun k => X k ∧ k ≠ j) ⟨w.m ++ [j], w.s⟩ o o' := by
  cases h with
  | lst r => exact .lst (r.adm hj)
  | dct r => exact .dct (r.adm hj)
theorem new_st {u' : U} {s' : Sto} (T : St X P n0 w sV lV l) (o : Own X P w lV l u d) (h : toNew u sV = .ok u' s') : ∃ m P', Le P w ⟨m, w.s⟩ ∧ (∀ j, P' j → P j) ∧ St X P' n0 ⟨m, w.s⟩ s' lV l ∧ VR (XU X P') ⟨m, w.s⟩ u' d := by
  obtain ⟨j, rfl, p, ⟨mo, mo', e1, e2, r⟩, f⟩ := o
  simp only [toNew, e1, R.ok.injEq] at h
  obtain ⟨rfl, rfl⟩ := h
  have xj : XU X P j := .inr p
  have T1 := T.drop f
  have nj := (T.sr.fr j xj).2
  have key : ∀ k, XU X (fun k => P k ∧ k ≠ j) k → XU X P k ∧ k ≠ j := fun k q => q.elim (fun x => ⟨.inl x, fun e => T.dj j p (e ▸ x)⟩) fun q => ⟨.inr q.1, q.2⟩
  have cv : ∀ {o : MO} {o' : Z.MO}, MOR (XU X P) w o o' → MOR (XU X fun k => P k ∧ k ≠ j) ⟨w.m ++ [j], w.s⟩ o o' := fun r => (r.adm xj).ch fun k q => .inl (key k q)
  have cvr : ∀ {u : U} {d : D}, VR (XU X P) w u d → VR (XU X fun k => P k ∧ k ≠ j) ⟨w.m ++ [j], w.s⟩ u d := fun r => (r.adm xj).ch fun k q => .inl (key k q)
  refine ⟨w.m ++ [j], fun k => P k ∧ k ≠ j, ⟨fun i k e => ?_, fun k _ n c q => ?_, fun _ _ e _ _ => e, Nat.le_refl _⟩, fun k q => q.1, ⟨⟨by simp [T.sr.len], fun a b k h1 h2 => ?_, fun i o e => ?_, fun k q => ?_⟩, ?_, T.di, T1.lo, T1.dj, T.le, T.nl⟩, ?_⟩
  · show (w.m ++ [j])[i]? = _
    rw [List.getElem?_append_left (lt_of_get e)]; exact e
  · exact (List.mem_append.mp q).elim n fun q => c (List.mem_singleton.mp q ▸ p)
  · have cs : ∀ i, (w.m ++ [j])[i]? = some k → w.m[i]? = some k ∨ (i = w.m.length ∧ k = j) := fun i h => by
      by_cases hi : i < w.m.length
      · rw [List.getElem?_append_left hi] at h; exact .inl h
      · rw [List.getElem?_append_right (by omega)] at h
        have := lt_of_get h
        simp at this
        have h0 : i - w.m.length = 0 := by omega
        rw [h0] at h
        simp at h
        exact .inr ⟨by omega, h.symm⟩
    rcases cs a h1 with q1 | ⟨q1, r1⟩ <;> rcases cs b h2 with q2 | ⟨q2, r2⟩
    · exact T.sr.nd a b k q1 q2
    · exact (nj (r2 ▸ List.mem_of_getElem? q1)).elim
    · exact (nj (r1 ▸ List.mem_of_getElem? q2)).elim
    · omega
  · by_cases hi : i < sV.length
    · rw [List.getElem?_append_left hi] at e
      obtain ⟨k, o', a, b, c⟩ := T.sr.at_ i o e
      refine ⟨k, o', ?_, b, cv c⟩
      show (w.m ++ [j])[i]? = _
      rw [List.getElem?_append_left (lt_of_get a)]; exact a
    · rw [List.getElem?_append_right (by omega)] at e
      have := lt_of_get e
      simp at this
      have h0 : i - sV.length = 0 := by omega
      rw [h0] at e
      simp at e
      subst e
      refine ⟨j, mo', ?_, e2, cv r⟩
      show (w.m ++ [j])[i]? = _
      have e3 : i = w.m.length := by rw [T.sr.len]; omega
      rw [e3]; simp
  · obtain ⟨q1, q2⟩ := key k q
    exact ⟨(T.sr.fr k q1).1, fun q3 => (List.mem_append.mp q3).elim (T.sr.fr k q1).2 fun q => q2 (List.mem_singleton.mp q)⟩
  · refine ⟨T.lr.len, fun i v e => ?_, fun i v e => ?_, fun i v e => absurd e (T.nl i v)⟩
    · obtain ⟨d, a, b⟩ := T.lr.val i v e
      exact ⟨d, a, cvr b⟩
    · obtain ⟨k, a, b, o1, o2, c1, c2, c3⟩ := T.lr.own i v e
      have nk : k ≠ j := by rintro rfl; exact f i v e a
      exact ⟨k, a, ⟨.inr ⟨b.2, nk⟩, b.2, nk⟩, o1, o2, c1, c2, cv c3⟩
  · refine .obj ?_
    show (w.m ++ [j])[sV.length]? = _
    rw [← T.sr.len]; simp
/-- a list of a name's is changed -/
theorem St.chg {i j : Nat} {u' : U} {o : MO} {o' : Z.MO} (T : St X P n0 w sV lV l) (hi : lV[i]? = some (.own u)) (hj : l[i]? = some (some (.obj j))) (hu : u'.toMO = some o) (r : MOR (XU X P) w o o') :
    Le P w ⟨w.m, w.s.set j o'⟩ ∧ St X P n0 ⟨w.m, w.s.set j o'⟩ sV (lV.set i (.own u')) l ∧ ∀ {v : U} {d : D}, VR (XU X P) w v d → VR (XU X P) ⟨w.m, w.s.set j o'⟩ v d := by
  obtain ⟨j', a, b, m⟩ := T.lr.own i u hi
  rw [hj] at a; cases a
  obtain ⟨S, le⟩ := T.sr.setX (o := o') b.1
  have up : ∀ k, k = j → XU X P k := fun k q => q ▸ b.1
  have il := lt_of_get hi
  obtain ⟨_, _, _, mg, _⟩ := m
  have key : ∀ (k : Nat) (v : U), (lV.set i (.own u'))[k]? = some (.own v) → (i = k ∧ v = u') ∨ (i ≠ k ∧ lV[k]? = some (.own v)) := by
    intro k v e
    by_cases hk : i = k
    · subst hk
      rw [List.getElem?_set_self il] at e
      cases e
      exact .inl ⟨rfl, rfl⟩
    · rw [List.getElem?_set_ne hk] at e
      exact .inr ⟨hk, e⟩
  refine ⟨le.weak fun k q => q ▸ b.2, ⟨S, ⟨by simp [T.lr.len], fun k v e => ?_, fun k v e => ?_, fun k v e => absurd e (T.nl.set (fun u h => by cases h) i k v)⟩, fun p q v v' x e1 e2 e3 e4 => ?_, T.lo, T.dj, by have := T.le; simpa using this, T.nl.set (fun u h => by cases h) i⟩, fun r => r.up le up⟩
  · by_cases hk : i = k
    · subst hk
      rw [List.getElem?_set_self il] at e
      cases e
    · rw [List.getElem?_set_ne hk] at e
      obtain ⟨d, p, q⟩ := T.lr.val k v e
      exact ⟨d, p, q.up le up⟩
  · rcases key k v e with ⟨rfl, rfl⟩ | ⟨n, e⟩
    · exact ⟨j, hj, b, o, o', hu, by show (w.s.set j o')[j]? = _; rw [List.getElem?_set_self (lt_of_get mg)], r.up le up⟩
    · obtain ⟨x, p, q, c⟩ := T.lr.own k v e
      exact ⟨x, p, q, c.up le up (T.sr.fr x q.1).2 fun z => n (T.di i k u v j hi e hj (z ▸ p))⟩
  · have get : ∀ (p : Nat) (v : U), (lV.set i (.own u'))[p]? = some (.own v) → ∃ z, lV[p]? = some (.own z) := fun p v e => by
      rcases key p v e with ⟨rfl, _⟩ | ⟨_, e⟩
      · exact ⟨_, hi⟩
      · exact ⟨_, e⟩
    obtain ⟨z, a1⟩ := get p v e1
    obtain ⟨z', a2⟩ := get q v' e2
    exact T.di p q z z' x a1 a2 e3 e4
end
end Y

/-! YAll: every term of the plain layer says what it says to ZCore. -/
namespace Y
open Z (Ky Bop Cop Bi Ty Mt Ex Fn line big D)
abbrev Xs (f : Lo → Sto → R ((Bool × U) × Lo)) (g : Z.Lo → Z.Sto → Z.R D) : Prop := ∀ (X P : Ps) (n0 : Nat) (w : Wd) (sV : Sto) (lV : Lo) (l : Z.Lo), St X P n0 w sV lV l → Sim (XOk X P n0 w l) (ExOk X P w) (f lV sV) (g l w.s)
abbrev Ls (f : Lo → Sto → R (List U)) (g : Z.Lo → Z.Sto → Z.R (List D)) : Prop := ∀ (X O : Ps) (w : Wd) (sV : Sto) (lV : Lo) (l : Z.Lo), SR X w sV → LR X O w lV l → Sm0 (VRs X) X w (f lV sV) (g l w.s)
abbrev LPs (f : Lo → Sto → R (List U)) (g : Z.Lo → Z.Sto → Z.R (List D)) : Prop := ∀ (X O : Ps) (w : Wd) (sV : Sto) (lV : Lo) (l : Z.Lo), SR X w sV → LR X O w lV l → Sm0 (VPs X O) X w (f lV sV) (g l w.s)
abbrev Wsv (f : Lo → Sto → R Src) (g : Z.Lo → Z.Sto → Z.R Z.Src) : Prop := ∀ (X O : Ps) (w : Wd) (sV : Sto) (lV : Lo) (l : Z.Lo), SR X w sV → LR X O w lV l → Sm0 (SrcR X) X w (f lV sV) (g l w.s)
abbrev Tss (f : Bool → U → Lo → Sto → R Lo) (g : D → Z.Lo → Z.Sto → Z.R Z.Lo) : Prop := ∀ (X P : Ps) (n0 : Nat) (w : Wd) (sV : Sto) (lV : Lo) (l : Z.Lo) (o : Bool) (u : U) (d : D), St X P n0 w sV lV l → XRel X P w lV l o u d → Sim (TOk X P n0 w) (ExOk X P w) (f o u lV sV) (g d l w.s)
abbrev Sss (f : Lo → Sto → R (Fl × Lo)) (g : Z.Lo → Z.Sto → Z.R (Z.Fl × Z.Lo)) : Prop := ∀ (X P : Ps) (n0 : Nat) (w : Wd) (sV : Sto) (lV : Lo) (l : Z.Lo), St X P n0 w sV lV l → Sim (FOk X P n0 w) (ExOk X P w) (f lV sV) (g l w.s)
abbrev ClS (cl : Cl) (clS : Z.Cl) : Prop := ∀ (X : Ps) (w : Wd) (sV : Sto) (us : List U) (ds : List D) (f : Nat), SR X w sV → VRs X w us ds → SmN X w (cl f us sV) (clS f ds w.s)
structure SE (cl : Cl) (clS : Z.Cl) (a : Ex) : Prop where
  e : Es (sem cl a).e (Z.sem clS a).e
  p : EPs (sem cl a).p (Z.sem clS a).e
  x : Xs (sem cl a).x (Z.sem clS a).e
  l : Ls (sem cl a).l (Z.sem clS a).l
  lp : LPs (sem cl a).lp (Z.sem clS a).l
  w : Wsv (sem cl a).w (Z.sem clS a).w
  wp : Wss (sem cl a).wp (Z.sem clS a).w
  t : Tss (sem cl a).t (Z.sem clS a).t
  tn : TnS (sem cl a).tn (Z.sem clS a).t
  tns : TnsS (sem cl a).tns (Z.sem clS a).ts
  s : Sss (sem cl a).s (Z.sem clS a).s
  n : Sss (sem cl a).n (Z.sem clS a).s
  v : ∀ i, (sem cl a).v = some i → a = .var i
section
variable {cl : Cl} {clS : Z.Cl} {a b c r es : Ex} {X P P' C O O' : Ps} {w w' w0 w1 : Wd} {u v : U} {d e : D} {us : List U} {ds : List D} {sV : Sto} {s : Z.Sto} {lV : Lo} {l : Z.Lo} {n0 : Nat}
/-- nothing is said -/
theorem SE.nope (h : sem cl a = Sm.bad) : SE cl clS a := by
  constructor <;> (rw [h]) <;> first | (intro _ _ _ _ _ _ _ _; exact True.intro) | (intro _ _ _ _ _ _ _ _ _ _ _ _; exact True.intro) | (intro _ _ _ _ _ lV' _ _ h; exact nomatch (show (Option.none : Option Lo) = some lV' from h)) | (intro i h; exact nomatch (show (Option.none : Option Nat) = some i from h))
theorem SE.ofE {f : Lo → Sto → R U} (h : sem cl a = Sm.ofE f) (k : Es f (Z.sem clS a).e) : SE cl clS a := by
  constructor <;> (rw [h])
  case e => exact k
  case p => exact fun X O w sV lV l S L => (k X O w sV lV l S L).imp fun _ _ _ h => .inl h
  case x => exact fun X P n0 w sV lV l T => x_ofE T (k _ _ w sV lV l T.sr T.lr)
  all_goals first | (intro _ _ _ _ _ _ _ _; exact True.intro) | (intro _ _ _ _ _ _ _ _ _ _ _ _; exact True.intro) | (intro _ _ _ _ _ lV' _ _ h; exact nomatch (show (Option.none : Option Lo) = some lV' from h)) | (intro i h; exact nomatch (show (Option.none : Option Nat) = some i from h))
theorem SE.ofN {f : Lo → Sto → R U} (h : sem cl a = Sm.ofN f) (k : ENs f (Z.sem clS a).e) : SE cl clS a := by
  constructor <;> (rw [h])
  case e => exact fun X O w sV lV l S L => (k X O w sV lV l S L).e
  case p => exact fun X O w sV lV l S L => (k X O w sV lV l S L).e.imp fun _ _ _ h => .inl h
  case x => exact fun X P n0 w sV lV l T => x_ofN T (k _ _ w sV lV l T.sr T.lr)
  all_goals first | (intro _ _ _ _ _ _ _ _; exact True.intro) | (intro _ _ _ _ _ _ _ _ _ _ _ _; exact True.intro) | (intro _ _ _ _ _ lV' _ _ h; exact nomatch (show (Option.none : Option Lo) = some lV' from h)) | (intro i h; exact nomatch (show (Option.none : Option Nat) = some i from h))
theorem SE.ofW {f : Lo → Sto → R Src} (h : sem cl a = Sm.ofW f) (k : Wsv f (Z.sem clS a).w) : SE cl clS a := by
  constructor <;> (rw [h])
  case w => exact k
  case wp => exact fun X O w sV lV l S L => (k X O w sV lV l S L).imp fun _ _ _ h => h.imp fun _ _ _ _ h => .inl h
  all_goals first | (intro _ _ _ _ _ _ _ _; exact True.intro) | (intro _ _ _ _ _ _ _ _ _ _ _ _; exact True.intro) | (intro _ _ _ _ _ lV' _ _ h; exact nomatch (show (Option.none : Option Lo) = some lV' from h)) | (intro i h; exact nomatch (show (Option.none : Option Nat) = some i from h))
theorem SE.ofS {f : Lo → Sto → R (Fl × Lo)} (h : sem cl a = Sm.ofS f) (k : Sss f (Z.sem clS a).s) : SE cl clS a := by
  constructor <;> (rw [h])
  case s => exact k
  all_goals first | (intro _ _ _ _ _ _ _ _; exact True.intro) | (intro _ _ _ _ _ _ _ _ _ _ _ _; exact True.intro) | (intro _ _ _ _ _ lV' _ _ h; exact nomatch (show (Option.none : Option Lo) = some lV' from h)) | (intro i h; exact nomatch (show (Option.none : Option Nat) = some i from h))
/-! values -/
theorem two_p {k : U → U → Sto → R U} {k' : D → D → Z.Sto → Z.R D} (ia : SE cl clS a) (ib : SE cl clS b)
    (hk : ∀ (X O : Ps) (w : Wd) (sV : Sto) (u v : U) (d e : D), SR X w sV → VP X O w u d → VP X O w v e → SmT X w (k u v sV) (k' d e w.s)) :
    ENs (fun l s => ((sem cl a).p l s).bind fun x s1 => ((sem cl b).p l s1).bind fun y s2 => k x y s2) (fun l s => ((Z.sem clS a).e l s).bind fun x s1 => ((Z.sem clS b).e l s1).bind fun y s2 => k' x y s2) :=
  fun X O w sV lV l S L => SmT.bind (ia.p X O w sV lV l S L) fun w1 x s1 x' l1 S1 r1 => SmT.bind (ib.p X O w1 s1 lV l S1 (L.up S l1)) fun w2 y s2 y' l2 S2 r2 => hk X O w2 s2 x y x' y' S2 (r1.up0 S1 l2) r2
theorem two_e {k : U → U → Sto → R U} {k' : D → D → Z.Sto → Z.R D} (ia : SE cl clS a) (ib : SE cl clS b)
    (hk : ∀ (X O : Ps) (w : Wd) (sV : Sto) (u v : U) (d e : D), SR X w sV → VP X O w u d → VP X O w v e → Sm0 (VR X) X w (k u v sV) (k' d e w.s)) :
    Es (fun l s => ((sem cl a).p l s).bind fun x s1 => ((sem cl b).p l s1).bind fun y s2 => k x y s2) (fun l s => ((Z.sem clS a).e l s).bind fun x s1 => ((Z.sem clS b).e l s1).bind fun y s2 => k' x y s2) :=
  fun X O w sV lV l S L => Sm0.bind (ia.p X O w sV lV l S L) fun w1 x s1 x' l1 S1 r1 => Sm0.bind (ib.p X O w1 s1 lV l S1 (L.up S l1)) fun w2 y s2 y' l2 S2 r2 => hk X O w2 s2 x y x' y' S2 (r1.up0 S1 l2) r2
theorem one_e {k : U → Sto → R U} {k' : D → Z.Sto → Z.R D} (ia : SE cl clS a)
    (hk : ∀ (X O : Ps) (w : Wd) (sV : Sto) (u : U) (d : D), SR X w sV → VP X O w u d → Sm0 (VR X) X w (k u sV) (k' d w.s)) :
    Es (fun l s => ((sem cl a).p l s).bind k) (fun l s => ((Z.sem clS a).e l s).bind k') :=
  fun X O w sV lV l S L => Sm0.bind (ia.p X O w sV lV l S L) fun w1 x s1 x' l1 S1 r1 => hk X O w1 s1 x x' S1 r1
theorem one_n {k : U → Sto → R U} {k' : D → Z.Sto → Z.R D} (ia : SE cl clS a)
    (hk : ∀ (X O : Ps) (w : Wd) (sV : Sto) (u : U) (d : D), SR X w sV → VP X O w u d → SmT X w (k u sV) (k' d w.s)) :
    ENs (fun l s => ((sem cl a).p l s).bind k) (fun l s => ((Z.sem clS a).e l s).bind k') :=
  fun X O w sV lV l S L => SmT.bind (ia.p X O w sV lV l S L) fun w1 x s1 x' l1 S1 r1 => hk X O w1 s1 x x' S1 r1
mutual
theorem ofD_vr : ∀ d : D, plainD d = true → VR X w (ofD d) d
  | .non, _ => .non
  | .bl b, _ => .bl b
  | .int b, _ => .int b
  | .str b, _ => .str b
  | .tup xs, h => .tup (ofDs_vr xs (by simpa only [plainD] using h))
  | .kl _, h => by simp [plainD] at h
  | .obj _, h => by simp [plainD] at h
theorem ofDs_vr : ∀ d : List D, plainDs d = true → VRs X w (ofDs d) d
  | [], _ => .nil
  | x :: xs, h => by
    simp only [plainDs, Bool.and_eq_true] at h
    exact .cons (ofD_vr x h.1) (ofDs_vr xs h.2)
end
theorem se_var (i : Nat) : SE cl clS (.var i) := by
  have val : ∀ {X O : Ps} {w : Wd} {lV : Lo} {l : Z.Lo} {u : U}, LR X O w lV l → lV[i]? = some (.val u) → ∃ d, (Z.sem clS (.var i)).e l w.s = .ok d w.s ∧ VR X w u d := fun L h => by
    obtain ⟨d, a, b⟩ := L.val i _ h
    exact ⟨d, by simp only [Z.sem, a], b⟩
  constructor
  case e =>
    intro X O w sV lV l S L
    show Sm0 (VR X) X w (match lV[i]? with | some (.val d) => .ok d sV | _ => .bad) _
    split
    · rename_i d h
      obtain ⟨d', e, r⟩ := val L h
      exact Sm0.okE S e r
    · trivial
  case p =>
    intro X O w sV lV l S L
    show Sm0 (VP X O) X w (match lV[i]? with | some (.val d) => .ok d sV | some (.own d) => .ok d sV | _ => .bad) _
    split
    · rename_i d h
      obtain ⟨d', e, r⟩ := val L h
      exact Sm0.okE S e (.inl r)
    · rename_i d h
      obtain ⟨j, a, b, m⟩ := L.own i _ h
      exact Sm0.okE S (b := .obj j) (by simp only [Z.sem, a]) (.inr ⟨j, rfl, b, m⟩)
    · trivial
  case x =>
    intro X P n0 w sV lV l T
    show Sim _ _ (match lV[i]? with | some (.val d) => .ok ((false, d), lV) sV | some (.own d) => .ok ((true, d), lV.set i .no) sV | _ => .bad) _
    split
    · rename_i d h
      obtain ⟨d', e, r⟩ := val T.lr h
      exact ⟨_, _, e, w.m, P, .refl, .refl, T, by unfold XRel; rw [if_neg (fun h => by cases h.1)]; exact r⟩
    · rename_i d h
      obtain ⟨j, a, b, m⟩ := T.lr.own i _ h
      have il := lt_of_get h
      have key : ∀ (k : Nat) (sl : Sl), sl ≠ .no → (lV.set i .no)[k]? = some sl → i ≠ k ∧ lV[k]? = some sl := by
        intro k sl ns e
        by_cases hk : i = k
        · subst hk
          rw [List.getElem?_set_self il] at e
          cases e
          exact (ns rfl).elim
        · rw [List.getElem?_set_ne hk] at e
          exact ⟨hk, e⟩
      have T2 : St X P n0 w sV (lV.set i .no) l := ⟨T.sr, ⟨by simp [T.lr.len], fun k v e => T.lr.val k v (key k _ (fun h => by cases h) e).2, fun k v e => T.lr.own k v (key k _ (fun h => by cases h) e).2, fun k v e => absurd (key k _ (fun h => by cases h) e).2 (T.nl k v)⟩,
        fun p q v v' x e1 e2 => T.di p q v v' x (key p _ (fun h => by cases h) e1).2 (key q _ (fun h => by cases h) e2).2, T.lo, T.dj, T.le, T.nl.set (fun u h => by cases h) i⟩
      have ow : Own X P w (lV.set i .no) l d (.obj j) := ⟨j, rfl, b.2, m, fun k v e q => by
        obtain ⟨n, e⟩ := key k _ (fun h => by cases h) e
        exact n (T.di i k d v j h e a q)⟩
      have mu : d.toMO ≠ none := by
        obtain ⟨o1, _, m1, _⟩ := m
        rw [m1]; exact fun h => by cases h
      exact ⟨.obj j, w.s, by simp only [Z.sem, a], w.m, P, .refl, .refl, T2, by unfold XRel; rw [if_pos ⟨rfl, mu⟩]; exact ow⟩
    · trivial
  case v => intro j h; cases h; rfl
  all_goals first | (intro _ _ _ _ _ _ _ _; exact True.intro) | (intro _ _ _ _ _ _ _ _ _ _ _ _; exact True.intro) | (intro _ _ _ _ _ lV' _ _ h; exact nomatch (show (Option.none : Option Lo) = some lV' from h))
theorem se_nil : SE cl clS .nil := by
  constructor
  case l => exact fun X O w sV lV l S L => Sm0.okE S rfl .nil
  case lp => exact fun X O w sV lV l S L => Sm0.okE S rfl .nil
  case tns =>
    intro X w u d lV lV' l r h
    cases r with
    | nil => cases h; exact ⟨l, fun _ => rfl, .refl⟩
    | cons _ _ => cases h
  case s => exact fun X P n0 w sV lV l T => ⟨(.nx, l), w.s, rfl, w.m, P, .refl, .refl, T⟩
  all_goals first | (intro _ _ _ _ _ _ _ _; exact True.intro) | (intro _ _ _ _ _ _ _ _ _ _ _ _; exact True.intro) | (intro _ _ _ _ _ lV' _ _ h; exact nomatch (show (Option.none : Option Lo) = some lV' from h)) | (intro i h; exact nomatch (show (Option.none : Option Nat) = some i from h))
/-- one statement behind the other -/
theorem FOk.next {f : Lo → Sto → R (Fl × Lo)} {g : Z.Lo → Z.Sto → Z.R (Z.Fl × Z.Lo)} {r1 : R (Fl × Lo)} {q1 : Z.R (Z.Fl × Z.Lo)} (h : Sim (FOk X P n0 w) (ExOk X P w) r1 q1) (k : Sss f g) :
    Sim (FOk X P n0 w) (ExOk X P w) (r1.bind fun r1 s1 => (match r1.1 with | .nx => f r1.2 s1 | _ => .ok r1 s1)) (q1.bind fun r1 s1 => (match r1.1 with | .nx => g r1.2 s1 | _ => .ok r1 s1)) := by
  refine Sim.bind h fun r s r' t o => ?_
  obtain ⟨fl, l1⟩ := r
  obtain ⟨fl', l1'⟩ := r'
  obtain ⟨m, P1, le, sb, o2⟩ := o
  cases fl <;> cases fl' <;> first | exact o2.elim | skip
  · exact (k X P1 n0 ⟨m, t⟩ s l1 l1' o2).mono (fun _ _ _ _ o => o.back le sb) fun _ _ _ _ o => o.back le sb
  all_goals exact ⟨_, _, rfl, m, P1, le, sb, o2⟩
theorem se_cons (ia : SE cl clS a) (ir : SE cl clS r) : SE cl clS (.cons a r) := by
  constructor
  case l => exact fun X O w sV lV l S L => Sm0.bind (ia.e X O w sV lV l S L) fun w1 x s1 x' l1 S1 r1 => Sm0.bind (ir.l X O w1 s1 lV l S1 (L.up S l1)) fun w2 xs s2 xs' l2 S2 r2 => Sm0.okE S2 rfl (.cons (r1.up0 l2) r2)
  case lp => exact fun X O w sV lV l S L => Sm0.bind (ia.p X O w sV lV l S L) fun w1 x s1 x' l1 S1 r1 => Sm0.bind (ir.lp X O w1 s1 lV l S1 (L.up S l1)) fun w2 xs s2 xs' l2 S2 r2 => Sm0.okE S2 rfl (.cons (r1.up0 S1 l2) r2)
  case tns =>
    intro X w u d lV lV' l rr h
    cases rr with
    | nil => cases h
    | cons r1 r2 =>
      obtain ⟨l1, h1, h2⟩ := Option.bind_eq_some_iff.mp h
      obtain ⟨l1', t1, s1⟩ := ia.tn X w _ _ lV l1 l r1 h1
      obtain ⟨l2', t2, s2⟩ := ir.tns X w _ _ l1 lV' l1' r2 h2
      exact ⟨l2', fun s => by show ((Z.sem clS a).t _ l s).bind _ = _; rw [t1, Z.R.bind_ok]; exact t2 s, s1.trans s2⟩
  case s => exact fun X P n0 w sV lV l T => FOk.next (ia.s X P n0 w sV lV l T) ir.s
  all_goals first | (intro _ _ _ _ _ _ _ _; exact True.intro) | (intro _ _ _ _ _ _ _ _ _ _ _ _; exact True.intro) | (intro _ _ _ _ _ lV' _ _ h; exact nomatch (show (Option.none : Option Lo) = some lV' from h)) | (intro i h; exact nomatch (show (Option.none : Option Nat) = some i from h))
theorem se_glb (i : Nat) (d : D) : SE cl clS (.glb i d) := .ofE rfl fun X O w sV lV l S L => by
  show Sm0 (VR X) X w (if plainD d = true then .ok (ofD d) sV else .bad) _
  split
  · rename_i h; exact Sm0.okE S rfl (ofD_vr d h)
  · trivial
theorem se_bin (o : Bop) (ia : SE cl clS a) (ib : SE cl clS b) : SE cl clS (.bin o a b) := .ofN rfl (two_p ia ib fun _ _ _ _ _ _ _ _ S x y => bin_sim S x y)
theorem se_neg (ia : SE cl clS a) : SE cl clS (.neg a) := .ofE rfl (one_e ia fun X O w sV u d S h => by
  split
  · obtain rfl := h.int; exact Sm0.okE S rfl (.int _)
  · trivial)
theorem se_not (ia : SE cl clS a) : SE cl clS (.not a) := .ofE rfl fun X O w sV lV l S L => Sm0.bind (ia.p.asB X O w sV lV l S L) fun w1 b s1 b' l1 S1 e => by
  subst e; exact Sm0.okE S1 rfl (.bl _)
theorem se_and (ia : SE cl clS a) (ib : SE cl clS b) : SE cl clS (.and a b) := .ofE rfl fun X O w sV lV l S L => Sm0.bind (ia.p.asB X O w sV lV l S L) fun w1 k s1 k' l1 S1 e => by
  subst e
  cases k with
  | true => exact ib.e X O w1 s1 lV l S1 (L.up S l1)
  | false => exact Sm0.okE S1 rfl (.bl _)
theorem se_or (ia : SE cl clS a) (ib : SE cl clS b) : SE cl clS (.or a b) := .ofE rfl fun X O w sV lV l S L => Sm0.bind (ia.p.asB X O w sV lV l S L) fun w1 k s1 k' l1 S1 e => by
  subst e
  cases k with
  | false => exact ib.e X O w1 s1 lV l S1 (L.up S l1)
  | true => exact Sm0.okE S1 rfl (.bl _)
theorem se_one (ia : SE cl clS a) : SE cl clS (.one a) := .ofE rfl ia.e
theorem se_cmp (o : Cop) (ia : SE cl clS a) (ib : SE cl clS b) : SE cl clS (.cmp o a b) := .ofE rfl (two_e ia ib fun _ _ _ _ _ _ _ _ S x y => cmp_sim S x y)
theorem se_cmp2 (o q : Cop) (ia : SE cl clS a) (ib : SE cl clS b) (ic : SE cl clS c) : SE cl clS (.cmp2 o q a b c) := .ofE rfl fun X O w sV lV l S L =>
  Sm0.bind (ia.p X O w sV lV l S L) fun w1 x s1 x' l1 S1 r1 => Sm0.bind (ib.p X O w1 s1 lV l S1 (L.up S l1)) fun w2 y s2 y' l2 S2 r2 =>
    Sm0.bind (P := fun _ a b => a = b) (Sm0.bind (cmp_sim S2 (r1.up0 S1 l2) r2) fun w3 k s3 k' l3 S3 r3 => asB_sim (O := C0) S3 (.inl r3)) fun w3 k s3 k' l3 S3 e => by
      subst e
      cases k with
      | true => exact Sm0.bind (ic.p X O w3 s3 lV l S3 (((L.up S l1).up S1 l2).up S2 l3)) fun w4 z s4 z' l4 S4 r4 => cmp_sim S4 ((r2.up0 S2 l3).up0 S3 l4) r4
      | false => exact Sm0.okE S3 rfl (.bl _)
theorem se_ite (ic : SE cl clS c) (ia : SE cl clS a) (ib : SE cl clS b) : SE cl clS (.ite c a b) := by
  have k : Es (sem cl (.ite c a b)).e (Z.sem clS (.ite c a b)).e := fun X O w sV lV l S L => Sm0.bind (ic.p.asB X O w sV lV l S L) fun w1 k s1 k' l1 S1 e => by
    subst e
    cases k with
    | true => exact ia.e X O w1 s1 lV l S1 (L.up S l1)
    | false => exact ib.e X O w1 s1 lV l S1 (L.up S l1)
  constructor
  case e => exact k
  case p =>
    refine fun X O w sV lV l S L => Sm0.bind (ic.p.asB X O w sV lV l S L) fun w1 k s1 k' l1 S1 e => ?_
    subst e
    cases k with
    | true => exact ia.p X O w1 s1 lV l S1 (L.up S l1)
    | false => exact ib.p X O w1 s1 lV l S1 (L.up S l1)
  case x => exact fun X P n0 w sV lV l T => x_ofE T (k _ _ w sV lV l T.sr T.lr)
  all_goals first | (intro _ _ _ _ _ _ _ _; exact True.intro) | (intro _ _ _ _ _ _ _ _ _ _ _ _; exact True.intro) | (intro _ _ _ _ _ lV' _ _ h; exact nomatch (show (Option.none : Option Lo) = some lV' from h)) | (intro i h; exact nomatch (show (Option.none : Option Nat) = some i from h))
theorem se_tup (ie : SE cl clS es) : SE cl clS (.tup es) := .ofE rfl fun X O w sV lV l S L => Sm0.bind (ie.l X O w sV lV l S L) fun w1 xs s1 xs' l1 S1 r1 => by
  split
  · rename_i h; exact Sm0.okE S1 (if_pos (by rw [← r1.length]; exact h)) (.tup r1)
  · trivial
theorem se_lst (ie : SE cl clS es) : SE cl clS (.lst es) := .ofN rfl fun X O w sV lV l S L => SmT.bind (ie.l X O w sV lV l S L) fun w1 xs s1 xs' l1 S1 r1 => by
  split
  · rename_i h; exact SmT.newE (o' := .lst xs') S1 (if_pos (by rw [← r1.length]; exact h)) rfl (.lst r1)
  · trivial
theorem fold_put : ∀ {ks : List Ky} {us : List U} {ds : List D} {a : List (Ky × U)} {b : List (Ky × D)}, VRk X w a b → VRs X w us ds → VRk X w ((ks.zip us).foldl (fun acc kv => putK acc kv.1 kv.2) a) ((ks.zip ds).foldl (fun acc kv => Z.putK acc kv.1 kv.2) b)
  | [], _, _, _, _, r, _ => r
  | k :: ks, [], _, _, _, r, .nil => r
  | k :: ks, _ :: _, _, _, _, r, .cons x y => fold_put (ks := ks) (r.put x k) y
end
end Y

/-! YAlm: the rest of the terms. -/
namespace Y
open Z (Ky Bop Cop Bi Ty Mt Ex Fn line big D)
section
variable {cl : Cl} {clS : Z.Cl} {a b c r es vs as o i kv e1 e2 tg it tg2 it2 lo hi ts t : Ex} {X P P' C O O' : Ps} {w w' w0 w1 : Wd} {u v : U} {d e : D} {us : List U} {ds : List D} {sV : Sto} {s : Z.Sto} {lV : Lo} {l : Z.Lo} {n0 : Nat}
/-- a thing that was made while nobody had hold of it -/
theorem new_fin {k : Nat} {o1 o' : Z.MO} {mo : MO} {w3 : Wd} {sV' : Sto} (S : SR X w sV) (hk : k = w.s.length) (l3 : Le (· = k) ⟨w.m, w.s ++ [o1]⟩ w3) (S3 : SR (fun j => X j ∨ j = k) w3 sV') (ek : w3.s[k]? = some o') (r : MOR (fun j => X j ∨ j = k) w3 mo o') (hu : u.toMO = some mo) : OkN X w (true, u) sV' (.obj k) w3.s := by
  subst hk
  obtain ⟨S1, p⟩ := S.push o1
  have nk := S3.fr w.s.length (.inr rfl)
  have xn : ¬ X w.s.length := fun h => by have := (S.fr _ h).1; omega
  have M : MAt (fun j => X j ∨ j = w.s.length) w3 w.s.length u := ⟨mo, o', hu, ek, r⟩
  refine ⟨w3.m, ⟨fun i j e => l3.pre i j e, fun j hl n c => l3.out j (by show j < (w.s ++ [o1]).length; simp; omega) n (by show ¬ j = w.s.length; omega), fun j q e n c => l3.old j q ((p C0).old j q e n c) n (by show ¬ j = w.s.length; have := lt_of_get e; omega), by have := l3.len; simp at this; show w.s.length ≤ w3.s.length; omega⟩, S3.weak fun j h => .inl h, (M.ch (X' := X) fun j h => .inl (.inl h)).vr nk.2 xn, fun _ _ _ => ⟨w.s.length, rfl, Nat.le_refl _, nk.1, nk.2, S3, M⟩⟩
theorem SmN.bind {α β : Type} {P : Wd → α → β → Prop} {r : R α} {q : Z.R β} {f : α → Sto → R (Bool × U)} {g : β → Z.Sto → Z.R D}
    (h : Sm0 P X w r q) (k : ∀ (w' : Wd) a sV b, Le C0 w w' → SR X w' sV → P w' a b → SmN X w' (f a sV) (g b w'.s)) : SmN X w (r.bind f) (q.bind g) :=
  Sim.bind h fun a s b t ⟨m, l, S, p⟩ => (k ⟨m, t⟩ a s b l S p).mono (fun _ _ _ _ o => o.back l) fun _ _ _ _ o => o.back l
theorem SmN.ev {rV : R (Bool × U)} {q : Z.R D} (h : SmN X w rV q) : Sm0 (VR X) X w (rV.bind fun r s => .ok r.2 s) q :=
  h.map (fun r s b t ⟨m, a1, a2, a3, _⟩ => ⟨b, t, rfl, m, a1, a2, a3⟩) fun _ _ _ _ o => o
theorem R.assoc {α β γ : Type} (r : R α) (f : α → Sto → R β) (g : β → Sto → R γ) : (r.bind f).bind g = r.bind fun a s => (f a s).bind g := by cases r <;> rfl
theorem se_dct (ks : List Ky) (iv : SE cl clS vs) : SE cl clS (.dct ks vs) := .ofN rfl fun X O w sV lV l S L => by
  obtain ⟨T, S1⟩ := lat_of (o := .dct []) S L rfl
  show SmT X w (((sem cl vs).l lV sV).bind fun ys s2 => if ys.length = ks.length ∧ ks.length ≤ 15 then .ok (.dct ((ks.zip ys).foldl (fun acc kv => putK acc kv.1 kv.2) [])) s2 else .bad)
    (((Z.sem clS vs).l l (w.s ++ [.dct []])).bind fun ys s2 => if ys.length = ks.length ∧ ks.length ≤ 15 ∧ (s2[w.s.length]? = some (Z.MO.dct [])) then .ok (.obj w.s.length) (Z.setO w.s.length (.dct ((ks.zip ys).foldl (fun acc kv => Z.putK acc kv.1 kv.2) [])) s2) else .bad)
  have h := iv.l _ _ ⟨w.m, w.s ++ [.dct []]⟩ sV lV l S1 (T.names _ sV .refl S1)
  cases hv : (sem cl vs).l lV sV with
  | bad => trivial
  | ex x s' =>
    rw [hv] at h
    obtain ⟨d, t, e, m, le, S2, r⟩ := h
    refine ⟨d, t, by show Z.R.bind _ _ = _; rw [e]; rfl, m, ?_, S2.weak fun j q => .inl q, r.weak fun j q => .inl q⟩
    exact ((S.push (.dct [])).2 C0).trans le
  | ok ys s' =>
    obtain ⟨w2, ds, e, le, S2, r⟩ := h.get hv
    have e : (Z.sem clS vs).l l (w.s ++ [.dct []]) = .ok ds w2.s := e
    rw [e]
    show SmT X w (if _ then _ else _) (if _ then _ else _)
    split
    · rename_i hc
      have ek : w2.s[w.s.length]? = some (.dct []) := le.old _ _ (by simp) (S1.fr _ (.inr rfl)).2 fun h => h
      rw [if_pos ⟨by rw [← r.length]; exact hc.1, hc.2, ek⟩]
      obtain ⟨S3, le3⟩ := S2.setX (o := .dct ((ks.zip ds).foldl (fun acc kv => Z.putK acc kv.1 kv.2) [])) (k := w.s.length) (.inr rfl)
      refine ⟨_, _, rfl, new_fin (o1 := .dct []) (w3 := ⟨w2.m, w2.s.set w.s.length _⟩) S rfl ((le.weak fun _ q => q.elim).trans le3) S3 (by show (w2.s.set _ _)[_]? = _; rw [List.getElem?_set_self (lt_of_get ek)]) (.dct ((fold_put .nil r).up le3 fun j q => .inr q)) rfl⟩
    · trivial
theorem se_ix (ia : SE cl clS a) (ii : SE cl clS i) : SE cl clS (.ix a i) := .ofE rfl (two_e ia ii fun _ _ _ _ _ _ _ _ S x y => ix_sim S x y)
theorem oInt_sim {m : Ex} (im : SE cl clS m) : ∀ (X O : Ps) (w : Wd) (sV : Sto) (lV : Lo) (l : Z.Lo), SR X w sV → LR X O w lV l → Sm0 (fun _ a b => a = b) X w (oInt m (sem cl m).p lV sV) (Z.oInt m (Z.sem clS m).e l w.s) := by
  intro X O w sV lV l S L
  have gen : Sm0 (fun _ a b => a = b) X w (((sem cl m).p lV sV).bind fun d s1 => match d with | .int i => R.ok (some i) s1 | _ => .bad) (((Z.sem clS m).e l w.s).bind fun d s1 => match d with | .int i => Z.R.ok (some i) s1 | _ => .bad) :=
    Sm0.bind (im.p X O w sV lV l S L) fun w1 x s1 x' l1 S1 r1 => by
      split
      · obtain rfl := r1.int; exact Sm0.okE S1 rfl rfl
      · trivial
  unfold oInt Z.oInt
  cases m <;> first | exact Sm0.okE S rfl rfl | exact gen
theorem se_sl (ia : SE cl clS a) (il : SE cl clS lo) (ih : SE cl clS hi) : SE cl clS (.sl a lo hi) := .ofN rfl fun X O w sV lV l S L =>
  SmT.bind (ia.p X O w sV lV l S L) fun w1 x s1 x' l1 S1 r1 => SmT.bind (oInt_sim il X O w1 s1 lV l S1 (L.up S l1)) fun w2 p s2 p' l2 S2 e2 => SmT.bind (oInt_sim ih X O w2 s2 lV l S2 ((L.up S l1).up S1 l2)) fun w3 q s3 q' l3 S3 e3 => by
    subst e2 e3
    exact sl_sim S3 ((r1.up0 S1 l2).up0 S2 l3)
theorem se_rev (ia : SE cl clS a) : SE cl clS (.rev a) := .ofN rfl (one_n ia fun _ _ _ _ _ _ S x => rev_sim S x)
theorem call_of {rV : Lo → Sto → R (Bool × U)} (h : sem cl a = { Sm.ofE (fun l s => (rV l s).bind fun r s2 => .ok r.2 s2) with x := fun l s => (rV l s).bind fun r s2 => .ok (r, l) s2 })
    (k : ∀ (X O : Ps) (w : Wd) (sV : Sto) (lV : Lo) (l : Z.Lo), SR X w sV → LR X O w lV l → SmN X w (rV lV sV) ((Z.sem clS a).e l w.s)) : SE cl clS a := by
  constructor <;> (rw [h])
  case e => exact fun X O w sV lV l S L => SmN.ev (k X O w sV lV l S L)
  case p => exact fun X O w sV lV l S L => (SmN.ev (k X O w sV lV l S L)).imp fun _ _ _ h => .inl h
  case x => exact fun X P n0 w sV lV l T => x_of T (k _ _ w sV lV l T.sr T.lr)
  all_goals first | (intro _ _ _ _ _ _ _ _; exact True.intro) | (intro _ _ _ _ _ _ _ _ _ _ _ _; exact True.intro) | (intro _ _ _ _ _ lV' _ _ h; exact nomatch (show (Option.none : Option Lo) = some lV' from h)) | (intro i h; exact nomatch (show (Option.none : Option Nat) = some i from h))
theorem se_call (hc : ClS cl clS) (f : Nat) (ia : SE cl clS as) : SE cl clS (.call f as) := by
  refine call_of (rV := fun l s => ((sem cl as).l l s).bind fun xs s1 => cl f xs s1) ?_ fun X O w sV lV l S L => SmN.bind (ia.l X O w sV lV l S L) fun w1 xs s1 xs' l1 S1 r1 => hc X w1 s1 xs xs' f S1 r1
  simp only [R.assoc]
  rfl
theorem callK_eq {r1 : R (List U)} {k : Lo → Sto → R (List U)} : True := trivial
theorem se_callK (hc : ClS cl clS) (f : Nat) (d : D) (ia : SE cl clS as) (ik : SE cl clS kv) : SE cl clS (.callK f as kv d) := by
  refine call_of (rV := fun l s => ((sem cl as).l l s).bind fun xs s1 => ((sem cl kv).l l s1).bind fun ys s2 => (match ys with
      | [] => if plainD d = true then cl f (xs ++ [ofD d]) s2 else .bad
      | [y] => cl f (xs ++ [y]) s2
      | _ => .bad)) ?_ fun X O w sV lV l S L => SmN.bind (ia.l X O w sV lV l S L) fun w1 xs s1 xs' l1 S1 r1 => SmN.bind (ik.l X O w1 s1 lV l S1 (L.up S l1)) fun w2 ys s2 ys' l2 S2 r2 => ?_
  · simp only [R.assoc]
    have key : ∀ (xs ys : List U) (s2 : Sto) (γ : Type) (g : Bool × U → Sto → R γ), (match ys with
      | [] => if plainD d = true then (cl f (xs ++ [ofD d]) s2).bind g else .bad
      | [y] => (cl f (xs ++ [y]) s2).bind g
      | _ => .bad) = (match ys with
      | [] => if plainD d = true then cl f (xs ++ [ofD d]) s2 else .bad
      | [y] => cl f (xs ++ [y]) s2
      | _ => .bad : R (Bool × U)).bind g := by
      intro xs ys s2 γ g
      split
      · split <;> rfl
      · rfl
      · rfl
    simp only [← key]
    rfl
  · cases r2 with
    | nil =>
      dsimp only
      split
      · rename_i h; exact hc X w2 s2 _ _ f S2 ((r1.up0 l2).append (.cons (ofD_vr d h) .nil))
      · trivial
    | cons x y =>
      cases y with
      | nil => exact hc X w2 s2 _ _ f S2 ((r1.up0 l2).append (.cons x .nil))
      | cons _ _ => trivial
theorem se_bi (bb : Bi) (ia : SE cl clS as) : SE cl clS (.bi bb as) := .ofN rfl fun X O w sV lV l S L => SmT.bind (ia.lp X O w sV lV l S L) fun w1 xs s1 xs' l1 S1 r1 => bi_sim S1 r1
theorem se_isi (tt : Ty) (ia : SE cl clS a) : SE cl clS (.isi a tt) := .ofE rfl (one_e ia fun X O w sV u d S h => by
  cases hb : isTy tt u sV with
  | none => trivial
  | some b => exact Sm0.okE S (by simp only [ty_sim S h hb]) (.bl _))
theorem se_gix (j : Nat) (kvs : List (Int × Int)) (ia : SE cl clS a) : SE cl clS (.gix j kvs a) := .ofE rfl (one_e ia fun X O w sV u d S h => by
  split
  · obtain rfl := h.int
    split
    · rename_i kv hk; exact Sm0.okE S (by simp only [hk]) (.int _)
    · trivial
  · trivial)
theorem se_sset (ia : SE cl clS a) : SE cl clS (.sset a) := .ofN rfl (one_n ia fun X O w sV u d S h => by
  split
  · rename_i ns hb
    obtain ⟨xs, h1, h2⟩ := Option.bind_eq_some_iff.mp hb
    obtain ⟨ys, r, k⟩ := seq_sim S h h1
    split
    · rename_i hl
      exact SmT.newE (o' := .lst ((Z.sset ns).map .int)) S (by simp only [k, ints_sim r h2]; exact if_pos hl) rfl (.lst (vrs_ints _))
    · trivial
  · trivial)
theorem se_lr1 (ib : SE cl clS b) : SE cl clS (.lr1 b) := .ofN rfl (one_n ib fun X O w sV u d S h => by
  split
  · obtain rfl := h.int
    split
    · rename_i hl; exact SmT.newE (o' := .lst (Z.rng 0 _)) S (if_pos hl) rfl (.lst vrs_rng)
    · trivial
  · trivial)
theorem se_lr2 (ia : SE cl clS a) (ib : SE cl clS b) : SE cl clS (.lr2 a b) := .ofN rfl (two_p ia ib fun X O w sV u v d e S x y => by
  split
  · obtain rfl := x.int; obtain rfl := y.int
    split
    · rename_i hl; exact SmT.newE (o' := .lst (Z.rng _ _)) S (if_pos hl) rfl (.lst vrs_rng)
    · trivial
  · trivial)
theorem one_w {k : U → Sto → R Src} {k' : D → Z.Sto → Z.R Z.Src} (ia : SE cl clS a)
    (hk : ∀ (X O : Ps) (w : Wd) (sV : Sto) (u : U) (d : D), SR X w sV → VP X O w u d → Sm0 (SrcR X) X w (k u sV) (k' d w.s)) :
    Wsv (fun l s => ((sem cl a).p l s).bind k) (fun l s => ((Z.sem clS a).e l s).bind k') :=
  fun X O w sV lV l S L => Sm0.bind (ia.p X O w sV lV l S L) fun w1 x s1 x' l1 S1 r1 => hk X O w1 s1 x x' S1 r1
theorem se_itR1 (ib : SE cl clS b) : SE cl clS (.itR1 b) := .ofW rfl (one_w ib fun X O w sV u d S h => by
  split
  · obtain rfl := h.int
    split
    · rename_i hl; exact Sm0.okE S (if_pos hl) ⟨vrs_rng, .inl rfl⟩
    · trivial
  · trivial)
theorem se_itR2 (ia : SE cl clS a) (ib : SE cl clS b) : SE cl clS (.itR2 a b) := .ofW rfl fun X O w sV lV l S L =>
  Sm0.bind (ia.p X O w sV lV l S L) fun w1 x s1 x' l1 S1 r1 => Sm0.bind (ib.p X O w1 s1 lV l S1 (L.up S l1)) fun w2 y s2 y' l2 S2 r2 => by
    split
    · obtain rfl := r1.int; obtain rfl := r2.int
      split
      · rename_i hl; exact Sm0.okE S2 (if_pos hl) ⟨vrs_rng, .inl rfl⟩
      · trivial
    · trivial
theorem se_itR3 (ia : SE cl clS a) (ib : SE cl clS b) (ic : SE cl clS c) : SE cl clS (.itR3 a b c) := .ofW rfl fun X O w sV lV l S L =>
  Sm0.bind (ia.p X O w sV lV l S L) fun w1 x s1 x' l1 S1 r1 => Sm0.bind (ib.p X O w1 s1 lV l S1 (L.up S l1)) fun w2 y s2 y' l2 S2 r2 => Sm0.bind (ic.p X O w2 s2 lV l S2 ((L.up S l1).up S1 l2)) fun w3 z s3 z' l3 S3 r3 => by
    split
    · obtain rfl := r1.int; obtain rfl := r2.int; obtain rfl := r3.int
      split
      · rename_i hl; exact Sm0.okE S3 (if_pos hl) ⟨vrs_rng3, .inl rfl⟩
      · trivial
    · trivial
theorem zitS {x : Ex} : (Z.sem clS (.itS x)).w = fun l s => ((Z.sem clS x).e l s).bind srcZ := by
  funext l s
  show ((Z.sem clS x).e l s).bind _ = _
  congr 1
theorem se_itS (ie : SE cl clS es) : SE cl clS (.itS es) := by
  constructor
  case w =>
    intro X O w sV lV l S L
    rw [zitS]
    exact Sm0.bind (ie.e X O w sV lV l S L) fun w1 x s1 x' l1 S1 r1 => src_sim S1 r1
  case wp =>
    intro X O w sV lV l S L
    rw [zitS]
    exact Sm0.bind (ie.p X O w sV lV l S L) fun w1 x s1 x' l1 S1 r1 => srcP_sim S1 r1
  all_goals first | (intro _ _ _ _ _ _ _ _; exact True.intro) | (intro _ _ _ _ _ _ _ _ _ _ _ _; exact True.intro) | (intro _ _ _ _ _ lV' _ _ h; exact nomatch (show (Option.none : Option Lo) = some lV' from h)) | (intro i h; exact nomatch (show (Option.none : Option Nat) = some i from h))
theorem se_itK (i : Nat) : SE cl clS (.itK i) := by
  constructor
  case wp =>
    intro X O w sV lV l S L
    show Sm0 (SrcP X O) X w (match lV[i]? with | some (.lk (.dct kvs)) => _ | _ => _) _
    split
    · rename_i kvs hz
      obtain ⟨j, xs, ys, e, hj, b, c, r⟩ := L.lk i _ hz
      cases e
      exact Sm0.okE S (b := ⟨ys.map fun kv => Z.keyD kv.1, some (j, .dctL ys)⟩) (by simp only [Z.sem, hj, c]) ⟨keys_sim r, .inr ⟨_, _, rfl, c, (S.fr j b.1).2, .inr b.2⟩⟩
    · trivial
  all_goals first | (intro _ _ _ _ _ _ _ _; exact True.intro) | (intro _ _ _ _ _ _ _ _ _ _ _ _; exact True.intro) | (intro _ _ _ _ _ lV' _ _ h; exact nomatch (show (Option.none : Option Lo) = some lV' from h)) | (intro i h; exact nomatch (show (Option.none : Option Nat) = some i from h))
theorem zitE {x : Ex} : (Z.sem clS (.itE x)).w = fun l s => ((Z.sem clS x).e l s).bind enZ := by
  funext l s
  show ((Z.sem clS x).e l s).bind _ = _
  congr 1
theorem se_itE (ie : SE cl clS es) : SE cl clS (.itE es) := by
  constructor
  case w =>
    intro X O w sV lV l S L
    rw [zitE]
    exact Sm0.bind (ie.e X O w sV lV l S L) fun w1 x s1 x' l1 S1 r1 => en_sim S1 r1
  case wp =>
    intro X O w sV lV l S L
    rw [zitE]
    exact Sm0.bind (ie.p X O w sV lV l S L) fun w1 x s1 x' l1 S1 r1 => enP_sim S1 r1
  all_goals first | (intro _ _ _ _ _ _ _ _; exact True.intro) | (intro _ _ _ _ _ _ _ _ _ _ _ _; exact True.intro) | (intro _ _ _ _ _ lV' _ _ h; exact nomatch (show (Option.none : Option Lo) = some lV' from h)) | (intro i h; exact nomatch (show (Option.none : Option Nat) = some i from h))
theorem se_get1 (io : SE cl clS o) (ik : SE cl clS kv) : SE cl clS (.get1 o kv) := .ofE rfl fun X O w sV lV l S L =>
  Sm0.bind (io.p X O w sV lV l S L) fun w1 x s1 x' l1 S1 r1 => by
    split
    · rename_i h
      rw [if_pos (isD_sim S1 r1 h)]
      exact Sm0.bind (ik.p X O w1 s1 lV l S1 (L.up S l1)) fun w2 y s2 y' l2 S2 r2 => getD_sim S2 (r1.up0 S1 l2) r2 .non
    · trivial
theorem se_get2 (io : SE cl clS o) (ik : SE cl clS kv) (id : SE cl clS e1) : SE cl clS (.get2 o kv e1) := .ofE rfl fun X O w sV lV l S L =>
  Sm0.bind (io.p X O w sV lV l S L) fun w1 x s1 x' l1 S1 r1 => by
    split
    · rename_i h
      rw [if_pos (isD_sim S1 r1 h)]
      exact Sm0.bind (ik.p X O w1 s1 lV l S1 (L.up S l1)) fun w2 y s2 y' l2 S2 r2 => Sm0.bind (id.e X O w2 s2 lV l S2 ((L.up S l1).up S1 l2)) fun w3 z s3 z' l3 S3 r3 => getD_sim S3 ((r1.up0 S1 l2).up0 S2 l3) (r2.up0 S2 l3) r3
    · trivial
theorem se_lsI (ia : SE cl clS a) : SE cl clS (.lsI a) := .ofN rfl (one_n ia fun X O w sV u d S h => by
  split
  · rename_i kvs hk
    obtain ⟨j, ys, rfl, hj, r⟩ := dct_sim S h hk
    exact SmT.newE (o' := .lst (ys.map fun kv => .tup [Z.keyD kv.1, kv.2])) S (by simp only [Z.dct?, hj]; rfl) rfl (.lst (items_sim r))
  · trivial)
theorem se_isiM (tys : List Ty) (ia : SE cl clS a) : SE cl clS (.isiM a tys) := .ofE rfl (one_e ia fun X O w sV u d S h => by
  split
  · rename_i bs hb
    split
    · rename_i hl
      exact Sm0.okE S (by simp [tys_sim S h hb, hl]) (.bl _)
    · trivial
  · trivial)
theorem hide_get {i k : Nat} {kvs : List (Ky × U)} {s : Sl} (h : (hideL lV i kvs)[k]? = some s) : (k = i ∧ s = .lk (.dct kvs)) ∨ (k ≠ i ∧ ((∃ u, lV[k]? = some (.val u) ∧ s = .val u) ∨ (∃ u, lV[k]? = some (.lk u) ∧ s = .lk u) ∨ s = .no)) := by
  unfold hideL at h
  by_cases hk : i = k
  · subst hk
    have hl := lt_of_get h
    rw [List.length_set] at hl
    rw [List.getElem?_set_self hl] at h
    cases h
    exact .inl ⟨rfl, rfl⟩
  · rw [List.getElem?_set_ne hk, List.getElem?_map] at h
    obtain ⟨t, e1, e2⟩ := Option.map_eq_some_iff.mp h
    refine .inr ⟨Ne.symm hk, ?_⟩
    cases t with
    | no => cases e2; exact .inr (.inr rfl)
    | val u => cases e2; exact .inl ⟨u, e1, rfl⟩
    | own u => cases e2; exact .inr (.inr rfl)
    | lk u => cases e2; exact .inr (.inl ⟨u, e1, rfl⟩)
theorem se_lockE (i : Nat) (ia : SE cl clS a) : SE cl clS (.lockE i a) := .ofE rfl fun X O w sV lV l S L => by
  show Sm0 (VR X) X w (match lV[i]? with | some (.own (.dct kvs)) => _ | _ => _) _
  split
  · rename_i kvs hi
    obtain ⟨j, hj, b, mo, mo', c1, c2, c3⟩ := L.own i _ hi
    cases c1
    cases c3 with
    | @dct _ ys r =>
      obtain ⟨S1, le1⟩ := S.setX (o := .dctL ys) b.1
      have jl := lt_of_get c2
      have e1 : (Z.sem clS (.lockE i a)).e l w.s = (((Z.sem clS a).e l (w.s.set j (.dctL ys))).bind fun r s2 => if s2[j]? = some (.dctL ys) then .ok r (Z.setO j (.dct ys) s2) else .bad) := by
        simp only [Z.sem, hj, c2]; rfl
      rw [e1]
      have up : ∀ k, k = j → X k := fun k q => q ▸ b.1
      have L1 : LR X O ⟨w.m, w.s.set j (.dctL ys)⟩ (hideL lV i kvs) l := by
        refine ⟨by unfold hideL; simp [L.len], fun k u e => ?_, fun k u e => ?_, fun k u e => ?_⟩
        · rcases hide_get e with ⟨_, h⟩ | ⟨_, ⟨u', h1, h2⟩ | ⟨u', h1, h2⟩ | h2⟩
          · cases h
          · cases h2
            obtain ⟨d, p, q⟩ := L.val k u h1
            exact ⟨d, p, q.up le1 up⟩
          · cases h2
          · cases h2
        · rcases hide_get e with ⟨_, h⟩ | ⟨_, ⟨u', h1, h2⟩ | ⟨u', h1, h2⟩ | h2⟩ <;> first | cases h | cases h2
        · rcases hide_get e with ⟨rfl, h⟩ | ⟨hk, ⟨u', h1, h2⟩ | ⟨u', h1, h2⟩ | h2⟩
          · cases h
            exact ⟨j, kvs, ys, rfl, hj, b, by show (w.s.set j _)[j]? = _; rw [List.getElem?_set_self jl], r.up le1 up⟩
          · cases h2
          · cases h2
            obtain ⟨j', xs, ys', p1, p2, p3, p4, p5⟩ := L.lk k u h1
            have nj : j' ≠ j := by rintro rfl; rw [c2] at p4; cases p4
            exact ⟨j', xs, ys', p1, p2, p3, by show (w.s.set j _)[j']? = _; rw [List.getElem?_set_ne (Ne.symm nj)]; exact p4, p5.up le1 up⟩
          · cases h2
      have h := ia.e X O ⟨w.m, w.s.set j (.dctL ys)⟩ sV (hideL lV i kvs) l S1 L1
      cases he : (sem cl a).e (hideL lV i kvs) sV with
      | bad => trivial
      | ex x s' => trivial
      | ok u s1 =>
        obtain ⟨w2, d, e2, le2, S2, r2⟩ := h.get he
        have e2 : (Z.sem clS a).e l (w.s.set j (.dctL ys)) = .ok d w2.s := e2
        have nm := (S.fr j b.1).2
        have at2 : w2.s[j]? = some (.dctL ys) := le2.old j _ (by show (w.s.set j _)[j]? = _; rw [List.getElem?_set_self jl]) nm fun h => h
        rw [e2, Z.R.bind_ok, if_pos at2]
        obtain ⟨S3, le3⟩ := S2.setX (o := .dct ys) b.1
        refine ⟨d, _, rfl, w2.m, ?_, S3, r2.up le3 up⟩
        have n2 := (S2.fr j b.1).2
        refine ⟨fun p q e => le2.pre p q e, fun p q n _ => le2.out p (by show p < (w.s.set j _).length; simpa using q) n fun h => h, fun p q e n _ => ?_, ?_⟩
        · show (w2.s.set j _)[p]? = some q
          by_cases hp : j = p
          · subst hp
            rw [List.getElem?_set_self (lt_of_get at2)]
            rw [c2] at e; exact e
          · rw [List.getElem?_set_ne hp]
            exact le2.old p q (by show (w.s.set j _)[p]? = _; rw [List.getElem?_set_ne hp]; exact e) n fun h => h
        · show _ ≤ (w2.s.set j _).length
          have := le2.len
          simpa using this
  · trivial
/-! comprehensions -/
theorem EBs.tests (ic : SE cl clS c) : EBs (if Z.isNil c = true then (fun _ s => R.ok true s) else (fun l s => ((sem cl c).p l s).bind asB)) (if Z.isNil c = true then (fun _ s => Z.R.ok true s) else (fun l s => ((Z.sem clS c).e l s).bind Z.asB)) := by
  intro X O w sV lV l S L
  split
  · exact Sm0.okE S rfl rfl
  · exact ic.p.asB X O w sV lV l S L
theorem se_comp (own : List Nat) (ie : SE cl clS es) (itg : SE cl clS tg) (ii : SE cl clS it) (ic : SE cl clS c) : SE cl clS (.comp es tg it c own) := .ofN rfl fun X O w sV lV l S L =>
  SmT.bind (ii.wp X O w sV lV l S L) fun w1 src s1 q l1 S1 G => by
    obtain ⟨T, S2⟩ := lat_of (o := .lst []) S1 ((L.up S l1).wipe own) rfl
    cases hc : comL src (wipe lV own) (sem cl tg).tn (if Z.isNil c = true then (fun _ s => R.ok true s) else (fun l s => ((sem cl c).p l s).bind asB)) (sem cl es).e src.its s1 with
    | bad => trivial
    | ex x s' => trivial
    | ok ys s' =>
      show SmT X w1 (if _ then _ else _) _
      split
      · rename_i hl
        have pl := (S1.push (.lst [])).2 (· = w1.s.length)
        have xk : ∀ j, X j ∨ j = w1.s.length → X j ∨ w1.s.length ≤ j := fun j h => h.imp_right fun h => by omega
        have G2 : SrcG (fun j => X j ∨ j = w1.s.length) ⟨w1.m, w1.s ++ [.lst []]⟩ src q fun j => ¬ (X j ∨ j = w1.s.length) ∨ (X j ∧ O j) := by
          refine ⟨(G.1.ch xk).up pl fun j h => .inr h, ?_⟩
          have g2 := G.2
          cases hg : src.grd with
          | none =>
            simp only [hg] at g2 ⊢
            refine g2.imp (fun h => h) fun ⟨j, zs, a1, a2, a3, a4⟩ => ⟨j, zs, a1, ?_, a3, ?_⟩
            · exact pl.old j _ a2 a3 (by show ¬ j = _; have := lt_of_get a2; omega)
            · have := lt_of_get a2
              by_cases hx : X j
              · exact .inr ⟨hx, a4.elim (fun n => (n hx).elim) fun o => o⟩
              · exact .inl fun h => h.elim hx fun h => by omega
          | some io =>
            obtain ⟨a, b⟩ := io
            simp only [hg] at g2 ⊢
            obtain ⟨xs, j, zs, b1, b2, b3, b4, b5⟩ := g2
            exact ⟨xs, j, zs, b1, b2, b3, b4, (b5.ch xk).up pl fun j h => .inr h⟩
        obtain ⟨w3, zs, e1, e2, e3, e4, e5⟩ := comL_sim (k := w1.s.length) (tS := (Z.sem clS tg).t) (cS := if Z.isNil c = true then (fun _ s => Z.R.ok true s) else (fun l s => ((Z.sem clS c).e l s).bind Z.asB)) (eS := (Z.sem clS es).e) itg.tn (EBs.tests ic) ie.e T G2 src.its q.its [] [] ⟨w1.m, w1.s ++ [.lst []]⟩ s1 ys s' .refl S2 G2.1 .nil (by simp) hc (by simpa using hl)
        have e1 : Z.comL q (Z.wipe l own) (Z.sem clS tg).t (if Z.isNil c = true then (fun _ s => Z.R.ok true s) else (fun l s => ((Z.sem clS c).e l s).bind Z.asB)) (Z.sem clS es).e w1.s.length q.its [] (w1.s ++ [.lst []]) = .ok () w3.s := e1
        refine ⟨.obj w1.s.length, w3.s, by show Z.R.bind (Z.R.noex _) _ = _; rw [e1]; rfl, new_fin (o1 := .lst []) S1 rfl e2 e3 e4 (.lst e5) rfl⟩
      · trivial
end
end Y

/-! YAln: comprehensions of two, of dicts; methods; targets; statements. -/
namespace Y
open Z (Ky Bop Cop Bi Ty Mt Ex Fn line big D)
section
variable {cl : Cl} {clS : Z.Cl} {a b c r es vs as o i kv e1 e2 tg it tg2 it2 lo hi ts t : Ex} {X P P' C O O' : Ps} {w w' w0 w1 : Wd} {u v : U} {d e : D} {us : List U} {ds : List D} {sV : Sto} {s : Z.Sto} {lV : Lo} {l : Z.Lo} {n0 : Nat}
theorem src_push {src : Src} {q : Z.Src} {o : Z.MO} (S : SR X w sV) (G : SrcP X O w src q) : SrcP (fun j => X j ∨ j = w.s.length) (fun j => X j ∧ O j) ⟨w.m, w.s ++ [o]⟩ src q := by
  have pl := (S.push o).2 (· = w.s.length)
  have xk : ∀ j, X j ∨ j = w.s.length → X j ∨ w.s.length ≤ j := fun j h => h.imp_right fun h => by omega
  refine ⟨(G.1.ch xk).up pl fun j h => .inr h, ?_⟩
  have g2 := G.2
  cases hg : src.grd with
  | none =>
    simp only [hg] at g2 ⊢
    refine g2.imp (fun h => h) fun ⟨j, zs, a1, a2, a3, a4⟩ => ⟨j, zs, a1, ?_, a3, ?_⟩
    · exact pl.old j _ a2 a3 (by show ¬ j = _; have := lt_of_get a2; omega)
    · have := lt_of_get a2
      by_cases hx : X j
      · exact .inr ⟨hx, a4.elim (fun n => (n hx).elim) fun o => o⟩
      · exact .inl fun h => h.elim hx fun h => by omega
  | some io =>
    obtain ⟨a, b⟩ := io
    simp only [hg] at g2 ⊢
    obtain ⟨xs, j, zs, b1, b2, b3, b4, b5⟩ := g2
    exact ⟨xs, j, zs, b1, b2, b3, b4, (b5.ch xk).up pl fun j h => .inr h⟩
theorem se_comp2 (own own2 : List Nat) (ie : SE cl clS es) (itg : SE cl clS tg) (ii : SE cl clS it) (itg2 : SE cl clS tg2) (ii2 : SE cl clS it2) : SE cl clS (.comp2 es tg it tg2 it2 own own2) := .ofN rfl fun X O w sV lV l S L =>
  SmT.bind (ii.wp X O w sV lV l S L) fun w1 src s1 q l1 S1 G => by
    obtain ⟨T, S2⟩ := lat_of (o := .lst []) S1 ((L.up S l1).wipe own) rfl
    cases hc : com2 src (wipe lV own) (sem cl tg).tn (sem cl it2).wp own2 (sem cl tg2).tn (sem cl es).e src.its s1 with
    | bad => trivial
    | ex x s' => trivial
    | ok ys s' =>
      show SmT X w1 (if _ then _ else _) _
      split
      · rename_i hl
        have G2 := src_push (o := .lst []) S1 G
        obtain ⟨w3, zs, e1, e2, e3, e4, e5⟩ := com2_sim (k := w1.s.length) (tS := (Z.sem clS tg).t) (wS := (Z.sem clS it2).w) (t2S := (Z.sem clS tg2).t) (eS := (Z.sem clS es).e) itg.tn ii2.wp itg2.tn ie.e T G2 src.its q.its [] [] ⟨w1.m, w1.s ++ [.lst []]⟩ s1 ys s' .refl S2 G2.1 .nil (by simp) hc (by simpa using hl)
        have e1 : Z.com2 q (Z.wipe l own) (Z.sem clS tg).t (Z.sem clS it2).w own2 (Z.sem clS tg2).t (Z.sem clS es).e w1.s.length q.its [] (w1.s ++ [.lst []]) = .ok () w3.s := e1
        refine ⟨.obj w1.s.length, w3.s, by show Z.R.bind (Z.R.noex _) _ = _; rw [e1]; rfl, new_fin (o1 := .lst []) S1 rfl e2 e3 e4 (.lst e5) rfl⟩
      · trivial
theorem se_compD (own : List Nat) (ie : SE cl clS e1) (ie2 : SE cl clS e2) (itg : SE cl clS tg) (ii : SE cl clS it) (ic : SE cl clS c) : SE cl clS (.compD e1 e2 tg it c own) := .ofN rfl fun X O w sV lV l S L =>
  SmT.bind (ii.wp X O w sV lV l S L) fun w1 src s1 q l1 S1 G => by
    obtain ⟨T, S2⟩ := lat_of (o := .dct []) S1 ((L.up S l1).wipe own) rfl
    cases hc : comD src (wipe lV own) (sem cl tg).tn (if Z.isNil c = true then (fun _ s => R.ok true s) else (fun l s => ((sem cl c).p l s).bind asB)) (sem cl e1).e (sem cl e2).e src.its [] s1 with
    | bad => trivial
    | ex x s' => trivial
    | ok ys s' =>
      have G2 := src_push (o := .dct []) S1 G
      obtain ⟨w3, zs, f1, f2, f3, f4, f5⟩ := comD_sim (k := w1.s.length) (tS := (Z.sem clS tg).t) (cS := if Z.isNil c = true then (fun _ s => Z.R.ok true s) else (fun l s => ((Z.sem clS c).e l s).bind Z.asB)) (eS := (Z.sem clS e1).e) (e2S := (Z.sem clS e2).e) itg.tn (EBs.tests ic) ie.e ie2.e T G2 src.its q.its [] [] ⟨w1.m, w1.s ++ [.dct []]⟩ s1 ys s' .refl S2 G2.1 .nil (by simp) hc
      have f1 : Z.comD q (Z.wipe l own) (Z.sem clS tg).t (if Z.isNil c = true then (fun _ s => Z.R.ok true s) else (fun l s => ((Z.sem clS c).e l s).bind Z.asB)) (Z.sem clS e1).e (Z.sem clS e2).e w1.s.length q.its [] (w1.s ++ [.dct []]) = .ok () w3.s := f1
      exact ⟨.obj w1.s.length, w3.s, by show Z.R.bind (Z.R.noex _) _ = _; rw [f1]; rfl, new_fin (o1 := .dct []) S1 rfl f2 f3 f4 (.dct f5) rfl⟩
/-! methods -/
theorem args_sim (m : Mt) (ia : SE cl clS as) : ∀ (X O : Ps) (w : Wd) (sV : Sto) (lV : Lo) (l : Z.Lo), SR X w sV → LR X O w lV l → Sm0 (fun w xs ds => if mtLook m = true then VPs X O w xs ds else VRs X w xs ds) X w ((if mtLook m = true then (sem cl as).lp else (sem cl as).l) lV sV) ((Z.sem clS as).l l w.s) := by
  intro X O w sV lV l S L
  by_cases h : mtLook m = true
  · simp only [h, if_true]; exact ia.lp X O w sV lV l S L
  · simp only [h, if_false]; exact ia.l X O w sV lV l S L
theorem se_mt (m : Mt) (io : SE cl clS o) (ia : SE cl clS as) : SE cl clS (.mt m o as) := by
  have k : Es (fun l s => ((sem cl o).p l s).bind fun x s1 => if mtOk m x s1 = true then ((if mtLook m = true then (sem cl as).lp else (sem cl as).l) l s1).bind fun xs s2 => mth m x xs s2 else .bad) (Z.sem clS (.mt m o as)).e := fun X O w sV lV l S L =>
    Sm0.bind (io.p X O w sV lV l S L) fun w1 x s1 x' l1 S1 r1 => by
      split
      · rename_i h
        rw [if_pos (mtOk_sim S1 r1 h)]
        exact Sm0.bind (args_sim m ia X O w1 s1 lV l S1 (L.up S l1)) fun w2 xs s2 xs' l2 S2 r2 => mth_sim S2 (r1.up0 S1 l2) r2
      · trivial
  constructor
  case e => exact k
  case p => exact fun X O w sV lV l S L => (k X O w sV lV l S L).imp fun _ _ _ h => .inl h
  case x =>
    intro X P n0 w sV lV l T
    show Sim _ _ (match ((sem cl o).v.bind fun i => lV[i]?) with | some (.own (.lst _)) => _ | _ => _) _
    split
    · rename_i zs0 hv
      obtain ⟨i, hi, hz⟩ := Option.bind_eq_some_iff.mp hv
      have := io.v i hi
      subst this
      obtain ⟨j, hj, b, mo, mo', c1, c2, c3⟩ := T.lr.own i _ hz
      cases c1
      split
      · rename_i hm
        cases c3 with
        | lst rz =>
          rename_i ys
          have hS : (Z.sem clS (.mt m (.var i) as)).e l w.s = ((Z.sem clS as).l l w.s).bind fun xs s2 => Z.mth m (.obj j) xs s2 := by
            have e1 : (Z.sem clS (.var i)).e l w.s = .ok (.obj j) w.s := by simp only [Z.sem, hj]
            show ((Z.sem clS (.var i)).e l w.s).bind _ = _
            rw [e1, Z.R.bind_ok]
            have : Z.mtOk m (.obj j) w.s = true := by cases m <;> simp_all [Z.mtOk, mtOwn]
            rw [if_pos this]
          rw [hS]
          have ar := args_sim m ia (XU X P) P w sV lV l T.sr T.lr
          cases ha : (if mtLook m = true then (sem cl as).lp else (sem cl as).l) lV sV with
          | bad => trivial
          | ex x s' =>
            rw [ha] at ar
            obtain ⟨d, t, e, o⟩ := ar
            exact ⟨d, t, by rw [e]; rfl, .of o⟩
          | ok xs s1 =>
            obtain ⟨w1, xs', e, le, S1, rx⟩ := ar.get ha
            rw [e, Z.R.bind_ok, R.bind_ok]
            have hv2 : (sem cl (.var i)).v = some i := rfl
            simp only [hv2, hz]
            cases hmt : mtL s1 m zs0 xs with
            | none => trivial
            | some q =>
              obtain ⟨u, ws⟩ := q
              have T1 := T.up0 le S1
              have c2' : w1.s[j]? = some (.lst ys) := le.old j _ c2 (T.sr.fr j b.1).2 fun h => h
              obtain ⟨d, ys', f1, f2, f3⟩ := mtL_sim S1 (rz.up0 le) rx hmt c2'
              dsimp only
              rw [f1]
              obtain ⟨le2, T2, up⟩ := T1.chg (u' := .lst ws) (o := .lst ws) (o' := .lst ys') hz hj rfl (.lst f3)
              refine ⟨d, _, rfl, w1.m, P, (le.weak fun _ q => q.elim).trans le2, .refl, T2, ?_⟩
              unfold XRel
              rw [if_neg (fun h => by cases h.1)]
              exact up f2
      · trivial
    · exact x_ofE T (k _ _ w sV lV l T.sr T.lr)
  all_goals first | (intro _ _ _ _ _ _ _ _; exact True.intro) | (intro _ _ _ _ _ _ _ _ _ _ _ _; exact True.intro) | (intro _ _ _ _ _ lV' _ _ h; exact nomatch (show (Option.none : Option Lo) = some lV' from h)) | (intro i h; exact nomatch (show (Option.none : Option Nat) = some i from h))
/-! targets -/
theorem slot_own {o : Bool} (h : o = true ∧ u.toMO ≠ none) : slot o u = .own u := by
  obtain ⟨rfl, h⟩ := h
  cases u <;> first | rfl | exact (h rfl).elim
theorem slot_val {o : Bool} (h : ¬ (o = true ∧ u.toMO ≠ none)) : slot o u = .val u := by
  cases u <;> first | rfl | (cases o <;> first | rfl | exact (h ⟨rfl, fun q => by cases q⟩).elim)
theorem se_tv (i : Nat) : SE cl clS (.tv i) := by
  constructor
  case t =>
    intro X P n0 w sV lV l o u d T r
    refine ⟨_, _, rfl, w.m, P, .refl, .refl, ?_⟩
    unfold XRel at r
    split at r
    · rename_i h; rw [slot_own h]; exact T.setO r i
    · rename_i h; rw [slot_val h]; exact T.setV r i
  case tn =>
    intro X w u d lV lV' l r h
    cases h
    exact ⟨_, fun _ => rfl, .step .refl r⟩
  all_goals first | (intro _ _ _ _ _ _ _ _; exact True.intro) | (intro _ _ _ _ _ lV' _ _ h; exact nomatch (show (Option.none : Option Lo) = some lV' from h)) | (intro i h; exact nomatch (show (Option.none : Option Nat) = some i from h))
theorem se_tt (its : SE cl clS ts) : SE cl clS (.tt ts) := by
  constructor
  case t =>
    intro X P n0 w sV lV l o u d T r
    obtain ⟨P', p1, T', rv⟩ := XRel.vr T r
    show Sim _ _ (match u with | .tup ds => ofO ((sem cl ts).tns ds lV) sV | _ => .bad) _
    cases rv with
    | tup rs =>
      rename_i us ds
      dsimp only
      cases hn : (sem cl ts).tns us lV with
      | none => trivial
      | some lV' =>
        obtain ⟨l', e, st⟩ := its.tns _ _ _ _ _ _ l rs hn
        exact ⟨l', w.s, e w.s, w.m, P', .refl, .of p1, st.st T'⟩
    | _ => trivial
  case tn =>
    intro X w u d lV lV' l r h
    cases r with
    | tup rs =>
      obtain ⟨l', e, st⟩ := its.tns _ _ _ _ _ _ l rs h
      exact ⟨l', e, st⟩
    | _ => cases h
  all_goals first | (intro _ _ _ _ _ _ _ _; exact True.intro) | (intro _ _ _ _ _ lV' _ _ h; exact nomatch (show (Option.none : Option Lo) = some lV' from h)) | (intro i h; exact nomatch (show (Option.none : Option Nat) = some i from h))
/-- the same with fewer names of its own -/
theorem Sim.less {α β : Type} {ok : α → Sto → β → Z.Sto → Prop} {r : R α} {q : Z.R β} (p : ∀ j, P' j → P j) (h : Sim ok (ExOk X P' w) r q) : Sim ok (ExOk X P w) r q :=
  h.mono (fun _ _ _ _ o => o) fun _ _ _ _ o => o.back .refl (.of p)
theorem TOk.less {lV' : Lo} {l' : Z.Lo} {t : Z.Sto} {sV' : Sto} (p : ∀ j, P' j → P j) (h : TOk X P' n0 w lV' sV' l' t) : TOk X P n0 w lV' sV' l' t := h.back .refl (.of p)
theorem same_names {r : R Lo} {q : Z.R Z.Lo} (T : St X P n0 w sV lV l) (h : Sm0 (fun _ a b => a = lV ∧ b = l) (XU X P) w r q) : Sim (TOk X P n0 w) (ExOk X P w) r q := by
  refine h.mono (fun a s b t o => ?_) fun _ _ _ _ o => .of o
  obtain ⟨m, le, S, rfl, rfl⟩ := o
  exact ⟨m, P, le.weak fun _ q => q.elim, .refl, T.up0 le S⟩
theorem se_tix (io : SE cl clS o) (ii : SE cl clS i) : SE cl clS (.tix o i) := by
  constructor
  case t =>
    intro X P0 n0 w sV lV l ob ux dx T0 r0
    obtain ⟨P, p1, T, rv⟩ := XRel.vr T0 r0
    refine Sim.less p1 (Sim.mono (ok := TOk X P n0 w) ?_ (fun _ _ _ _ o => o.less p1) fun _ _ _ _ o => o)
    show Sim _ _ (match (sem cl o).v.bind fun i => lV[i]? with | some (.own u) => _ | _ => _) _
    split
    · rename_i zu hv
      obtain ⟨n, hn, hz⟩ := Option.bind_eq_some_iff.mp hv
      have := io.v n hn
      subst this
      obtain ⟨j, hj, b, mt⟩ := T.lr.own n _ hz
      have hS : (Z.sem clS (.tix (.var n) i)).t dx l w.s = ((Z.sem clS i).e l w.s).bind fun y s2 => (Z.stIx (.obj j) y dx s2).bind fun _ s3 => .ok l s3 := by
        have e1 : (Z.sem clS (.var n)).e l w.s = .ok (.obj j) w.s := by simp only [Z.sem, hj]
        show ((Z.sem clS (.var n)).e l w.s).bind _ = _
        rw [e1]; rfl
      rw [hS]
      have hi := ii.p (XU X P) P w sV lV l T.sr T.lr
      cases he : (sem cl i).p lV sV with
      | bad => trivial
      | ex x s' =>
        rw [he] at hi
        obtain ⟨d, t, e, o⟩ := hi
        exact ⟨d, t, by rw [e]; rfl, .of o⟩
      | ok y s1 =>
        obtain ⟨w1, y', e, le, S1, ry⟩ := hi.get he
        rw [e, Z.R.bind_ok, R.bind_ok]
        have hv2 : (sem cl (.var n)).v = some n := rfl
        rw [hv2]
        cases hs : setI zu y ux with
        | none => trivial
        | some u2 =>
          have T1 := T.up0 le S1
          obtain ⟨j', hj', b', mt1⟩ := T1.lr.own n _ hz
          rw [hj] at hj'; cases hj'
          obtain ⟨o', f1, o2, f2, f3⟩ := setI_sim mt1 ry (rv.up0 le) hs
          rw [f1]
          obtain ⟨le2, T2, _⟩ := T1.chg hz hj f2 f3
          exact ⟨l, _, rfl, w1.m, P, (le.weak fun _ q => q.elim).trans le2, .refl, T2⟩
    · refine same_names T (Sm0.bind (io.p (XU X P) P w sV lV l T.sr T.lr) fun w1 x s1 x' l1 S1 r1 => Sm0.bind (ii.p (XU X P) P w1 s1 lV l S1 (T.lr.up T.sr l1)) fun w2 y s2 y' l2 S2 r2 =>
          Sm0.bind (stIx_sim S2 (r1.up0 S1 l2) r2 ((rv.up0 l1).up0 l2)) fun w3 _ s3 _ l3 S3 _ => Sm0.okE (b := l) S3 rfl ⟨rfl, rfl⟩)
  all_goals first | (intro _ _ _ _ _ _ _ _; exact True.intro) | (intro _ _ _ _ _ _ _ _ _ _ _ _; exact True.intro) | (intro _ _ _ _ _ lV' _ _ h; exact nomatch (show (Option.none : Option Lo) = some lV' from h)) | (intro i h; exact nomatch (show (Option.none : Option Nat) = some i from h))
theorem se_tsl (io : SE cl clS o) (il : SE cl clS lo) (ih : SE cl clS hi) : SE cl clS (.tsl o lo hi) := by
  constructor
  case t =>
    intro X P0 n0 w sV lV l ob ux dx T0 r0
    obtain ⟨P, p1, T, rv⟩ := XRel.vr T0 r0
    refine Sim.less p1 (Sim.mono (ok := TOk X P n0 w) ?_ (fun _ _ _ _ o => o.less p1) fun _ _ _ _ o => o)
    show Sim _ _ (match (sem cl o).v.bind fun i => lV[i]? with | some (.own u) => _ | _ => _) _
    split
    · rename_i zu hv
      obtain ⟨n, hn, hz⟩ := Option.bind_eq_some_iff.mp hv
      have := io.v n hn
      subst this
      obtain ⟨j, hj, b, mt⟩ := T.lr.own n _ hz
      have hS : (Z.sem clS (.tsl (.var n) lo hi)).t dx l w.s = ((Z.sem clS lo).e l w.s).bind fun p s2 => ((Z.sem clS hi).e l s2).bind fun q s3 => (Z.stSl (.obj j) p q dx s3).bind fun _ s4 => .ok l s4 := by
        have e1 : (Z.sem clS (.var n)).e l w.s = .ok (.obj j) w.s := by simp only [Z.sem, hj]
        show ((Z.sem clS (.var n)).e l w.s).bind _ = _
        rw [e1]; rfl
      rw [hS]
      have hi1 := il.p (XU X P) P w sV lV l T.sr T.lr
      cases he : (sem cl lo).p lV sV with
      | bad => trivial
      | ex x s' =>
        rw [he] at hi1
        obtain ⟨d, t, e, o⟩ := hi1
        exact ⟨d, t, by rw [e]; rfl, .of o⟩
      | ok y s1 =>
        obtain ⟨w1, y', e, le, S1, ry⟩ := hi1.get he
        rw [e, Z.R.bind_ok, R.bind_ok]
        have T1 := T.up0 le S1
        have hi2 := ih.p (XU X P) P w1 s1 lV l S1 T1.lr
        have leP : Le P w w1 := le.weak fun _ q => q.elim
        cases he2 : (sem cl hi).p lV s1 with
        | bad => trivial
        | ex x s' =>
          rw [he2] at hi2
          obtain ⟨d, t, e, o⟩ := hi2
          exact ⟨d, t, by rw [e]; rfl, (ExOk.of o).back leP .refl⟩
        | ok z s2 =>
          obtain ⟨w2, z', e2, le2, S2, rz⟩ := hi2.get he2
          rw [e2, Z.R.bind_ok, R.bind_ok]
          have hv2 : (sem cl (.var n)).v = some n := rfl
          rw [hv2]
          cases hs : setS zu y z ux with
          | none => trivial
          | some u2 =>
            have T2 := T1.up0 le2 S2
            obtain ⟨j', hj', b', mt1⟩ := T2.lr.own n _ hz
            rw [hj] at hj'; cases hj'
            obtain ⟨o', f1, o2, f2, f3⟩ := setS_sim mt1 (ry.up0 S1 le2) rz ((rv.up0 le).up0 le2) hs
            rw [f1]
            obtain ⟨le3, T3, _⟩ := T2.chg hz hj f2 f3
            exact ⟨l, _, rfl, w2.m, P, (leP.trans (le2.weak fun _ q => q.elim)).trans le3, .refl, T3⟩
    · exact same_names T (Sm0.bind (io.p (XU X P) P w sV lV l T.sr T.lr) fun w1 x s1 x' l1 S1 r1 => Sm0.bind (il.p (XU X P) P w1 s1 lV l S1 (T.lr.up T.sr l1)) fun w2 y s2 y' l2 S2 r2 => Sm0.bind (ih.p (XU X P) P w2 s2 lV l S2 ((T.lr.up T.sr l1).up S1 l2)) fun w3 z s3 z' l3 S3 r3 =>
          Sm0.bind (stSl_sim S3 ((r1.up0 S1 l2).up0 S2 l3) (r2.up0 S2 l3) r3 (((rv.up0 l1).up0 l2).up0 l3)) fun w4 _ s4 _ l4 S4 _ => Sm0.okE (b := l) S4 rfl ⟨rfl, rfl⟩)
  all_goals first | (intro _ _ _ _ _ _ _ _; exact True.intro) | (intro _ _ _ _ _ _ _ _ _ _ _ _; exact True.intro) | (intro _ _ _ _ _ lV' _ _ h; exact nomatch (show (Option.none : Option Lo) = some lV' from h)) | (intro i h; exact nomatch (show (Option.none : Option Nat) = some i from h))
/-! statements -/
theorem se_expr (ie : SE cl clS es) : SE cl clS (.expr es) := .ofS rfl fun X P n0 w sV lV l T =>
  Sim.bind (ok := XOk X P n0 w l) (ie.x X P n0 w sV lV l T) fun r s1 d t o => by
    obtain ⟨m, P', le, sb, T', _⟩ := o
    exact ⟨_, _, rfl, m, P', le, sb, T'⟩
theorem asg_t (it : SE cl clS t) {w1 : Wd} {s1 : Sto} {r : (Bool × U) × Lo} (le : Le P w w1) (sb : Sub P P' w) (T : St X P' n0 w1 s1 r.2 l) (x : XRel X P' w1 r.2 l r.1.1 r.1.2 d) :
    Sim (FOk X P n0 w) (ExOk X P w) (((sem cl t).t r.1.1 r.1.2 r.2 s1).bind fun l1 s2 => .ok (.nx, l1) s2) (((Z.sem clS t).t d l w1.s).bind fun l1 s2 => .ok (.nx, l1) s2) :=
  Sim.bind ((it.t X P' n0 w1 s1 r.2 l r.1.1 r.1.2 d T x).mono (ok' := TOk X P n0 w) (ex' := ExOk X P w) (fun _ _ _ _ o => o.back le sb) fun _ _ _ _ o => o.back le sb) fun l1 s2 l2 t o => by
    obtain ⟨m, Q, a1, a2, a3⟩ := o
    exact ⟨_, _, rfl, m, Q, a1, a2, a3⟩
theorem se_asg (it : SE cl clS t) (ie : SE cl clS es) : SE cl clS (.asg t es) := by
  constructor
  case s =>
    exact fun X P n0 w sV lV l T => Sim.bind (ok := XOk X P n0 w l) (ie.x X P n0 w sV lV l T) fun r s1 d t o => by
      obtain ⟨m, P', le, sb, T', x⟩ := o
      exact asg_t it le sb T' x
  case n =>
    refine fun X P n0 w sV lV l T => Sim.bind (ok := XOk X P n0 w l) (ie.x X P n0 w sV lV l T) fun r s1 d t o => ?_
    obtain ⟨m, P', le, sb, T', x⟩ := o
    split
    · rename_i hr
      cases hn : toNew r.1.2 s1 with
      | bad => trivial
      | ex x s' => exfalso; simp only [toNew] at hn; split at hn <;> cases hn
      | ok u' s' =>
        have hmu : r.1.2.toMO ≠ none := by
          intro h
          simp only [toNew, h] at hn
          cases hn
        unfold XRel at x
        rw [if_pos ⟨hr, hmu⟩] at x
        obtain ⟨m2, P2, le2, p2, T2, v2⟩ := new_st T' x hn
        have xr : XRel X P2 ⟨m2, t⟩ r.2 l false u' d := by unfold XRel; rw [if_neg (fun h => by cases h.1)]; exact v2
        exact asg_t (r := ((false, u'), r.2)) it (le.trans2 sb le2) (sb.trans (.of p2) le.len) T2 xr
    · trivial
  all_goals first | (intro _ _ _ _ _ _ _ _; exact True.intro) | (intro _ _ _ _ _ _ _ _ _ _ _ _; exact True.intro) | (intro _ _ _ _ _ lV' _ _ h; exact nomatch (show (Option.none : Option Lo) = some lV' from h)) | (intro i h; exact nomatch (show (Option.none : Option Nat) = some i from h))
theorem ret_ok {m : List Nat} {o : Bool} {t : Z.Sto} (T : St X P' n0 ⟨m, t⟩ sV lV l) (x : XRel X P' ⟨m, t⟩ lV l o u d) : SR X ⟨m, t⟩ sV ∧ VR X ⟨m, t⟩ u d ∧ (o = true → New X n0 ⟨m, t⟩ sV u d) := by
  obtain ⟨P2, p2, T2, v2⟩ := XRel.vr T x
  refine ⟨T.sr.weak fun j h => .inl h, v2.weak fun j h => .inl h, fun ho mo hmo => ?_⟩
  unfold XRel at x
  rw [if_pos ⟨ho, by rw [hmo]; exact fun h => by cases h⟩] at x
  obtain ⟨j, rfl, p, M, _⟩ := x
  have xj : ∀ k, X k ∨ k = j → XU X P' k := fun k h => h.imp_right fun (h : k = j) => h ▸ p
  obtain ⟨a, b⟩ := T.sr.fr j (.inr p)
  exact ⟨j, rfl, T.lo j p, a, b, T.sr.weak xj, M.ch fun k h => .inl (xj k h)⟩
theorem se_ret (ie : SE cl clS es) : SE cl clS (.ret es) := by
  constructor
  case s =>
    exact fun X P n0 w sV lV l T => Sim.bind (ok := XOk X P n0 w l) (ie.x X P n0 w sV lV l T) fun r s1 d t o => by
      obtain ⟨m, P', le, sb, T', x⟩ := o
      exact ⟨_, _, rfl, m, P', le, sb, ret_ok T' x⟩
  case n =>
    refine fun X P n0 w sV lV l T => Sim.bind (ok := XOk X P n0 w l) (ie.x X P n0 w sV lV l T) fun r s1 d t o => ?_
    obtain ⟨m, P', le, sb, T', x⟩ := o
    split
    · rename_i hr
      cases hn : toNew r.1.2 s1 with
      | bad => trivial
      | ex x s' => exfalso; simp only [toNew] at hn; split at hn <;> cases hn
      | ok u' s' =>
        have hmu : r.1.2.toMO ≠ none := by
          intro h
          simp only [toNew, h] at hn
          cases hn
        unfold XRel at x
        rw [if_pos ⟨hr, hmu⟩] at x
        obtain ⟨m2, P2, le2, p2, T2, v2⟩ := new_st T' x hn
        exact ⟨_, _, rfl, m2, P2, le.trans2 sb le2, sb.trans (.of p2) le.len, T2.sr.weak fun j h => .inl h, v2.weak fun j h => .inl h, fun h => by cases h⟩
    · trivial
  all_goals first | (intro _ _ _ _ _ _ _ _; exact True.intro) | (intro _ _ _ _ _ _ _ _ _ _ _ _; exact True.intro) | (intro _ _ _ _ _ lV' _ _ h; exact nomatch (show (Option.none : Option Lo) = some lV' from h)) | (intro i h; exact nomatch (show (Option.none : Option Nat) = some i from h))
/-- a test, ahead of what hangs on it -/
theorem test_s {f g : Lo → Sto → R (Fl × Lo)} {f' g' : Z.Lo → Z.Sto → Z.R (Z.Fl × Z.Lo)} (ic : SE cl clS c) (hf : Sss f f') (hg : Sss g g') : Sss (fun l s => (((sem cl c).p l s).bind asB).bind fun k s1 => if k = true then f l s1 else g l s1) (fun l s => (((Z.sem clS c).e l s).bind Z.asB).bind fun k s1 => if k = true then f' l s1 else g' l s1) :=
  fun X P n0 w sV lV l T => Sim.bind (ok := fun k s1 k' t => k = k' ∧ ∃ m, Le C0 w ⟨m, t⟩ ∧ SR (XU X P) ⟨m, t⟩ s1) (ex := ExOk X P w) ((ic.p.asB (XU X P) P w sV lV l T.sr T.lr).mono (fun _ _ _ _ ⟨m, a, b, c⟩ => ⟨c, m, a, b⟩) fun _ _ _ _ o => .of o) fun k s1 k' t o => by
    obtain ⟨rfl, m, le, S1⟩ := o
    have T1 := T.up0 le S1
    have leP : Le P w ⟨m, t⟩ := le.weak fun _ q => q.elim
    cases k with
    | true => exact (hf X P n0 ⟨m, t⟩ s1 lV l T1).mono (fun _ _ _ _ o => o.back leP .refl) fun _ _ _ _ o => o.back leP .refl
    | false => exact (hg X P n0 ⟨m, t⟩ s1 lV l T1).mono (fun _ _ _ _ o => o.back leP .refl) fun _ _ _ _ o => o.back leP .refl
theorem se_sif (ic : SE cl clS c) (ia : SE cl clS a) (ib : SE cl clS b) : SE cl clS (.sif c a b) := .ofS rfl (test_s ic ia.s ib.s)
/-- the end of a turn -/
theorem FOk.turn {f : Lo → Sto → R (Fl × Lo)} {g : Z.Lo → Z.Sto → Z.R (Z.Fl × Z.Lo)} {r1 : R (Fl × Lo)} {q1 : Z.R (Z.Fl × Z.Lo)} (h : Sim (FOk X P n0 w) (ExOk X P w) r1 q1)
    (k : ∀ (P' : Ps) (w' : Wd) (sV : Sto) (lV : Lo) (l : Z.Lo), Le P w w' → Sub P P' w → St X P' n0 w' sV lV l → Sim (FOk X P' n0 w') (ExOk X P' w') (f lV sV) (g l w'.s)) :
    Sim (FOk X P n0 w) (ExOk X P w) (r1.bind fun r s2 => (match r.1 with
      | .nx => f r.2 s2
      | .cnt => f r.2 s2
      | .brk => .ok (.nx, r.2) s2
      | .ret o v => .ok (.ret o v, r.2) s2)) (q1.bind fun r s2 => (match r.1 with
      | .nx => g r.2 s2
      | .cnt => g r.2 s2
      | .brk => .ok (.nx, r.2) s2
      | .ret v => .ok (.ret v, r.2) s2)) := by
  refine Sim.bind h fun r s r' t o => ?_
  obtain ⟨fl, l1⟩ := r
  obtain ⟨fl', l1'⟩ := r'
  obtain ⟨m, P1, le, sb, o2⟩ := o
  cases fl <;> cases fl' <;> first | exact o2.elim | skip
  · exact (k P1 ⟨m, t⟩ s l1 l1' le sb o2).mono (fun _ _ _ _ o => o.back le sb) fun _ _ _ _ o => o.back le sb
  · exact ⟨_, _, rfl, m, P1, le, sb, o2⟩
  · exact (k P1 ⟨m, t⟩ s l1 l1' le sb o2).mono (fun _ _ _ _ o => o.back le sb) fun _ _ _ _ o => o.back le sb
  · exact ⟨_, _, rfl, m, P1, le, sb, o2⟩
theorem VRs.later (r : VRs (XU X P) w us ds) (le : Le P w w') (sb : Sub P P' w) : VRs (XU X P') w' us ds := by
  have r1 : VRs (XU X fun j => P j ∨ P' j) w us ds := r.ch fun j h => h.elim (fun x => .inl (.inl x)) fun h => h.elim (fun p => .inl (.inr p)) fun p => (sb j p).elim (fun p => .inl (.inr p)) .inr
  exact (r1.up le fun j p => .inr (.inl p)).weak fun j h => h.imp_right fun p => .inr p
theorem forL_sim {src : Src} {q : Z.Src} {tV : U → Lo → Option Lo} {tS : D → Z.Lo → Z.Sto → Z.R Z.Lo} {bV : Lo → Sto → R (Fl × Lo)} {bS : Z.Lo → Z.Sto → Z.R (Z.Fl × Z.Lo)} (ht : TnS tV tS) (hb : Sss bV bS) (G : SrcR (XU X P) w0 src q) :
    ∀ (its : List U) (itsS : List D) (P' : Ps) (w : Wd) (sV : Sto) (lV : Lo) (l : Z.Lo), Le P w0 w → Sub P P' w0 → St X P' n0 w sV lV l → VRs (XU X P') w its itsS → Sim (FOk X P' n0 w) (ExOk X P' w) (forL src tV bV its lV sV) (Z.forL q tS bS itsS l w.s) := by
  intro its
  have gd : ∀ (P' : Ps) (w : Wd) (sV : Sto) (lV : Lo) (l : Z.Lo), Le P w0 w → St X P' n0 w sV lV l → src.ok sV = true → q.ok w.s = true := fun P' w sV lV l le T o =>
    SrcG.ok G le (fun j _ nx p => nx (.inr p)) T.sr o
  induction its with
  | nil =>
    intro itsS P' w sV lV l le sb T r
    cases r
    unfold forL Z.forL
    split
    · rename_i o
      rw [if_pos (gd P' w sV lV l le T o)]
      exact ⟨_, _, rfl, w.m, P', .refl, .refl, T⟩
    · trivial
  | cons u its ih =>
    intro itsS P' w sV lV l le sb T r
    cases r with
    | cons r1 rr =>
      unfold forL Z.forL
      split
      · rename_i o
        rw [if_pos (gd P' w sV lV l le T o)]
        cases hn : tV u lV with
        | none => trivial
        | some l1 =>
          obtain ⟨l1', e, st⟩ := ht _ _ _ _ _ _ l r1 hn
          rw [e w.s]
          show Sim _ _ ((bV l1 sV).bind _) ((bS l1' w.s).bind _)
          refine FOk.turn (hb X P' n0 w sV l1 l1' (st.st T)) fun P2 w2 s2 l2 l2' le2 sb2 T2 => ?_
          exact ih _ P2 w2 s2 l2 l2' (le.trans2 sb le2) (sb.trans sb2 le.len) T2 (rr.later le2 sb2)
      · trivial
theorem se_sfor (itt : SE cl clS t) (ii : SE cl clS it) (ib : SE cl clS b) : SE cl clS (.sfor t it b) := .ofS rfl fun X P n0 w sV lV l T =>
  Sim.bind (ok := Ok C0 (SrcR (XU X P)) (XU X P) w) (ex := ExOk X P w) ((ii.w (XU X P) P w sV lV l T.sr T.lr).mono (fun _ _ _ _ o => o) fun _ _ _ _ o => .of o) fun src s1 q t o => by
    obtain ⟨m, le, S1, G⟩ := o
    have leP : Le P w ⟨m, t⟩ := le.weak fun _ q => q.elim
    exact (forL_sim itt.tn ib.s G src.its q.its P ⟨m, t⟩ s1 lV l .refl .refl (T.up0 le S1) G.1).mono (fun _ _ _ _ o => o.back leP .refl) fun _ _ _ _ o => o.back leP .refl
theorem whL_sim (ic : SE cl clS c) (ib : SE cl clS b) : ∀ n, Sss (whL (fun l s => ((sem cl c).p l s).bind asB) (sem cl b).s n) (Z.whL (fun l s => ((Z.sem clS c).e l s).bind Z.asB) (Z.sem clS b).s n)
  | 0 => fun _ _ _ _ _ _ _ _ => trivial
  | n + 1 => by
    have ih := whL_sim ic ib n
    exact test_s (f := fun l s => ((sem cl b).s l s).bind fun r s2 => (match r.1 with
      | .nx => whL (fun l s => ((sem cl c).p l s).bind asB) (sem cl b).s n r.2 s2
      | .cnt => whL (fun l s => ((sem cl c).p l s).bind asB) (sem cl b).s n r.2 s2
      | .brk => .ok (.nx, r.2) s2
      | .ret o v => .ok (.ret o v, r.2) s2)) (g := fun l s => .ok (.nx, l) s) (f' := fun l s => ((Z.sem clS b).s l s).bind fun r s2 => (match r.1 with
      | .nx => Z.whL (fun l s => ((Z.sem clS c).e l s).bind Z.asB) (Z.sem clS b).s n r.2 s2
      | .cnt => Z.whL (fun l s => ((Z.sem clS c).e l s).bind Z.asB) (Z.sem clS b).s n r.2 s2
      | .brk => .ok (.nx, r.2) s2
      | .ret v => .ok (.ret v, r.2) s2)) (g' := fun l s => .ok (.nx, l) s) ic
      (fun X P n0 w sV lV l T => FOk.turn (ib.s X P n0 w sV lV l T) fun P' w' s' l1 l1' _ _ T' => ih X P' n0 w' s' l1 l1' T')
      (fun X P n0 w sV lV l T => ⟨_, _, rfl, w.m, P, .refl, .refl, T⟩)
theorem zwh : (Z.sem clS (.swh c b)).s = Z.whL (fun l s => ((Z.sem clS c).e l s).bind Z.asB) (Z.sem clS b).s Z.whFuel := by simp only [Z.sem]
theorem ywh : sem cl (.swh c b) = Sm.ofS (whL (fun l s => ((sem cl c).p l s).bind asB) (sem cl b).s Z.whFuel) := by simp only [sem]
theorem se_swh (ic : SE cl clS c) (ib : SE cl clS b) : SE cl clS (.swh c b) := .ofS ywh (by rw [zwh]; exact whL_sim ic ib _)
theorem se_fin {f : Fl} {g : Z.Fl} (h : sem cl a = Sm.ofS fun l s => .ok (f, l) s) (hz : (Z.sem clS a).s = fun l s => .ok (g, l) s) (k : ∀ (X P : Ps) (n0 : Nat) (w : Wd) (sV : Sto) (lV : Lo) (l : Z.Lo), St X P n0 w sV lV l → FOk X P n0 w (f, lV) sV (g, l) w.s) : SE cl clS a :=
  .ofS h (by rw [hz]; exact fun X P n0 w sV lV l T => ⟨_, _, rfl, k X P n0 w sV lV l T⟩)
theorem se_retN : SE cl clS .retN := se_fin (f := .ret false .non) (g := .ret .non) rfl rfl fun X P n0 w sV lV l T => ⟨w.m, P, .refl, .refl, T.sr.weak fun j h => .inl h, .non, fun h => by cases h⟩
theorem se_pass : SE cl clS .pass := se_fin (f := .nx) (g := .nx) rfl rfl fun X P n0 w sV lV l T => ⟨w.m, P, .refl, .refl, T⟩
theorem se_brk : SE cl clS .brk := se_fin (f := .brk) (g := .brk) rfl rfl fun X P n0 w sV lV l T => ⟨w.m, P, .refl, .refl, T⟩
theorem se_cnt : SE cl clS .cnt := se_fin (f := .cnt) (g := .cnt) rfl rfl fun X P n0 w sV lV l T => ⟨w.m, P, .refl, .refl, T⟩
theorem se_fz (is : List Nat) (ia : SE cl clS a) : SE cl clS (.fz is a) := by
  have k : ∀ {f : Lo → Sto → R (Fl × Lo)} {g : Z.Lo → Z.Sto → Z.R (Z.Fl × Z.Lo)}, Sss f g → Sss (fun l s => f (frz l is) s) g := fun h X P n0 w sV lV l T => by
    obtain ⟨P', p, T'⟩ := T.frz is
    exact (h X P' n0 w sV _ l T').mono (fun _ _ _ _ o => o.back .refl (.of p)) fun _ _ _ _ o => o.back .refl (.of p)
  constructor
  case s => exact k ia.s
  case n => exact k ia.n
  all_goals first | (intro _ _ _ _ _ _ _ _; exact True.intro) | (intro _ _ _ _ _ _ _ _ _ _ _ _; exact True.intro) | (intro _ _ _ _ _ lV' _ _ h; exact nomatch (show (Option.none : Option Lo) = some lV' from h)) | (intro i h; exact nomatch (show (Option.none : Option Nat) = some i from h))
theorem se_new (ia : SE cl clS a) : SE cl clS (.new a) := .ofS rfl ia.n
theorem se_all (hc : ClS cl clS) : ∀ a : Ex, SE cl clS a := by
  intro a
  induction a with
  | nil => exact se_nil
  | cons a r ia ir => exact se_cons ia ir
  | var i => exact se_var i
  | glb i d => exact se_glb i d
  | int i => exact .ofE rfl fun X O w sV lV l S L => Sm0.okE S rfl (.int _)
  | str i => exact .ofE rfl fun X O w sV lV l S L => Sm0.okE S rfl (.str _)
  | bl i => exact .ofE rfl fun X O w sV lV l S L => Sm0.okE S rfl (.bl _)
  | non => exact .ofE rfl fun X O w sV lV l S L => Sm0.okE S rfl .non
  | bin o a b ia ib => exact se_bin o ia ib
  | neg a ia => exact se_neg ia
  | not a ia => exact se_not ia
  | and a b ia ib => exact se_and ia ib
  | or a b ia ib => exact se_or ia ib
  | one a ia => exact se_one ia
  | cmp o a b ia ib => exact se_cmp o ia ib
  | cmp2 o p a b c ia ib ic => exact se_cmp2 o p ia ib ic
  | ite c a b ic ia ib => exact se_ite ic ia ib
  | tup es ie => exact se_tup ie
  | lst es ie => exact se_lst ie
  | dct ks vs iv => exact se_dct ks iv
  | ix a i ia ii => exact se_ix ia ii
  | sl a lo hi ia il ih => exact se_sl ia il ih
  | rev a ia => exact se_rev ia
  | call f as ia => exact se_call hc f ia
  | bi b as ia => exact se_bi b ia
  | isi a t ia => exact se_isi t ia
  | mt m o as io ia => exact se_mt m io ia
  | comp e tg it c own ie itg ii ic => exact se_comp own ie itg ii ic
  | callK f as kv d ia ik => exact se_callK hc f d ia ik
  | gix i kvs b ib => exact se_gix i kvs ib
  | comp2 e tg it tg2 it2 own own2 ie itg ii itg2 ii2 => exact se_comp2 own own2 ie itg ii itg2 ii2
  | compD e e2 tg it c own ie ie2 itg ii ic => exact se_compD own ie ie2 itg ii ic
  | itR3 a b c ia ib ic => exact se_itR3 ia ib ic
  | sset b ib => exact se_sset ib
  | lr1 b ib => exact se_lr1 ib
  | lr2 a b ia ib => exact se_lr2 ia ib
  | itS e ie => exact se_itS ie
  | itE e ie => exact se_itE ie
  | itK i => exact se_itK i
  | get1 o k io ik => exact se_get1 io ik
  | get2 o k d io ik id => exact se_get2 io ik id
  | lsI a ia => exact se_lsI ia
  | isiM a ts ia => exact se_isiM ts ia
  | lockE i a ia => exact se_lockE i ia
  | lockS i a ia => exact .nope rfl
  | rai => exact .nope rfl
  | itR1 b ib => exact se_itR1 ib
  | itR2 a b ia ib => exact se_itR2 ia ib
  | tv i => exact se_tv i
  | tt ts its => exact se_tt its
  | tix o i io ii => exact se_tix io ii
  | tsl o lo hi io il ih => exact se_tsl io il ih
  | expr e ie => exact se_expr ie
  | asg t e it ie => exact se_asg it ie
  | sif c a b ic ia ib => exact se_sif ic ia ib
  | sfor t it b itt ii ib => exact se_sfor itt ii ib
  | swh c b ic ib => exact se_swh ic ib
  | ret e ie => exact se_ret ie
  | retN => exact se_retN
  | pass => exact se_pass
  | brk => exact se_brk
  | cnt => exact se_cnt
  | fz is a ia => exact se_fz is ia
  | new a ia => exact se_new ia
/-! calls -/
theorem start_lr (r : VRs X w us ds) (k : Nat) : LR X O w (us.map .val ++ List.replicate k .no) (ds.map some ++ List.replicate k none) := by
  have hl := r.length
  have key : ∀ (i : Nat) (x : Sl), x ≠ .no → (us.map Sl.val ++ List.replicate k .no)[i]? = some x → i < us.length ∧ ∃ u, us[i]? = some u ∧ x = .val u := by
    intro i x nx e
    by_cases hi : i < us.length
    · rw [List.getElem?_append_left (by simpa using hi), List.getElem?_map] at e
      obtain ⟨u, a, b⟩ := Option.map_eq_some_iff.mp e
      exact ⟨hi, u, a, b.symm⟩
    · rw [List.getElem?_append_right (by simpa using hi)] at e
      have := List.mem_of_getElem? e
      exact (nx (List.eq_of_mem_replicate this)).elim
  refine ⟨by simp [hl], fun i u e => ?_, fun i u e => ?_, fun i u e => by
    obtain ⟨hi, u', a, b⟩ := key i _ (fun h => by cases h) e
    cases b⟩
  · obtain ⟨hi, u', a, b⟩ := key i _ (fun h => by cases h) e
    cases b
    obtain ⟨d, c, v⟩ := r.get a
    refine ⟨d, ?_, v⟩
    rw [List.getElem?_append_left (by rw [List.length_map, ← hl]; exact hi), List.getElem?_map, c]; rfl
  · obtain ⟨hi, u', a, b⟩ := key i _ (fun h => by cases h) e
    cases b
theorem ownF_true {ob : Bool} (h : ownF ob u = true) : ob = true := by cases u <;> first | exact h | cases h
theorem run_sim (hc : ClS cl clS) (f : Fn) (S : SR X w sV) (r : VRs X w us ds) : SmN X w (runFn cl f us sV) (Z.runFn clS f ds w.s) := by
  unfold runFn Z.runFn
  rw [← r.length]
  split
  · have T : St X C0 w.s.length w sV (us.map .val ++ List.replicate (f.nn - f.np) .no) (ds.map some ++ List.replicate (f.nn - f.np) none) := by
      refine ⟨S.weak fun j h => h.elim (fun x => x) fun h => h.elim, ?_, fun i i' u u' j e => ?_, fun j h => h.elim, fun j h => h.elim, Nat.le_refl _, fun i u e => ?_⟩
      rotate_left 2
      · obtain ⟨j, xs, ys, _, _, q, _⟩ := (start_lr (X := X) (w := w) (O := C0) r (f.nn - f.np)).lk i u e
        exact q.2
      · exact start_lr (r.weak fun j h => h.elim (fun x => x) fun h => h.elim) _
      · exfalso
        obtain ⟨d, q, _⟩ := (start_lr (O := C0) r (f.nn - f.np)).own i u e
        have := (start_lr (X := X) (w := w) (O := C0) r (f.nn - f.np)).own i u e
        obtain ⟨_, _, h, _⟩ := this
        exact h.2
    refine Sim.bind ((se_all hc f.body).s X C0 w.s.length w sV _ _ T |>.mono (ok' := FOk X C0 w.s.length w) (ex' := Ok C0 (VR X) X w) (fun _ _ _ _ o => o) fun _ _ _ _ o => o) fun q s1 q' t o => ?_
    obtain ⟨fl, l1⟩ := q
    obtain ⟨fl', l1'⟩ := q'
    obtain ⟨m, P1, le, sb, o2⟩ := o
    cases fl <;> cases fl' <;> first | exact o2.elim | skip
    · exact ⟨_, _, rfl, m, le, o2.sr.weak fun j h => .inl h, .non, fun h => by cases h⟩
    · trivial
    · trivial
    · exact ⟨_, _, rfl, m, le, o2.1, o2.2.1, fun h => o2.2.2 (ownF_true h)⟩
  · trivial
theorem call_sim (fs : List Fn) : ∀ n, ClS (callN fs n) (Z.callN fs n)
  | 0 => fun _ _ _ _ _ _ _ _ => trivial
  | n + 1 => fun X w sV us ds f S r => by
    show SmN X w (match fs[f]? with | some g => runFn (callN fs n) g us sV | none => .bad) (match fs[f]? with | some g => Z.runFn (Z.callN fs n) g ds w.s | none => .bad)
    cases fs[f]? with
    | none => trivial
    | some g => exact run_sim (call_sim fs n) g S r
/-- a law's answer -/
theorem law_of {fs : List Fn} {n i : Nat} {ns : List Int} {o : Bool} {s' : Sto} (h : callN fs n i [.kl (ns.map .int)] [] = .ok (o, .bl true) s') : ∃ st, Z.callN fs n i [.kl (ns.map .int)] [] = .ok (.bl true) st := by
  have S : SR C0 ⟨[], []⟩ [] := ⟨rfl, fun i j k e => by simp at e, fun i o e => by simp at e, fun j h => h.elim⟩
  have k := call_sim fs n C0 ⟨[], []⟩ [] [.kl (ns.map .int)] [.kl (ns.map .int)] i S (.cons (.kl (vrs_ints ns)) .nil)
  rw [h] at k
  obtain ⟨d, t, e, m, _, _, v, _⟩ := k
  have v : VR C0 ⟨m, t⟩ (.bl true) d := v
  cases v
  exact ⟨t, e⟩
end
end Y

/-! YPl: what a term comes to, one equation a kind; loops; comprehensions. -/
namespace Y
open PySem
open Z (Ky Bop Cop Bi Ty Mt Ex Fn line big fuel whFuel rgOk rgN joinD upA cut isNil)
@[simp] theorem ye_glb {cl : Cl} {n_ : Nat} {d : Z.D} {l : Lo} {s : Sto} : (sem cl (.glb n_ d)).e l s = if plainD d = true then .ok (ofD d) s else .bad := rfl
@[simp] theorem yp_glb {cl : Cl} {n_ : Nat} {d : Z.D} {l : Lo} {s : Sto} : (sem cl (.glb n_ d)).p l s = (sem cl (.glb n_ d)).e l s := rfl
@[simp] theorem yx_glb {cl : Cl} {n_ : Nat} {d : Z.D} {l : Lo} {s : Sto} : (sem cl (.glb n_ d)).x l s = ((sem cl (.glb n_ d)).e l s).bind fun u s1 => .ok ((false, u), l) s1 := rfl
@[simp] theorem ye_int {cl : Cl} {i : Int} {l : Lo} {s : Sto} : (sem cl (.int i)).e l s = .ok (.int i) s := rfl
@[simp] theorem yp_int {cl : Cl} {i : Int} {l : Lo} {s : Sto} : (sem cl (.int i)).p l s = (sem cl (.int i)).e l s := rfl
@[simp] theorem yx_int {cl : Cl} {i : Int} {l : Lo} {s : Sto} : (sem cl (.int i)).x l s = ((sem cl (.int i)).e l s).bind fun u s1 => .ok ((false, u), l) s1 := rfl
@[simp] theorem ye_str {cl : Cl} {x : List Nat} {l : Lo} {s : Sto} : (sem cl (.str x)).e l s = .ok (.str x) s := rfl
@[simp] theorem yp_str {cl : Cl} {x : List Nat} {l : Lo} {s : Sto} : (sem cl (.str x)).p l s = (sem cl (.str x)).e l s := rfl
@[simp] theorem yx_str {cl : Cl} {x : List Nat} {l : Lo} {s : Sto} : (sem cl (.str x)).x l s = ((sem cl (.str x)).e l s).bind fun u s1 => .ok ((false, u), l) s1 := rfl
@[simp] theorem ye_bl {cl : Cl} {b : Bool} {l : Lo} {s : Sto} : (sem cl (.bl b)).e l s = .ok (.bl b) s := rfl
@[simp] theorem yp_bl {cl : Cl} {b : Bool} {l : Lo} {s : Sto} : (sem cl (.bl b)).p l s = (sem cl (.bl b)).e l s := rfl
@[simp] theorem yx_bl {cl : Cl} {b : Bool} {l : Lo} {s : Sto} : (sem cl (.bl b)).x l s = ((sem cl (.bl b)).e l s).bind fun u s1 => .ok ((false, u), l) s1 := rfl
@[simp] theorem ye_non {cl : Cl}  {l : Lo} {s : Sto} : (sem cl .non).e l s = .ok .non s := rfl
@[simp] theorem yp_non {cl : Cl}  {l : Lo} {s : Sto} : (sem cl .non).p l s = (sem cl .non).e l s := rfl
@[simp] theorem yx_non {cl : Cl}  {l : Lo} {s : Sto} : (sem cl .non).x l s = ((sem cl .non).e l s).bind fun u s1 => .ok ((false, u), l) s1 := rfl
@[simp] theorem ye_bin {cl : Cl} {o : Bop} {a : Ex} {b : Ex} {l : Lo} {s : Sto} : (sem cl (.bin o a b)).e l s = ((sem cl a).p l s).bind fun x s1 => ((sem cl b).p l s1).bind fun y s2 => bin o x y s2 := rfl
@[simp] theorem yp_bin {cl : Cl} {o : Bop} {a : Ex} {b : Ex} {l : Lo} {s : Sto} : (sem cl (.bin o a b)).p l s = (sem cl (.bin o a b)).e l s := rfl
@[simp] theorem yx_bin {cl : Cl} {o : Bop} {a : Ex} {b : Ex} {l : Lo} {s : Sto} : (sem cl (.bin o a b)).x l s = ((sem cl (.bin o a b)).e l s).bind fun u s1 => .ok ((true, u), l) s1 := rfl
@[simp] theorem ye_neg {cl : Cl} {a : Ex} {l : Lo} {s : Sto} : (sem cl (.neg a)).e l s = ((sem cl a).p l s).bind fun x s1 => (match x with | .int i => .ok (.int (-i)) s1 | _ => .bad) := rfl
@[simp] theorem yp_neg {cl : Cl} {a : Ex} {l : Lo} {s : Sto} : (sem cl (.neg a)).p l s = (sem cl (.neg a)).e l s := rfl
@[simp] theorem yx_neg {cl : Cl} {a : Ex} {l : Lo} {s : Sto} : (sem cl (.neg a)).x l s = ((sem cl (.neg a)).e l s).bind fun u s1 => .ok ((false, u), l) s1 := rfl
@[simp] theorem ye_not {cl : Cl} {a : Ex} {l : Lo} {s : Sto} : (sem cl (.not a)).e l s = (((sem cl a).p l s).bind asB).bind fun b s1 => .ok (.bl (!b)) s1 := rfl
@[simp] theorem yp_not {cl : Cl} {a : Ex} {l : Lo} {s : Sto} : (sem cl (.not a)).p l s = (sem cl (.not a)).e l s := rfl
@[simp] theorem yx_not {cl : Cl} {a : Ex} {l : Lo} {s : Sto} : (sem cl (.not a)).x l s = ((sem cl (.not a)).e l s).bind fun u s1 => .ok ((false, u), l) s1 := rfl
@[simp] theorem ye_and {cl : Cl} {a : Ex} {b : Ex} {l : Lo} {s : Sto} : (sem cl (.and a b)).e l s = (((sem cl a).p l s).bind asB).bind fun k s1 => if k = true then (sem cl b).e l s1 else .ok (.bl false) s1 := rfl
@[simp] theorem yp_and {cl : Cl} {a : Ex} {b : Ex} {l : Lo} {s : Sto} : (sem cl (.and a b)).p l s = (sem cl (.and a b)).e l s := rfl
@[simp] theorem yx_and {cl : Cl} {a : Ex} {b : Ex} {l : Lo} {s : Sto} : (sem cl (.and a b)).x l s = ((sem cl (.and a b)).e l s).bind fun u s1 => .ok ((false, u), l) s1 := rfl
@[simp] theorem ye_or {cl : Cl} {a : Ex} {b : Ex} {l : Lo} {s : Sto} : (sem cl (.or a b)).e l s = (((sem cl a).p l s).bind asB).bind fun k s1 => if k = true then .ok (.bl true) s1 else (sem cl b).e l s1 := rfl
@[simp] theorem yp_or {cl : Cl} {a : Ex} {b : Ex} {l : Lo} {s : Sto} : (sem cl (.or a b)).p l s = (sem cl (.or a b)).e l s := rfl
@[simp] theorem yx_or {cl : Cl} {a : Ex} {b : Ex} {l : Lo} {s : Sto} : (sem cl (.or a b)).x l s = ((sem cl (.or a b)).e l s).bind fun u s1 => .ok ((false, u), l) s1 := rfl
@[simp] theorem ye_cmp {cl : Cl} {o : Cop} {a : Ex} {b : Ex} {l : Lo} {s : Sto} : (sem cl (.cmp o a b)).e l s = ((sem cl a).p l s).bind fun x s1 => ((sem cl b).p l s1).bind fun y s2 => cmp o x y s2 := rfl
@[simp] theorem yp_cmp {cl : Cl} {o : Cop} {a : Ex} {b : Ex} {l : Lo} {s : Sto} : (sem cl (.cmp o a b)).p l s = (sem cl (.cmp o a b)).e l s := rfl
@[simp] theorem yx_cmp {cl : Cl} {o : Cop} {a : Ex} {b : Ex} {l : Lo} {s : Sto} : (sem cl (.cmp o a b)).x l s = ((sem cl (.cmp o a b)).e l s).bind fun u s1 => .ok ((false, u), l) s1 := rfl
@[simp] theorem ye_cmp2 {cl : Cl} {o : Cop} {p : Cop} {a : Ex} {b : Ex} {c : Ex} {l : Lo} {s : Sto} : (sem cl (.cmp2 o p a b c)).e l s = ((sem cl a).p l s).bind fun x s1 => ((sem cl b).p l s1).bind fun y s2 => ((cmp o x y s2).bind asB).bind fun k s3 =>
      if k = true then ((sem cl c).p l s3).bind fun z s4 => cmp p y z s4 else .ok (.bl false) s3 := rfl
@[simp] theorem yp_cmp2 {cl : Cl} {o : Cop} {p : Cop} {a : Ex} {b : Ex} {c : Ex} {l : Lo} {s : Sto} : (sem cl (.cmp2 o p a b c)).p l s = (sem cl (.cmp2 o p a b c)).e l s := rfl
@[simp] theorem yx_cmp2 {cl : Cl} {o : Cop} {p : Cop} {a : Ex} {b : Ex} {c : Ex} {l : Lo} {s : Sto} : (sem cl (.cmp2 o p a b c)).x l s = ((sem cl (.cmp2 o p a b c)).e l s).bind fun u s1 => .ok ((false, u), l) s1 := rfl
@[simp] theorem ye_tup {cl : Cl} {es : Ex} {l : Lo} {s : Sto} : (sem cl (.tup es)).e l s = ((sem cl es).l l s).bind fun xs s1 => if xs.length ≤ line then .ok (.tup xs) s1 else .bad := rfl
@[simp] theorem yp_tup {cl : Cl} {es : Ex} {l : Lo} {s : Sto} : (sem cl (.tup es)).p l s = (sem cl (.tup es)).e l s := rfl
@[simp] theorem yx_tup {cl : Cl} {es : Ex} {l : Lo} {s : Sto} : (sem cl (.tup es)).x l s = ((sem cl (.tup es)).e l s).bind fun u s1 => .ok ((false, u), l) s1 := rfl
@[simp] theorem ye_lst {cl : Cl} {es : Ex} {l : Lo} {s : Sto} : (sem cl (.lst es)).e l s = ((sem cl es).l l s).bind fun xs s1 => if xs.length ≤ line then .ok (.lst xs) s1 else .bad := rfl
@[simp] theorem yp_lst {cl : Cl} {es : Ex} {l : Lo} {s : Sto} : (sem cl (.lst es)).p l s = (sem cl (.lst es)).e l s := rfl
@[simp] theorem yx_lst {cl : Cl} {es : Ex} {l : Lo} {s : Sto} : (sem cl (.lst es)).x l s = ((sem cl (.lst es)).e l s).bind fun u s1 => .ok ((true, u), l) s1 := rfl
@[simp] theorem ye_dct {cl : Cl} {ks : List Ky} {vs : Ex} {l : Lo} {s : Sto} : (sem cl (.dct ks vs)).e l s = ((sem cl vs).l l s).bind fun ys s2 =>
      if ys.length = ks.length ∧ ks.length ≤ 15 then .ok (.dct ((ks.zip ys).foldl (fun acc kv => putK acc kv.1 kv.2) [])) s2 else .bad := rfl
@[simp] theorem yp_dct {cl : Cl} {ks : List Ky} {vs : Ex} {l : Lo} {s : Sto} : (sem cl (.dct ks vs)).p l s = (sem cl (.dct ks vs)).e l s := rfl
@[simp] theorem yx_dct {cl : Cl} {ks : List Ky} {vs : Ex} {l : Lo} {s : Sto} : (sem cl (.dct ks vs)).x l s = ((sem cl (.dct ks vs)).e l s).bind fun u s1 => .ok ((true, u), l) s1 := rfl
@[simp] theorem ye_ix {cl : Cl} {a : Ex} {i : Ex} {l : Lo} {s : Sto} : (sem cl (.ix a i)).e l s = ((sem cl a).p l s).bind fun x s1 => ((sem cl i).p l s1).bind fun y s2 => opIx x y s2 := rfl
@[simp] theorem yp_ix {cl : Cl} {a : Ex} {i : Ex} {l : Lo} {s : Sto} : (sem cl (.ix a i)).p l s = (sem cl (.ix a i)).e l s := rfl
@[simp] theorem yx_ix {cl : Cl} {a : Ex} {i : Ex} {l : Lo} {s : Sto} : (sem cl (.ix a i)).x l s = ((sem cl (.ix a i)).e l s).bind fun u s1 => .ok ((false, u), l) s1 := rfl
@[simp] theorem ye_sl {cl : Cl} {a : Ex} {lo : Ex} {hi : Ex} {l : Lo} {s : Sto} : (sem cl (.sl a lo hi)).e l s = ((sem cl a).p l s).bind fun x s1 => (oInt lo (sem cl lo).p l s1).bind fun p s2 => (oInt hi (sem cl hi).p l s2).bind fun q s3 => opSl x p q s3 := rfl
@[simp] theorem yp_sl {cl : Cl} {a : Ex} {lo : Ex} {hi : Ex} {l : Lo} {s : Sto} : (sem cl (.sl a lo hi)).p l s = (sem cl (.sl a lo hi)).e l s := rfl
@[simp] theorem yx_sl {cl : Cl} {a : Ex} {lo : Ex} {hi : Ex} {l : Lo} {s : Sto} : (sem cl (.sl a lo hi)).x l s = ((sem cl (.sl a lo hi)).e l s).bind fun u s1 => .ok ((true, u), l) s1 := rfl
@[simp] theorem ye_rev {cl : Cl} {a : Ex} {l : Lo} {s : Sto} : (sem cl (.rev a)).e l s = ((sem cl a).p l s).bind fun x s1 => opRev x s1 := rfl
@[simp] theorem yp_rev {cl : Cl} {a : Ex} {l : Lo} {s : Sto} : (sem cl (.rev a)).p l s = (sem cl (.rev a)).e l s := rfl
@[simp] theorem yx_rev {cl : Cl} {a : Ex} {l : Lo} {s : Sto} : (sem cl (.rev a)).x l s = ((sem cl (.rev a)).e l s).bind fun u s1 => .ok ((true, u), l) s1 := rfl
@[simp] theorem ye_bi {cl : Cl} {b : Bi} {as : Ex} {l : Lo} {s : Sto} : (sem cl (.bi b as)).e l s = ((sem cl as).lp l s).bind fun xs s1 => biF b xs s1 := rfl
@[simp] theorem yp_bi {cl : Cl} {b : Bi} {as : Ex} {l : Lo} {s : Sto} : (sem cl (.bi b as)).p l s = (sem cl (.bi b as)).e l s := rfl
@[simp] theorem yx_bi {cl : Cl} {b : Bi} {as : Ex} {l : Lo} {s : Sto} : (sem cl (.bi b as)).x l s = ((sem cl (.bi b as)).e l s).bind fun u s1 => .ok ((true, u), l) s1 := rfl
@[simp] theorem ye_isi {cl : Cl} {a : Ex} {t : Ty} {l : Lo} {s : Sto} : (sem cl (.isi a t)).e l s = ((sem cl a).p l s).bind fun x s1 => (match isTy t x s1 with | some b => .ok (.bl b) s1 | none => .bad) := rfl
@[simp] theorem yp_isi {cl : Cl} {a : Ex} {t : Ty} {l : Lo} {s : Sto} : (sem cl (.isi a t)).p l s = (sem cl (.isi a t)).e l s := rfl
@[simp] theorem yx_isi {cl : Cl} {a : Ex} {t : Ty} {l : Lo} {s : Sto} : (sem cl (.isi a t)).x l s = ((sem cl (.isi a t)).e l s).bind fun u s1 => .ok ((false, u), l) s1 := rfl
theorem ye_comp {cl : Cl} {e : Ex} {tg : Ex} {it : Ex} {c : Ex} {own : List Nat} {l : Lo} {s : Sto} : (sem cl (.comp e tg it c own)).e l s = ((sem cl it).wp l s).bind fun src s1 =>
      (comL src (wipe l own) (sem cl tg).tn (if isNil c = true then (fun _ s => R.ok true s) else (fun l s => ((sem cl c).p l s).bind asB)) (sem cl e).e src.its s1).noex.bind fun ys s2 => if ys.length ≤ line then .ok (.lst ys) s2 else .bad := rfl
@[simp] theorem yp_comp {cl : Cl} {e : Ex} {tg : Ex} {it : Ex} {c : Ex} {own : List Nat} {l : Lo} {s : Sto} : (sem cl (.comp e tg it c own)).p l s = (sem cl (.comp e tg it c own)).e l s := rfl
@[simp] theorem yx_comp {cl : Cl} {e : Ex} {tg : Ex} {it : Ex} {c : Ex} {own : List Nat} {l : Lo} {s : Sto} : (sem cl (.comp e tg it c own)).x l s = ((sem cl (.comp e tg it c own)).e l s).bind fun u s1 => .ok ((true, u), l) s1 := rfl
@[simp] theorem ye_gix {cl : Cl} {n_ : Nat} {kvs : List (Int × Int)} {a : Ex} {l : Lo} {s : Sto} : (sem cl (.gix n_ kvs a)).e l s = ((sem cl a).p l s).bind fun x s1 => (match x with
      | .int z => (match kvs.find? (fun kv => decide (kv.1 = z)) with
        | some kv => .ok (.int kv.2) s1
        | none => .bad)
      | _ => .bad) := rfl
@[simp] theorem yp_gix {cl : Cl} {n_ : Nat} {kvs : List (Int × Int)} {a : Ex} {l : Lo} {s : Sto} : (sem cl (.gix n_ kvs a)).p l s = (sem cl (.gix n_ kvs a)).e l s := rfl
@[simp] theorem yx_gix {cl : Cl} {n_ : Nat} {kvs : List (Int × Int)} {a : Ex} {l : Lo} {s : Sto} : (sem cl (.gix n_ kvs a)).x l s = ((sem cl (.gix n_ kvs a)).e l s).bind fun u s1 => .ok ((false, u), l) s1 := rfl
@[simp] theorem ye_sset {cl : Cl} {a : Ex} {l : Lo} {s : Sto} : (sem cl (.sset a)).e l s = ((sem cl a).p l s).bind fun x s1 => (match (seq? s1 x).bind ints? with
      | some ns => if ns.length ≤ 60 then .ok (.lst ((Z.sset ns).map .int)) s1 else .bad
      | none => .bad) := rfl
@[simp] theorem yp_sset {cl : Cl} {a : Ex} {l : Lo} {s : Sto} : (sem cl (.sset a)).p l s = (sem cl (.sset a)).e l s := rfl
@[simp] theorem yx_sset {cl : Cl} {a : Ex} {l : Lo} {s : Sto} : (sem cl (.sset a)).x l s = ((sem cl (.sset a)).e l s).bind fun u s1 => .ok ((true, u), l) s1 := rfl
theorem ye_comp2 {cl : Cl} {e : Ex} {tg : Ex} {it : Ex} {tg2 : Ex} {it2 : Ex} {own : List Nat} {own2 : List Nat} {l : Lo} {s : Sto} : (sem cl (.comp2 e tg it tg2 it2 own own2)).e l s = ((sem cl it).wp l s).bind fun src s1 =>
      (com2 src (wipe l own) (sem cl tg).tn (sem cl it2).wp own2 (sem cl tg2).tn (sem cl e).e src.its s1).noex.bind fun ys s2 => if ys.length ≤ line then .ok (.lst ys) s2 else .bad := rfl
@[simp] theorem yp_comp2 {cl : Cl} {e : Ex} {tg : Ex} {it : Ex} {tg2 : Ex} {it2 : Ex} {own : List Nat} {own2 : List Nat} {l : Lo} {s : Sto} : (sem cl (.comp2 e tg it tg2 it2 own own2)).p l s = (sem cl (.comp2 e tg it tg2 it2 own own2)).e l s := rfl
@[simp] theorem yx_comp2 {cl : Cl} {e : Ex} {tg : Ex} {it : Ex} {tg2 : Ex} {it2 : Ex} {own : List Nat} {own2 : List Nat} {l : Lo} {s : Sto} : (sem cl (.comp2 e tg it tg2 it2 own own2)).x l s = ((sem cl (.comp2 e tg it tg2 it2 own own2)).e l s).bind fun u s1 => .ok ((true, u), l) s1 := rfl
theorem ye_compD {cl : Cl} {ek : Ex} {ev : Ex} {tg : Ex} {it : Ex} {c : Ex} {own : List Nat} {l : Lo} {s : Sto} : (sem cl (.compD ek ev tg it c own)).e l s = ((sem cl it).wp l s).bind fun src s1 =>
      (comD src (wipe l own) (sem cl tg).tn (if isNil c = true then (fun _ s => R.ok true s) else (fun l s => ((sem cl c).p l s).bind asB)) (sem cl ek).e (sem cl ev).e src.its [] s1).noex.bind fun kvs s2 => .ok (.dct kvs) s2 := rfl
@[simp] theorem yp_compD {cl : Cl} {ek : Ex} {ev : Ex} {tg : Ex} {it : Ex} {c : Ex} {own : List Nat} {l : Lo} {s : Sto} : (sem cl (.compD ek ev tg it c own)).p l s = (sem cl (.compD ek ev tg it c own)).e l s := rfl
@[simp] theorem yx_compD {cl : Cl} {ek : Ex} {ev : Ex} {tg : Ex} {it : Ex} {c : Ex} {own : List Nat} {l : Lo} {s : Sto} : (sem cl (.compD ek ev tg it c own)).x l s = ((sem cl (.compD ek ev tg it c own)).e l s).bind fun u s1 => .ok ((true, u), l) s1 := rfl
@[simp] theorem yw_itR3 {cl : Cl} {a : Ex} {b : Ex} {c : Ex} {l : Lo} {s : Sto} : (sem cl (.itR3 a b c)).w l s = ((sem cl a).p l s).bind fun x s1 => ((sem cl b).p l s1).bind fun y s2 => ((sem cl c).p l s2).bind fun z s3 => (match x, y, z with
      | .int i, .int j, .int k => if rgOk i j = true ∧ 0 < k ∧ k ≤ 1000000 then .ok ⟨rng3 i j k, none⟩ s3 else .bad
      | _, _, _ => .bad) := rfl
@[simp] theorem yv_itR3 {cl : Cl} {a : Ex} {b : Ex} {c : Ex} {l : Lo} {s : Sto} : (sem cl (.itR3 a b c)).wp l s = ((sem cl a).p l s).bind fun x s1 => ((sem cl b).p l s1).bind fun y s2 => ((sem cl c).p l s2).bind fun z s3 => (match x, y, z with
      | .int i, .int j, .int k => if rgOk i j = true ∧ 0 < k ∧ k ≤ 1000000 then .ok ⟨rng3 i j k, none⟩ s3 else .bad
      | _, _, _ => .bad) := rfl
@[simp] theorem ye_lr1 {cl : Cl} {b : Ex} {l : Lo} {s : Sto} : (sem cl (.lr1 b)).e l s = ((sem cl b).p l s).bind fun y s1 => (match y with
      | .int j => if rgOk 0 j = true ∧ j ≤ 16777216 then .ok (.lst (rng 0 j)) s1 else .bad
      | _ => .bad) := rfl
@[simp] theorem yp_lr1 {cl : Cl} {b : Ex} {l : Lo} {s : Sto} : (sem cl (.lr1 b)).p l s = (sem cl (.lr1 b)).e l s := rfl
@[simp] theorem yx_lr1 {cl : Cl} {b : Ex} {l : Lo} {s : Sto} : (sem cl (.lr1 b)).x l s = ((sem cl (.lr1 b)).e l s).bind fun u s1 => .ok ((true, u), l) s1 := rfl
@[simp] theorem ye_lr2 {cl : Cl} {a : Ex} {b : Ex} {l : Lo} {s : Sto} : (sem cl (.lr2 a b)).e l s = ((sem cl a).p l s).bind fun x s1 => ((sem cl b).p l s1).bind fun y s2 => (match x, y with
      | .int i, .int j => if rgOk i j = true ∧ j - i ≤ 16777216 then .ok (.lst (rng i j)) s2 else .bad
      | _, _ => .bad) := rfl
@[simp] theorem yp_lr2 {cl : Cl} {a : Ex} {b : Ex} {l : Lo} {s : Sto} : (sem cl (.lr2 a b)).p l s = (sem cl (.lr2 a b)).e l s := rfl
@[simp] theorem yx_lr2 {cl : Cl} {a : Ex} {b : Ex} {l : Lo} {s : Sto} : (sem cl (.lr2 a b)).x l s = ((sem cl (.lr2 a b)).e l s).bind fun u s1 => .ok ((true, u), l) s1 := rfl
@[simp] theorem yw_itR1 {cl : Cl} {b : Ex} {l : Lo} {s : Sto} : (sem cl (.itR1 b)).w l s = ((sem cl b).p l s).bind fun y s1 => (match y with
      | .int j => if rgOk 0 j then .ok ⟨rng 0 j, none⟩ s1 else .bad
      | _ => .bad) := rfl
@[simp] theorem yv_itR1 {cl : Cl} {b : Ex} {l : Lo} {s : Sto} : (sem cl (.itR1 b)).wp l s = ((sem cl b).p l s).bind fun y s1 => (match y with
      | .int j => if rgOk 0 j then .ok ⟨rng 0 j, none⟩ s1 else .bad
      | _ => .bad) := rfl
@[simp] theorem yw_itR2 {cl : Cl} {a : Ex} {b : Ex} {l : Lo} {s : Sto} : (sem cl (.itR2 a b)).w l s = ((sem cl a).p l s).bind fun x s1 => ((sem cl b).p l s1).bind fun y s2 => (match x, y with
      | .int i, .int j => if rgOk i j then .ok ⟨rng i j, none⟩ s2 else .bad
      | _, _ => .bad) := rfl
@[simp] theorem yv_itR2 {cl : Cl} {a : Ex} {b : Ex} {l : Lo} {s : Sto} : (sem cl (.itR2 a b)).wp l s = ((sem cl a).p l s).bind fun x s1 => ((sem cl b).p l s1).bind fun y s2 => (match x, y with
      | .int i, .int j => if rgOk i j then .ok ⟨rng i j, none⟩ s2 else .bad
      | _, _ => .bad) := rfl
@[simp] theorem ys_expr {cl : Cl} {e : Ex} {l : Lo} {s : Sto} : (sem cl (.expr e)).s l s = ((sem cl e).x l s).bind fun r s1 => .ok (.nx, r.2) s1 := rfl
@[simp] theorem ys_sif {cl : Cl} {c : Ex} {a : Ex} {b : Ex} {l : Lo} {s : Sto} : (sem cl (.sif c a b)).s l s = (((sem cl c).p l s).bind asB).bind fun k s1 => if k = true then (sem cl a).s l s1 else (sem cl b).s l s1 := rfl
@[simp] theorem ys_sfor {cl : Cl} {t : Ex} {it : Ex} {b : Ex} {l : Lo} {s : Sto} : (sem cl (.sfor t it b)).s l s = ((sem cl it).w l s).bind fun src s1 => forL src (sem cl t).tn (sem cl b).s src.its l s1 := rfl
@[simp] theorem ys_swh {cl : Cl} {c : Ex} {b : Ex} {l : Lo} {s : Sto} : (sem cl (.swh c b)).s l s = whL (fun l s => ((sem cl c).p l s).bind asB) (sem cl b).s whFuel l s := by simp only [sem]; rfl
@[simp] theorem ys_retN {cl : Cl}  {l : Lo} {s : Sto} : (sem cl .retN).s l s = .ok (.ret false .non, l) s := rfl
@[simp] theorem ys_pass {cl : Cl}  {l : Lo} {s : Sto} : (sem cl .pass).s l s = .ok (.nx, l) s := rfl
@[simp] theorem ys_brk {cl : Cl}  {l : Lo} {s : Sto} : (sem cl .brk).s l s = .ok (.brk, l) s := rfl
@[simp] theorem ys_cnt {cl : Cl}  {l : Lo} {s : Sto} : (sem cl .cnt).s l s = .ok (.cnt, l) s := rfl
section
variable {cl : Cl} {l : Lo} {s : Sto} {a b c e r es as i o t ts it lo hi kv : Ex} {d u : U}
@[simp] theorem yl_nil : (sem cl .nil).l l s = .ok [] s := rfl
@[simp] theorem yl_cons : (sem cl (.cons a r)).l l s = ((sem cl a).e l s).bind fun x s1 => ((sem cl r).l l s1).bind fun xs s2 => .ok (x :: xs) s2 := rfl
@[simp] theorem ylp_nil : (sem cl .nil).lp l s = .ok [] s := rfl
@[simp] theorem ylp_cons : (sem cl (.cons a r)).lp l s = ((sem cl a).p l s).bind fun x s1 => ((sem cl r).lp l s1).bind fun xs s2 => .ok (x :: xs) s2 := rfl
@[simp] theorem ys_nil : (sem cl .nil).s l s = .ok (.nx, l) s := rfl
theorem ys_cons : (sem cl (.cons a r)).s l s = ((sem cl a).s l s).bind fun r1 s1 => (match r1.1 with | .nx => (sem cl r).s r1.2 s1 | _ => .ok r1 s1) := rfl
@[simp] theorem ytns_nil : (sem cl .nil).tns [] l = some l := rfl
@[simp] theorem ytns_cons {ds : List U} : (sem cl (.cons a r)).tns (d :: ds) l = ((sem cl a).tn d l).bind fun l1 => (sem cl r).tns ds l1 := rfl
@[simp] theorem ye_var {i : Nat} : (sem cl (.var i)).e l s = (match l[i]? with | some (.val d) => .ok d s | _ => .bad) := rfl
@[simp] theorem yp_var {i : Nat} : (sem cl (.var i)).p l s = (match l[i]? with | some (.val d) => .ok d s | some (.own d) => .ok d s | _ => .bad) := rfl
@[simp] theorem yx_var {i : Nat} : (sem cl (.var i)).x l s = (match l[i]? with | some (.val d) => .ok ((false, d), l) s | some (.own d) => .ok ((true, d), l.set i .no) s | _ => .bad) := rfl
@[simp] theorem ye_one : (sem cl (.one a)).e l s = (sem cl a).e l s := rfl
@[simp] theorem yp_one : (sem cl (.one a)).p l s = (sem cl a).e l s := rfl
@[simp] theorem yx_one : (sem cl (.one a)).x l s = ((sem cl a).e l s).bind fun u s1 => .ok ((false, u), l) s1 := rfl
@[simp] theorem ye_ite : (sem cl (.ite c a b)).e l s = (((sem cl c).p l s).bind asB).bind fun k s1 => if k = true then (sem cl a).e l s1 else (sem cl b).e l s1 := rfl
@[simp] theorem yp_ite : (sem cl (.ite c a b)).p l s = (((sem cl c).p l s).bind asB).bind fun k s1 => if k = true then (sem cl a).p l s1 else (sem cl b).p l s1 := rfl
@[simp] theorem yx_ite : (sem cl (.ite c a b)).x l s = ((sem cl (.ite c a b)).e l s).bind fun u s1 => .ok ((false, u), l) s1 := rfl
@[simp] theorem ye_call {f : Nat} : (sem cl (.call f as)).e l s = ((sem cl as).l l s).bind fun xs s1 => (cl f xs s1).bind fun r s2 => .ok r.2 s2 := rfl
@[simp] theorem yp_call {f : Nat} : (sem cl (.call f as)).p l s = ((sem cl as).l l s).bind fun xs s1 => (cl f xs s1).bind fun r s2 => .ok r.2 s2 := rfl
@[simp] theorem yx_call {f : Nat} : (sem cl (.call f as)).x l s = ((sem cl as).l l s).bind fun xs s1 => (cl f xs s1).bind fun r s2 => .ok (r, l) s2 := rfl
@[simp] theorem ye_callK {f : Nat} {d : Z.D} : (sem cl (.callK f as kv d)).e l s = ((sem cl as).l l s).bind fun xs s1 => ((sem cl kv).l l s1).bind fun ys s2 => (match ys with
      | [] => if plainD d = true then (cl f (xs ++ [ofD d]) s2).bind fun r s2 => .ok r.2 s2 else .bad
      | [y] => (cl f (xs ++ [y]) s2).bind fun r s2 => .ok r.2 s2
      | _ => .bad) := rfl
@[simp] theorem yp_callK {f : Nat} {d : Z.D} : (sem cl (.callK f as kv d)).p l s = (sem cl (.callK f as kv d)).e l s := rfl
@[simp] theorem yx_callK {f : Nat} {d : Z.D} : (sem cl (.callK f as kv d)).x l s = ((sem cl as).l l s).bind fun xs s1 => ((sem cl kv).l l s1).bind fun ys s2 => (match ys with
      | [] => if plainD d = true then (cl f (xs ++ [ofD d]) s2).bind fun r s2 => .ok (r, l) s2 else .bad
      | [y] => (cl f (xs ++ [y]) s2).bind fun r s2 => .ok (r, l) s2
      | _ => .bad) := rfl
@[simp] theorem ye_mt {m : Mt} : (sem cl (.mt m o as)).e l s = ((sem cl o).p l s).bind fun x s1 => if mtOk m x s1 = true then ((if mtLook m = true then (sem cl as).lp else (sem cl as).l) l s1).bind fun xs s2 => mth m x xs s2 else .bad := rfl
@[simp] theorem yp_mt {m : Mt} : (sem cl (.mt m o as)).p l s = (sem cl (.mt m o as)).e l s := rfl
/-- a method of a list of a name's own -/
theorem yx_mtO {m : Mt} {i : Nat} {zs : List U} (h : l[i]? = some (.own (.lst zs))) : (sem cl (.mt m (.var i) as)).x l s = if mtOwn m = true then ((if mtLook m = true then (sem cl as).lp else (sem cl as).l) l s).bind fun xs s1 => (match mtL s1 m zs xs with
                | some (u, ys) => .ok ((false, u), l.set i (.own (.lst ys))) s1
                | none => .bad) else .bad := by
  show (match ((some i).bind fun i => l[i]?) with | some (.own (.lst _)) => _ | _ => _) = _
  have hv : (sem cl (.var i)).v = some i := rfl
  simp only [Option.bind_some, h, hv]
  try rfl
/-- .. of other things -/
theorem yx_mtV {m : Mt} (h : ∀ zs, ((sem cl o).v.bind fun i => l[i]?) ≠ some (.own (.lst zs))) : (sem cl (.mt m o as)).x l s = ((sem cl (.mt m o as)).e l s).bind fun u s1 => .ok ((false, u), l) s1 := by
  show (match ((sem cl o).v.bind fun i => l[i]?) with | some (.own (.lst _)) => _ | _ => _) = _
  split
  · rename_i zs hz
    exact (h _ hz).elim
  · rfl
@[simp] theorem yx_mtS {m : Mt} {x : List Nat} : (sem cl (.mt m (.str x) as)).x l s = ((sem cl (.mt m (.str x) as)).e l s).bind fun u s1 => .ok ((false, u), l) s1 := rfl
@[simp] theorem yw_itS : (sem cl (.itS e)).w l s = ((sem cl e).e l s).bind srcOf := rfl
@[simp] theorem yv_itS : (sem cl (.itS e)).wp l s = ((sem cl e).p l s).bind srcOf := rfl
@[simp] theorem yt_tv {i : Nat} {o : Bool} : (sem cl (.tv i)).t o d l s = .ok (l.set i (slot o d)) s := rfl
@[simp] theorem ytn_tv {i : Nat} : (sem cl (.tv i)).tn d l = some (l.set i (.val d)) := rfl
@[simp] theorem yt_tt {ds : List U} {o : Bool} : (sem cl (.tt t)).t o (.tup ds) l s = ofO ((sem cl t).tns ds l) s := rfl
@[simp] theorem ytn_tt {ds : List U} : (sem cl (.tt t)).tn (.tup ds) l = (sem cl t).tns ds l := rfl
/-- o[i] = d of a thing of a name's own -/
theorem yt_tixO {n : Nat} {ob : Bool} (h : l[n]? = some (.own u)) : (sem cl (.tix (.var n) i)).t ob d l s = ((sem cl i).p l s).bind fun y s1 => (match setI u y d with
          | some u2 => .ok (l.set n (.own u2)) s1
          | none => .bad) := by
  show (match (some n).bind fun i => l[i]? with | some (.own u) => _ | _ => _) = _
  have hv : (sem cl (.var n)).v = some n := rfl
  simp only [Option.bind_some, h, hv]
  congr 1
  funext y s1
  cases setI u y d <;> rfl
theorem yt_tixV {n : Nat} {ob : Bool} (h : l[n]? = some (.val u)) : (sem cl (.tix (.var n) i)).t ob d l s = ((sem cl i).p l s).bind fun y s2 => (stIx u y d s2).bind fun _ s3 => .ok l s3 := by
  show (match (some n).bind fun i => l[i]? with | some (.own u) => _ | _ => _) = _
  simp only [Option.bind_some, h, yp_var]
  rfl
theorem yt_tslO {n : Nat} {ob : Bool} (h : l[n]? = some (.own u)) : (sem cl (.tsl (.var n) lo hi)).t ob d l s = ((sem cl lo).p l s).bind fun p s1 => ((sem cl hi).p l s1).bind fun q s2 => (match setS u p q d with
          | some u2 => .ok (l.set n (.own u2)) s2
          | none => .bad) := by
  show (match (some n).bind fun i => l[i]? with | some (.own u) => _ | _ => _) = _
  have hv : (sem cl (.var n)).v = some n := rfl
  simp only [Option.bind_some, h, hv]
  congr 1
  funext p s1
  congr 1
  funext q s2
  cases setS u p q d <;> rfl
@[simp] theorem ys_asg : (sem cl (.asg t e)).s l s = ((sem cl e).x l s).bind fun r s1 => ((sem cl t).t r.1.1 r.1.2 r.2 s1).bind fun l1 s2 => .ok (.nx, l1) s2 := rfl
@[simp] theorem yn_asg : (sem cl (.asg t e)).n l s = ((sem cl e).x l s).bind fun r s1 => if r.1.1 = true then (toNew r.1.2 s1).bind fun u s2 => ((sem cl t).t false u r.2 s2).bind fun l1 s3 => .ok (.nx, l1) s3 else .bad := rfl
@[simp] theorem ys_ret : (sem cl (.ret e)).s l s = ((sem cl e).x l s).bind fun r s1 => .ok (.ret r.1.1 r.1.2, r.2) s1 := rfl
@[simp] theorem yn_ret : (sem cl (.ret e)).n l s = ((sem cl e).x l s).bind fun r s1 => if r.1.1 = true then (toNew r.1.2 s1).bind fun u s2 => .ok (.ret false u, r.2) s2 else .bad := rfl
@[simp] theorem ys_fz {is : List Nat} : (sem cl (.fz is a)).s l s = (sem cl a).s (frz l is) s := rfl
@[simp] theorem yn_fz {is : List Nat} : (sem cl (.fz is a)).n l s = (sem cl a).n (frz l is) s := rfl
end
@[simp] theorem slot_false {u : U} : slot false u = .val u := by cases u <;> rfl
@[simp] theorem slot_non {o : Bool} : slot o .non = .val .non := rfl
@[simp] theorem slot_bl {o b : Bool} : slot o (.bl b) = .val (.bl b) := rfl
@[simp] theorem slot_int {o : Bool} {i : Int} : slot o (.int i) = .val (.int i) := rfl
@[simp] theorem slot_str {o : Bool} {i : List Nat} : slot o (.str i) = .val (.str i) := rfl
@[simp] theorem slot_tup {o : Bool} {i : List U} : slot o (.tup i) = .val (.tup i) := rfl
@[simp] theorem slot_obj {o : Bool} {i : Nat} : slot o (.obj i) = .val (.obj i) := rfl
@[simp] theorem slot_lst {i : List U} : slot true (.lst i) = .own (.lst i) := rfl
@[simp] theorem slot_dct {i : List (Ky × U)} : slot true (.dct i) = .own (.dct i) := rfl
@[simp] theorem frz_nil {l : Lo} : frz l [] = l := rfl
@[simp] theorem frz_cons {l : Lo} {i : Nat} {is : List Nat} : frz l (i :: is) = (match l[i]? with | some (.own u) => frz (l.set i (.val u)) is | _ => frz l is) := rfl
@[simp] theorem asB_bl {b : Bool} {s : Sto} : asB (.bl b) s = .ok b s := rfl
@[simp] theorem post_ok {α : Type} {a : α} {s : Sto} {Q : α → Sto → Prop} {E : U → Sto → Prop} : (R.ok a s).post Q E = Q a s := rfl
@[simp] theorem post_bindS {α β : Type} {r : R α} {f : α → Sto → R β} {Q : β → Sto → Prop} {E : U → Sto → Prop} : (r.bind f).post Q E ↔ r.post (fun a s => (f a s).post Q E) E := R.post_bind
@[simp] theorem ofO_some {α : Type} {a : α} {s : Sto} : ofO (some a) s = .ok a s := rfl
theorem post_exists {α : Type} {r : R α} {Q : α → Sto → Prop} (h : r.post Q (fun _ _ => False)) : ∃ a s, r = .ok a s ∧ Q a s := by
  cases r with
  | ok a s => exact ⟨a, s, rfl, h⟩
  | ex => exact h.elim
  | bad => exact h.elim
/-- an answer by what it is -/
theorem post_eq {α : Type} {r : R α} {a : α} {s : Sto} (h : r.post (fun b t => b = a ∧ t = s) fun _ _ => False) : r = .ok a s := by
  obtain ⟨b, t, e, rfl, rfl⟩ := post_exists h
  exact e
/-- a block: one statement, then what is behind it -/
theorem seq_post {cl : Cl} {a r : Ex} {l : Lo} {s : Sto} {Q : Fl × Lo → Sto → Prop} {E : U → Sto → Prop}
    (h : ((sem cl a).s l s).post (fun r1 s1 => match r1.1 with | .nx => ((sem cl r).s r1.2 s1).post Q E | _ => Q r1 s1) E) : ((sem cl (.cons a r)).s l s).post Q E := by
  rw [ys_cons, R.post_bind]
  refine R.post_mono h (fun r1 s1 k => ?_) fun _ _ k => k
  obtain ⟨fl, l1⟩ := r1
  cases fl <;> exact k
/-- a def's end -/
def fin (r : Fl × Lo) (s : Sto) : R (Bool × U) := match r.1 with
  | .ret o d => .ok (ownF o d, d) s
  | .nx => .ok (false, .non) s
  | _ => .bad
@[simp] theorem fin_ret {o : Bool} {d : U} {l : Lo} {s : Sto} : fin (.ret o d, l) s = .ok (ownF o d, d) s := rfl
@[simp] theorem ownF_false {u : U} : ownF false u = false := by cases u <;> rfl
@[simp] theorem ownF_non {o : Bool} : ownF o .non = false := rfl
@[simp] theorem ownF_bl {o b : Bool} : ownF o (.bl b) = false := rfl
@[simp] theorem ownF_int {o : Bool} {i : Int} : ownF o (.int i) = false := rfl
@[simp] theorem ownF_str {o : Bool} {i : List Nat} : ownF o (.str i) = false := rfl
@[simp] theorem ownF_tup {o : Bool} {i : List U} : ownF o (.tup i) = false := rfl
@[simp] theorem ownF_obj {o : Bool} {i : Nat} : ownF o (.obj i) = false := rfl
@[simp] theorem ownF_lst {i : List U} {o : Bool} : ownF o (.lst i) = o := rfl
@[simp] theorem ownF_dct {i : List (Ky × U)} {o : Bool} : ownF o (.dct i) = o := rfl
@[simp] theorem slot_ownF {o : Bool} {u : U} : slot (ownF o u) u = slot o u := by cases u <;> cases o <;> rfl
@[simp] theorem fin_nx {l : Lo} {s : Sto} : fin (.nx, l) s = .ok (false, .non) s := rfl
theorem call_eq {fs : List Fn} {n f : Nat} {g : Fn} {as : List U} {s : Sto} (h : fs[f]? = some g) (k : as.length = g.np) : callN fs (n + 1) f as s = ((sem (callN fs n) g.body).s (as.map .val ++ List.replicate (g.nn - g.np) .no) s).bind fin := by
  show (match fs[f]? with | some g => runFn (callN fs n) g as s | none => .bad) = _
  rw [h]
  show (if as.length = g.np then _ else _) = _
  rw [if_pos k]
  rfl
theorem fin_post {r : R (Fl × Lo)} {Q : Bool × U → Sto → Prop} {E : U → Sto → Prop} (h : r.post (fun r s => (fin r s).post Q E) E) : (r.bind fin).post Q E := R.post_bind.mpr h
/-! numbers -/
section
variable {s : Sto} {x y : Int}
@[simp] theorem bin_add : bin .add (.int x) (.int y) s = .ok (.int (x + y)) s := rfl
@[simp] theorem bin_sub : bin .sub (.int x) (.int y) s = .ok (.int (x - y)) s := rfl
theorem bin_mulL (h : -18446744073709551616 < x) (k : x < 18446744073709551616) : bin .mul (.int x) (.int y) s = .ok (.int (x * y)) s := by
  show ofO (if _ then _ else _) s = _
  rw [if_pos (Or.inl ⟨h, k⟩)]; rfl
theorem bin_mulR (h : -18446744073709551616 < y) (k : y < 18446744073709551616) : bin .mul (.int x) (.int y) s = .ok (.int (x * y)) s := by
  show ofO (if _ then _ else _) s = _
  rw [if_pos (Or.inr ⟨h, k⟩)]; rfl
theorem bin_div (h : 0 < y) (k : y < 18446744073709551616) : bin .div (.int x) (.int y) s = .ok (.int (x / y)) s := by
  show ofO (if _ then _ else _) s = _
  rw [if_pos ⟨h, k⟩]; rfl
theorem bin_mod (h : 0 < y) : bin .mod (.int x) (.int y) s = .ok (.int (x % y)) s := by
  show ofO (if _ then _ else _) s = _
  rw [if_pos h]; rfl
theorem bin_pow (h : 0 ≤ y) (h2 : y ≤ 1000000) (k : x.natAbs < 18446744073709551616) : bin .pow (.int x) (.int y) s = .ok (.int (x ^ y.toNat)) s := by
  show ofO (if _ then _ else _) s = _
  rw [if_pos ⟨h, h2, k⟩]; rfl
theorem bin_addT {a b : List U} (h : a.length + b.length ≤ 16777216) : bin .add (.tup a) (.tup b) s = .ok (.tup (a ++ b)) s := by
  show ofO (if _ then _ else _) s = _
  rw [if_pos (show a.length + b.length ≤ line from h)]; rfl
theorem bin_addL {a b : List U} (h : a.length + b.length ≤ 16777216) : bin .add (.lst a) (.lst b) s = .ok (.lst (a ++ b)) s := by
  show ofO (if _ then _ else _) s = _
  rw [if_pos (show a.length + b.length ≤ line from h)]; rfl
theorem bin_addS {a b : List Nat} (h : a.length + b.length ≤ 16777216) : bin .add (.str a) (.str b) s = .ok (.str (a ++ b)) s := by
  show ofO (if _ then _ else _) s = _
  rw [if_pos (show a.length + b.length ≤ line from h)]; rfl
theorem bin_mulT {a : List U} (h1 : -1000000 ≤ x) (h2 : x ≤ 1000000) (h : a.length * x.toNat ≤ 16777216) : bin .mul (.tup a) (.int x) s = .ok (.tup (List.replicate x.toNat a).flatten) s := by
  show ofO (if _ then _ else _) s = _
  rw [if_pos ⟨h1, h2, h⟩]; rfl
theorem bin_mulLs {a : List U} (h1 : -100000 ≤ x) (h2 : x ≤ 100000) (h : a.length * x.toNat ≤ 16777216) : bin .mul (.lst a) (.int x) s = .ok (.lst (List.replicate x.toNat a).flatten) s := by
  show ofO (if _ then _ else _) s = _
  rw [if_pos ⟨h2, h, h1⟩]; rfl
@[simp] theorem cmp_lt : cmp .lt (.int x) (.int y) s = .ok (.bl (decide (x < y))) s := rfl
@[simp] theorem cmp_le : cmp .le (.int x) (.int y) s = .ok (.bl (decide (x ≤ y))) s := rfl
@[simp] theorem cmp_gt : cmp .gt (.int x) (.int y) s = .ok (.bl (decide (y < x))) s := rfl
@[simp] theorem cmp_ge : cmp .ge (.int x) (.int y) s = .ok (.bl (decide (y ≤ x))) s := rfl
theorem eqD_int : eqD s (.int x) (.int y) = some (decide (x = y)) := by
  show some (x == y) = _
  by_cases h : x = y <;> simp [h]
theorem eqD_str {a b : List Nat} : eqD s (.str a) (.str b) = some (decide (a = b)) := by
  show some (a == b) = _
  by_cases h : a = b <;> simp [h]
theorem cmp_eq_of {o : Bool} {u v : U} (h : eqD s u v = some o) : cmp .eq u v s = .ok (.bl o) s := by unfold cmp cmpO; rw [h]; rfl
theorem cmp_ne_of {o : Bool} {u v : U} (h : eqD s u v = some o) : cmp .ne u v s = .ok (.bl (!o)) s := by unfold cmp cmpO; rw [h]; rfl
@[simp] theorem cmp_eqI : cmp .eq (.int x) (.int y) s = .ok (.bl (decide (x = y))) s := cmp_eq_of eqD_int
@[simp] theorem cmp_neI : cmp .ne (.int x) (.int y) s = .ok (.bl (!decide (x = y))) s := cmp_ne_of eqD_int
@[simp] theorem cmp_eqS {a b : List Nat} : cmp .eq (.str a) (.str b) s = .ok (.bl (decide (a = b))) s := cmp_eq_of eqD_str
@[simp] theorem cmp_neS {a b : List Nat} : cmp .ne (.str a) (.str b) s = .ok (.bl (!decide (a = b))) s := cmp_ne_of eqD_str
@[simp] theorem cmp_eqB {a b : Bool} : cmp .eq (.bl a) (.bl b) s = .ok (.bl (decide (a = b))) s := by cases a <;> cases b <;> rfl
@[simp] theorem cmp_neB {a b : Bool} : cmp .ne (.bl a) (.bl b) s = .ok (.bl (!decide (a = b))) s := by cases a <;> cases b <;> rfl
/-- lists and tuples held against those of nothing -/
theorem cmp_eqL0 {a : List U} : cmp .eq (.lst a) (.lst []) s = .ok (.bl a.isEmpty) s := by
  cases a with
  | nil => rfl
  | cons x a => exact cmp_eq_of rfl
theorem cmp_neL0 {a : List U} : cmp .ne (.lst a) (.lst []) s = .ok (.bl (!a.isEmpty)) s := by
  cases a with
  | nil => rfl
  | cons x a => exact cmp_ne_of rfl
theorem cmp_eqT0 {a : List U} : cmp .eq (.tup a) (.tup []) s = .ok (.bl a.isEmpty) s := by
  cases a with
  | nil => rfl
  | cons x a => exact cmp_eq_of rfl
theorem cmp_neT0 {a : List U} : cmp .ne (.tup a) (.tup []) s = .ok (.bl (!a.isEmpty)) s := by
  cases a with
  | nil => rfl
  | cons x a => exact cmp_ne_of rfl
@[simp] theorem ix_tup {xs : List U} : opIx (.tup xs) (.int x) s = ofO (L2.atI xs x) s := rfl
@[simp] theorem ix_kl {xs : List U} : opIx (.kl xs) (.int x) s = ofO (L2.atI xs x) s := rfl
@[simp] theorem ix_lst {xs : List U} : opIx (.lst xs) (.int x) s = ofO (L2.atI xs x) s := rfl
@[simp] theorem ix_dctS {kvs : List (Ky × U)} {k : List Nat} : opIx (.dct kvs) (.str k) s = ofO (lookK kvs (.inr k)) s := rfl
@[simp] theorem ix_dctI {kvs : List (Ky × U)} : opIx (.dct kvs) (.int x) s = ofO (lookK kvs (.inl x)) s := rfl
theorem ix_objS {i : Nat} {k : List Nat} {kvs : List (Ky × U)} (h : s[i]? = some (.dct kvs)) : opIx (.obj i) (.str k) s = ofO (lookK kvs (.inr k)) s := by
  simp only [opIx, lst?, dct?, h, U.key]
@[simp] theorem len_str {z : List Nat} (h : z.length ≤ 16777216) : biF .len [.str z] s = .ok (.int z.length) s := if_pos h
@[simp] theorem len_tup {xs : List U} : biF .len [.tup xs] s = .ok (.int xs.length) s := rfl
@[simp] theorem len_lst {xs : List U} : biF .len [.lst xs] s = .ok (.int xs.length) s := rfl
@[simp] theorem len_kl {xs : List U} : biF .len [.kl xs] s = .ok (.int xs.length) s := rfl
@[simp] theorem bi_abs : biF .abs [.int x] s = .ok (.int (if x < 0 then -x else x)) s := rfl
@[simp] theorem bi_intB {b : Bool} : biF .int [.bl b] s = .ok (.int (if b then 1 else 0)) s := rfl
@[simp] theorem bi_intI : biF .int [.int x] s = .ok (.int x) s := rfl
@[simp] theorem bi_tupL {xs : List U} : biF .tuple [.lst xs] s = .ok (.tup xs) s := rfl
@[simp] theorem bi_tupT {xs : List U} : biF .tuple [.tup xs] s = .ok (.tup xs) s := rfl
@[simp] theorem bi_lstL {xs : List U} : biF .list [.lst xs] s = .ok (.lst xs) s := rfl
@[simp] theorem bi_lstK {xs : List U} : biF .list [.kl xs] s = .ok (.lst xs) s := rfl
@[simp] theorem bi_lstT {xs : List U} : biF .list [.tup xs] s = .ok (.lst xs) s := rfl
@[simp] theorem bi_min : biF .min [.int x, .int y] s = .ok (.int (if y < x then y else x)) s := rfl
@[simp] theorem bi_max : biF .max [.int x, .int y] s = .ok (.int (if y > x then y else x)) s := rfl
theorem bi_divmod (h : 0 < y) (k : y < 1073741824) : biF .divmod [.int x, .int y] s = .ok (.tup [.int (x / y), .int (x % y)]) s := if_pos ⟨h, k⟩
theorem bls_map (bs : List Bool) : bls? (bs.map .bl) = some bs := by
  induction bs with
  | nil => rfl
  | cons b bs ih => simp only [List.map_cons, bls?, ih]; rfl
theorem ints_map (bs : List Int) : ints? (bs.map .int) = some bs := by
  induction bs with
  | nil => rfl
  | cons b bs ih => simp only [List.map_cons, ints?, ih]; rfl
theorem strs_map (bs : List (List Nat)) : strs? (bs.map .str) = some bs := by
  induction bs with
  | nil => rfl
  | cons b bs ih => simp only [List.map_cons, strs?, ih]; rfl
@[simp] theorem bi_all {bs : List Bool} : biF .all [.lst (bs.map .bl)] s = .ok (.bl (bs.all id)) s := by
  show (match (lst? s (.lst (bs.map .bl))).bind bls? with | some bs => _ | none => _) = _
  simp only [lst?, Option.bind_some, bls_map]
@[simp] theorem bi_any {bs : List Bool} : biF .any [.lst (bs.map .bl)] s = .ok (.bl (bs.any id)) s := by
  show (match (lst? s (.lst (bs.map .bl))).bind bls? with | some bs => _ | none => _) = _
  simp only [lst?, Option.bind_some, bls_map]
@[simp] theorem bi_sum {bs : List Int} : biF .sum [.lst (bs.map .int)] s = .ok (.int bs.sum) s := by
  show (match (lst? s (.lst (bs.map .int))).bind ints? with | some bs => _ | none => _) = _
  simp only [lst?, Option.bind_some, ints_map]
theorem bi_repr {u : U} (h : u.fine = true) (k : u.dep ≤ 39) (b : u.blk ≤ 200000) : biF .repr [u] s = .ok (.str (rp u)) s := if_pos ⟨h, k, b⟩
@[simp] theorem src_tup {xs : List U} : srcOf (.tup xs) s = .ok ⟨xs, none⟩ s := rfl
@[simp] theorem src_lst {xs : List U} : srcOf (.lst xs) s = .ok ⟨xs, none⟩ s := rfl
@[simp] theorem src_kl {xs : List U} : srcOf (.kl xs) s = .ok ⟨xs, none⟩ s := rfl
@[simp] theorem src_str {z : List Nat} : srcOf (.str z) s = .ok ⟨z.map fun c => .str [c], none⟩ s := rfl
@[simp] theorem sl_tup {xs : List U} {lo hi : Option Int} : opSl (.tup xs) lo hi s = .ok (.tup (cut xs lo hi)) s := rfl
@[simp] theorem sl_lst {xs : List U} {lo hi : Option Int} : opSl (.lst xs) lo hi s = .ok (.lst (cut xs lo hi)) s := rfl
@[simp] theorem sl_kl {xs : List U} {lo hi : Option Int} : opSl (.kl xs) lo hi s = .ok (.lst (cut xs lo hi)) s := rfl
@[simp] theorem rev_tup {xs : List U} : opRev (.tup xs) s = .ok (.tup xs.reverse) s := rfl
@[simp] theorem rev_lst {xs : List U} : opRev (.lst xs) s = .ok (.lst xs.reverse) s := rfl
@[simp] theorem oInt_nil {f : Lo → Sto → R U} {l : Lo} : oInt .nil f l s = .ok none s := rfl
@[simp] theorem mt_append {zs : List U} {u : U} (h : zs.length < 16777216) : mtL s .append zs [u] = some (.non, zs ++ [u]) := if_pos h
@[simp] theorem mt_reverse {zs : List U} : mtL s .reverse zs [] = some (.non, zs.reverse) := rfl
@[simp] theorem mt_extend {zs ys : List U} (h : zs.length + ys.length ≤ 16777216) : mtL s .extend zs [.lst ys] = some (.non, zs ++ ys) := if_pos h
end
theorem oInt_of {e : Ex} {f : Lo → Sto → R U} {l : Lo} {s : Sto} (h : isNil e = false) : oInt e f l s = (f l s).bind fun d s1 => match d with | .int i => .ok (some i) s1 | _ => .bad := by
  cases e <;> first | rfl | cases h
theorem rgOkI {a b : Int} (h : -1000000000 ≤ a) (h1 : a ≤ 1000000000) (h2 : -1000000000 ≤ b) (h3 : b ≤ 1000000000) : rgOk a b = true := by
  unfold rgOk; rw [decide_eq_true_eq]; exact ⟨h, h1, h2, h3⟩
theorem rng_len {a b : Int} : (rng a b).length = (b - a).toNat := by unfold rng; simp
theorem rng_get {a b : Int} {k : Nat} {d : U} (h : (rng a b)[k]? = some d) : d = .int (a + k) ∧ a + k < b := by
  unfold rng at h
  rw [List.getElem?_map, Option.map_eq_some_iff] at h
  obtain ⟨j, e, rfl⟩ := h
  obtain ⟨hk, e⟩ := List.getElem?_eq_some_iff.mp e
  simp at e hk
  subst e
  exact ⟨rfl, by omega⟩
/-! loops -/
theorem forL_post {src : Src} {t : U → Lo → Option Lo} {b : Lo → Sto → R (Fl × Lo)} {Q : Fl × Lo → Sto → Prop} {E : U → Sto → Prop} (I : Nat → Lo → Sto → Prop)
    (hsrc : ∀ k l s, I k l s → src.ok s = true) : ∀ (its : List U) (k0 : Nat) (l : Lo) (s : Sto),
    (∀ k d l s, its[k]? = some d → I (k0 + k) l s → ∃ l1, t d l = some l1 ∧ (b l1 s).post (fun r s2 => match r.1 with | .nx => I (k0 + k + 1) r.2 s2 | .cnt => I (k0 + k + 1) r.2 s2 | .brk => Q (.nx, r.2) s2 | .ret o v => Q (.ret o v, r.2) s2) E) →
    (∀ l s, I (k0 + its.length) l s → Q (.nx, l) s) → I k0 l s → (forL src t b its l s).post Q E
  | [], k0, l, s, _, fin, h => by
    unfold forL
    rw [if_pos (hsrc _ _ _ h)]
    exact fin l s h
  | d :: ds, k0, l, s, step, fin, h => by
    unfold forL
    obtain ⟨l1, e1, h1⟩ := step 0 d l s rfl h
    rw [if_pos (hsrc _ _ _ h), e1, ofO_some, R.bind_ok, R.post_bind]
    refine R.post_mono h1 (fun r s2 h2 => ?_) fun _ _ k => k
    have next : ∀ l s, I (k0 + 1) l s → (forL src t b ds l s).post Q E := fun l s h => forL_post I hsrc ds (k0 + 1) l s
      (fun k d l s e i => by
        have := step (k + 1) d l s (by simpa using e) (by rw [show k0 + (k + 1) = k0 + 1 + k by omega]; exact i)
        rw [show k0 + (k + 1) = k0 + 1 + k by omega] at this
        exact this) (fun l s i => fin l s (by rw [List.length_cons, show k0 + (ds.length + 1) = k0 + 1 + ds.length by omega]; exact i)) h
    obtain ⟨fl, l2⟩ := r
    cases fl with
    | nx => exact next _ _ h2
    | cnt => exact next _ _ h2
    | brk => exact h2
    | ret o v => exact h2
/-- a for over what can't change: I what holds ahead of each turn -/
theorem for_post {its : List U} {t : U → Lo → Option Lo} {b : Lo → Sto → R (Fl × Lo)} {Q : Fl × Lo → Sto → Prop} {E : U → Sto → Prop} (I : Nat → Lo → Sto → Prop) {l : Lo} {s : Sto}
    (step : ∀ k d l s, its[k]? = some d → I k l s → ∃ l1, t d l = some l1 ∧ (b l1 s).post (fun r s2 => match r.1 with | .nx => I (k + 1) r.2 s2 | .cnt => I (k + 1) r.2 s2 | .brk => Q (.nx, r.2) s2 | .ret o v => Q (.ret o v, r.2) s2) E)
    (fin : ∀ l s, I its.length l s → Q (.nx, l) s) (h : I 0 l s) : (forL ⟨its, none⟩ t b its l s).post Q E :=
  forL_post I (fun _ _ _ _ => rfl) its 0 l s (fun k d l s e i => by simpa using step k d l s e (by simpa using i)) (fun l s i => fin l s (by simpa using i)) h
theorem whL_post {c : Lo → Sto → R Bool} {b : Lo → Sto → R (Fl × Lo)} {Q : Fl × Lo → Sto → Prop} {E : U → Sto → Prop} (I : Nat → Lo → Sto → Prop)
    (step : ∀ n l s, I n l s → (c l s).post (fun k s1 => if k = true then (b l s1).post (fun r s2 => match r.1 with | .nx => ∃ m, m < n ∧ I m r.2 s2 | .cnt => ∃ m, m < n ∧ I m r.2 s2 | .brk => Q (.nx, r.2) s2 | .ret o v => Q (.ret o v, r.2) s2) E else Q (.nx, l) s1) E) :
    ∀ (fuel n : Nat) (l : Lo) (s : Sto), n < fuel → I n l s → (whL c b fuel l s).post Q E
  | 0, n, l, s, h, _ => by omega
  | fuel + 1, n, l, s, h, i => by
    unfold whL
    rw [R.post_bind]
    refine R.post_mono (step n l s i) (fun k s1 h1 => ?_) fun _ _ k => k
    cases k with
    | false => rw [if_neg (by decide)] at h1 ⊢; exact h1
    | true =>
      rw [if_pos rfl] at h1 ⊢
      rw [R.post_bind]
      refine R.post_mono h1 (fun r s2 h2 => ?_) fun _ _ k => k
      obtain ⟨fl, l2⟩ := r
      cases fl with
      | nx => obtain ⟨m, hm, i2⟩ := h2; exact whL_post I step fuel m _ _ (by omega) i2
      | cnt => obtain ⟨m, hm, i2⟩ := h2; exact whL_post I step fuel m _ _ (by omega) i2
      | brk => exact h2
      | ret o v => exact h2
theorem while_post {cl : Cl} {c b : Ex} {Q : Fl × Lo → Sto → Prop} {E : U → Sto → Prop} {l : Lo} {s : Sto} (I : Nat → Lo → Sto → Prop) (n : Nat) (hn : n < 1000000) (h : I n l s)
    (step : ∀ n l s, I n l s → (((sem cl c).p l s).bind asB).post (fun k s1 => if k = true then ((sem cl b).s l s1).post (fun r s2 => match r.1 with | .nx => ∃ m, m < n ∧ I m r.2 s2 | .cnt => ∃ m, m < n ∧ I m r.2 s2 | .brk => Q (.nx, r.2) s2 | .ret o v => Q (.ret o v, r.2) s2) E else Q (.nx, l) s1) E) :
    ((sem cl (.swh c b)).s l s).post Q E := by
  rw [ys_swh]
  exact whL_post I step whFuel n l s hn h
/-! comprehensions -/
theorem noexPost {α : Type} {r : R α} {Q : α → Sto → Prop} {E : U → Sto → Prop} (h : r.post Q fun _ _ => False) : r.noex.post Q E := by
  cases r with
  | ok a s => exact h
  | ex => exact h.elim
  | bad => exact h.elim
/-- of what each turn tells the same, changing nothing: g tells the item -/
theorem comL_map {src : Src} {l : Lo} {t : U → Lo → Option Lo} {c : Lo → Sto → R Bool} {e : Lo → Sto → R U} {s : Sto} (g : U → U) (hs : src.grd = none) : ∀ (its : List U),
    (∀ d ∈ its, ∃ l1, t d l = some l1 ∧ c l1 s = .ok true s ∧ e l1 s = .ok (g d) s) → comL src l t c e its s = .ok (its.map g) s
  | [], _ => by
    unfold comL
    rw [if_pos (by unfold Src.ok; rw [hs])]; rfl
  | d :: ds, h => by
    obtain ⟨l1, h1, h2, h3⟩ := h d List.mem_cons_self
    unfold comL
    rw [if_pos (by unfold Src.ok; rw [hs]), h1, ofO_some, R.bind_ok, h2, R.bind_ok, if_pos rfl, h3, R.bind_ok, comL_map g hs ds fun x hx => h x (List.mem_cons_of_mem _ hx)]
    rfl
/-- .. of those that f lets by -/
theorem comL_filter {src : Src} {l : Lo} {t : U → Lo → Option Lo} {c : Lo → Sto → R Bool} {e : Lo → Sto → R U} {s : Sto} (f : U → Bool) (g : U → U) (hs : src.grd = none) : ∀ (its : List U),
    (∀ d ∈ its, ∃ l1, t d l = some l1 ∧ c l1 s = .ok (f d) s ∧ (f d = true → e l1 s = .ok (g d) s)) → comL src l t c e its s = .ok ((its.filter f).map g) s
  | [], _ => by
    unfold comL
    rw [if_pos (by unfold Src.ok; rw [hs])]; rfl
  | d :: ds, h => by
    obtain ⟨l1, h1, h2, h3⟩ := h d List.mem_cons_self
    have ih := comL_filter f g hs ds fun x hx => h x (List.mem_cons_of_mem _ hx)
    unfold comL
    rw [if_pos (by unfold Src.ok; rw [hs]), h1, ofO_some, R.bind_ok, h2, R.bind_ok]
    cases hf : f d with
    | true => rw [if_pos rfl, h3 hf, R.bind_ok, ih, List.filter_cons_of_pos hf]; rfl
    | false => rw [if_neg (by decide), ih, List.filter_cons_of_neg (by rw [hf]; decide)]
theorem comp_map {cl : Cl} {e it : Ex} {v : Nat} {own : List Nat} {l l0 : Lo} {s : Sto} {its : List U} (g : U → U) (hit : (sem cl it).wp l s = .ok ⟨its, none⟩ s) (hl0 : wipe l own = l0) (hn : its.length ≤ 16777216)
    (h : ∀ d ∈ its, (sem cl e).e (l0.set v (.val d)) s = .ok (g d) s) : (sem cl (.comp e (.tv v) it .nil own)).e l s = .ok (.lst (its.map g)) s := by
  rw [ye_comp, hit, R.bind_ok, hl0]
  show ((comL ⟨its, none⟩ l0 (sem cl (.tv v)).tn (fun _ s => R.ok true s) (sem cl e).e its s).noex.bind _) = _
  rw [comL_map (t := (sem cl (.tv v)).tn) g rfl its fun d hd => ⟨_, rfl, rfl, h d hd⟩, R.noex_ok, R.bind_ok, if_pos (by rw [List.length_map]; exact hn)]
theorem comp_filter {cl : Cl} {e it c : Ex} {v : Nat} {own : List Nat} {l l0 : Lo} {s : Sto} {its : List U} (f : U → Bool) (g : U → U) (hit : (sem cl it).wp l s = .ok ⟨its, none⟩ s) (hl0 : wipe l own = l0) (hn : its.length ≤ 16777216) (hc : isNil c = false)
    (h : ∀ d ∈ its, ((sem cl c).p (l0.set v (.val d)) s).bind asB = .ok (f d) s ∧ (f d = true → (sem cl e).e (l0.set v (.val d)) s = .ok (g d) s)) : (sem cl (.comp e (.tv v) it c own)).e l s = .ok (.lst ((its.filter f).map g)) s := by
  rw [ye_comp, hit, R.bind_ok, hl0, if_neg (by rw [hc]; decide)]
  rw [comL_filter (t := (sem cl (.tv v)).tn) f g rfl its fun d hd => ⟨_, rfl, h d hd⟩, R.noex_ok, R.bind_ok, if_pos (by rw [List.length_map]; exact Nat.le_trans (List.length_filter_le _ _) hn)]
/-- of turns that change the store: I what holds ahead of each turn, P what each item is -/
theorem comL_post {src : Src} {l : Lo} {t : U → Lo → Option Lo} {c : Lo → Sto → R Bool} {e : Lo → Sto → R U} {Q : List U → Sto → Prop} {E : U → Sto → Prop} (I : Nat → Sto → Prop) (P : Nat → U → Prop) (hs : src.grd = none) : ∀ (its : List U) (k0 : Nat) (s : Sto),
    (∀ k d s, its[k]? = some d → I (k0 + k) s → ∃ l1, t d l = some l1 ∧ (∀ s, c l1 s = .ok true s) ∧ (e l1 s).post (fun y s2 => P (k0 + k) y ∧ I (k0 + k + 1) s2) E) →
    (∀ ys s, ys.length = its.length → (∀ k y, ys[k]? = some y → P (k0 + k) y) → I (k0 + its.length) s → Q ys s) → I k0 s → (comL src l t c e its s).post Q E
  | [], k0, s, _, fin, h => by
    unfold comL
    rw [if_pos (by unfold Src.ok; rw [hs])]
    exact fin [] s rfl (fun k y e => by simp at e) h
  | d :: ds, k0, s, step, fin, h => by
    unfold comL
    obtain ⟨l1, e1, e2, e3⟩ := step 0 d s rfl h
    rw [if_pos (by unfold Src.ok; rw [hs]), e1, ofO_some, R.bind_ok, e2, R.bind_ok, if_pos rfl, R.post_bind]
    refine R.post_mono e3 (fun y s2 h2 => ?_) fun _ _ k => k
    rw [R.post_bind]
    refine comL_post I P hs ds (k0 + 1) s2 (fun k d s e i => ?_) (fun ys s hl hp i => ?_) h2.2
    · have := step (k + 1) d s (by simpa using e) (by rw [show k0 + (k + 1) = k0 + 1 + k by omega]; exact i)
      rw [show k0 + (k + 1) = k0 + 1 + k by omega] at this
      exact this
    · refine fin (y :: ys) s (by simp [hl]) (fun k z e => ?_) (by rw [List.length_cons, show k0 + (ds.length + 1) = k0 + 1 + ds.length by omega]; exact i)
      cases k with
      | zero => cases e; exact h2.1
      | succ k =>
        have := hp k z (by simpa using e)
        rw [show k0 + (k + 1) = k0 + 1 + k by omega]
        exact this
theorem comp_post {cl : Cl} {e it : Ex} {v : Nat} {own : List Nat} {l l0 : Lo} {s s1 : Sto} {its : List U} {Q : U → Sto → Prop} {E : U → Sto → Prop} (I : Nat → Sto → Prop) (P : Nat → U → Prop) (hit : (sem cl it).wp l s = .ok ⟨its, none⟩ s1) (hl0 : wipe l own = l0) (hn : its.length ≤ 16777216)
    (step : ∀ k d s, its[k]? = some d → I k s → ((sem cl e).e (l0.set v (.val d)) s).post (fun y s2 => P k y ∧ I (k + 1) s2) fun _ _ => False)
    (fin : ∀ ys s, ys.length = its.length → (∀ k y, ys[k]? = some y → P k y) → I its.length s → Q (.lst ys) s) (h : I 0 s1) : ((sem cl (.comp e (.tv v) it .nil own)).e l s).post Q E := by
  rw [ye_comp, hit, R.bind_ok, hl0, R.post_bind]
  refine noexPost (comL_post I P rfl its 0 s1 (fun k d s e i => ⟨_, rfl, fun _ => rfl, by simpa using step k d s e (by simpa using i)⟩) (fun ys s hl hp i => ?_) h)
  show (if ys.length ≤ line then R.ok (U.lst ys) s else .bad).post Q E
  rw [if_pos (by rw [hl]; exact hn)]
  exact fin ys s hl (fun k y e => by simpa using hp k y e) (by simpa using i)
end Y

/-! YPm: what the further terms come to. -/
namespace Y
open PySem
open Z (Ky Bop Cop Bi Ty Mt Ex Fn line big fuel whFuel rgOk rgN joinD upA cut isNil)
section
variable {cl : Cl} {a o k d e : Ex} {l : Lo} {s : Sto} {i : Nat} {ts : List Ty} {kvs : List (Ky × U)} {x y z : U} {xs : List U}
@[simp] theorem ye_get1 : (sem cl (.get1 o k)).e l s = ((sem cl o).p l s).bind fun x s1 => if (dct? s1 x).isSome = true then ((sem cl k).p l s1).bind fun y s2 => getD x y .non s2 else .bad := rfl
@[simp] theorem yp_get1 : (sem cl (.get1 o k)).p l s = (sem cl (.get1 o k)).e l s := rfl
@[simp] theorem yx_get1 : (sem cl (.get1 o k)).x l s = ((sem cl (.get1 o k)).e l s).bind fun u s1 => .ok ((false, u), l) s1 := rfl
@[simp] theorem ye_get2 : (sem cl (.get2 o k d)).e l s = ((sem cl o).p l s).bind fun x s1 => if (dct? s1 x).isSome = true then ((sem cl k).p l s1).bind fun y s2 => ((sem cl d).e l s2).bind fun z s3 => getD x y z s3 else .bad := rfl
@[simp] theorem yp_get2 : (sem cl (.get2 o k d)).p l s = (sem cl (.get2 o k d)).e l s := rfl
@[simp] theorem yx_get2 : (sem cl (.get2 o k d)).x l s = ((sem cl (.get2 o k d)).e l s).bind fun u s1 => .ok ((false, u), l) s1 := rfl
@[simp] theorem ye_lsI : (sem cl (.lsI a)).e l s = ((sem cl a).p l s).bind fun x s1 => (match dct? s1 x with
      | some kvs => .ok (.lst (kvs.map fun kv => .tup [keyU kv.1, kv.2])) s1
      | none => .bad) := rfl
@[simp] theorem yp_lsI : (sem cl (.lsI a)).p l s = (sem cl (.lsI a)).e l s := rfl
@[simp] theorem yx_lsI : (sem cl (.lsI a)).x l s = ((sem cl (.lsI a)).e l s).bind fun u s1 => .ok ((true, u), l) s1 := rfl
@[simp] theorem ye_isiM : (sem cl (.isiM a ts)).e l s = ((sem cl a).p l s).bind fun x s1 => (match isTys x s1 ts with
      | some bs => if 0 < ts.length ∧ ts.length ≤ 20 then .ok (.bl (bs.any id)) s1 else .bad
      | none => .bad) := rfl
@[simp] theorem yp_isiM : (sem cl (.isiM a ts)).p l s = (sem cl (.isiM a ts)).e l s := rfl
@[simp] theorem yx_isiM : (sem cl (.isiM a ts)).x l s = ((sem cl (.isiM a ts)).e l s).bind fun u s1 => .ok ((false, u), l) s1 := rfl
theorem ye_lockE : (sem cl (.lockE i a)).e l s = match l[i]? with
      | some (.own (.dct kvs)) => ((sem cl a).e (hideL l i kvs) s).noex
      | _ => .bad := rfl
theorem ye_lock (h : l[i]? = some (.own (.dct kvs))) : (sem cl (.lockE i a)).e l s = ((sem cl a).e (hideL l i kvs) s).noex := by rw [ye_lockE, h]
@[simp] theorem yp_lockE : (sem cl (.lockE i a)).p l s = (sem cl (.lockE i a)).e l s := rfl
@[simp] theorem yx_lockE : (sem cl (.lockE i a)).x l s = ((sem cl (.lockE i a)).e l s).bind fun u s1 => .ok ((false, u), l) s1 := rfl
@[simp] theorem yw_itE : (sem cl (.itE e)).w l s = ((sem cl e).e l s).bind srcEn := rfl
@[simp] theorem yv_itE : (sem cl (.itE e)).wp l s = ((sem cl e).p l s).bind srcEn := rfl
theorem yv_itK (h : l[i]? = some (.lk (.dct kvs))) : (sem cl (.itK i)).wp l s = .ok ⟨kvs.map fun kv => keyU kv.1, none⟩ s := by
  show (match l[i]? with | some (.lk (.dct kvs)) => _ | _ => _) = _
  rw [h]
@[simp] theorem en_tup : srcEn (.tup xs) s = .ok ⟨enumU 0 xs, none⟩ s := rfl
@[simp] theorem en_lst : srcEn (.lst xs) s = .ok ⟨enumU 0 xs, none⟩ s := rfl
@[simp] theorem dct_dct : dct? s (.dct kvs) = some kvs := rfl
@[simp] theorem getD_S {k : List Nat} : getD (.dct kvs) (.str k) z s = .ok ((lookK kvs (.inr k)).getD z) s := rfl
@[simp] theorem getD_I {k : Int} : getD (.dct kvs) (.int k) z s = .ok ((lookK kvs (.inl k)).getD z) s := rfl
theorem enumU_get : ∀ {xs : List U} {m n : Nat} {d : U}, (enumU m xs)[n]? = some d → ∃ x, xs[n]? = some x ∧ d = .tup [.int ((m + n : Nat)), x]
  | [], _, _, _, h => by simp [enumU] at h
  | x :: xs, m, 0, d, h => by
    simp only [enumU, List.getElem?_cons_zero, Option.some.injEq] at h
    exact ⟨x, rfl, h.symm⟩
  | x :: xs, m, n + 1, d, h => by
    simp only [enumU, List.getElem?_cons_succ] at h
    obtain ⟨y, h1, h2⟩ := enumU_get h
    exact ⟨y, by simpa using h1, by rw [h2]; congr 3; omega⟩
theorem enumU_len : ∀ (xs : List U) (m : Nat), (enumU m xs).length = xs.length
  | [], _ => rfl
  | x :: xs, m => by simp [enumU, enumU_len xs]
end
end Y

/-! YDraw: the laws' pen and their draws, in the plain layer. -/
namespace Y
open PySem
open Z (Ky Ex Fn line)
def b_law_pen : Ex := (.cons (.new (.ret (.dct [.inr [99, 101, 108, 108, 115], .inr [97, 116], .inr [108, 101, 102, 116]] (.cons (.bi .list (.cons (.sl (.var 0) .nil (.int 63)) .nil)) (.cons (.int 0) (.cons (.int 0) .nil)))))) .nil)
def b_law_draw_8 : Ex := (.cons (.ret (.bin .mod (.bin .div (.var 7) (.int 32)) (.var 1))) .nil)
def b_law_draw_7 : Ex := (.cons (.asg (.tv 7) (.bin .mod (.bin .pow (.bin .add (.bin .mul (.var 6) (.bin .add (.var 3) (.int 65551))) (.bin .mul (.bin .mul (.int 86291) (.var 3)) (.var 3))) (.int 3)) (.int 2147483477))) b_law_draw_8)
def b_law_draw_6 : Ex := (.cons (.asg (.tv 6) (.bin .mod (.bin .pow (.bin .add (.bin .add (.bin .mod (.var 4) (.int 2147483587)) (.bin .mul (.int 70913) (.var 3))) (.int 53)) (.int 5)) (.int 2147483647))) b_law_draw_7)
def b_law_draw_5a_2 : Ex := (.cons (.ret (.bin .mod (.var 5) (.var 1))) .nil)
def b_law_draw_5a_1 : Ex := (.cons (.asg (.tix (.var 0) (.str [108, 101, 102, 116])) (.bin .div (.var 5) (.var 1))) b_law_draw_5a_2)
def b_law_draw_5a_0 : Ex := (.cons (.asg (.tv 5) (.bin .add (.bin .mul (.int 2) (.bi .abs (.cons (.var 4) .nil))) (.bi .int (.cons (.cmp .lt (.var 4) (.int 0)) .nil)))) b_law_draw_5a_1)
def b_law_draw_5 : Ex := (.cons (.sif (.and (.cmp .lt (.var 3) (.bi .len (.cons (.ix (.var 0) (.str [99, 101, 108, 108, 115])) .nil))) (.one (.cmp .ge (.bi .abs (.cons (.var 4) .nil)) (.bin .pow (.int 10) (.int 18))))) b_law_draw_5a_0 .nil) b_law_draw_6)
def b_law_draw_4 : Ex := (.cons (.sif (.cmp .ne (.ix (.var 0) (.str [99, 101, 108, 108, 115])) (.lst .nil)) (.cons (.asg (.tv 4) (.ix (.ix (.var 0) (.str [99, 101, 108, 108, 115])) (.bin .mod (.var 3) (.bi .len (.cons (.ix (.var 0) (.str [99, 101, 108, 108, 115])) .nil))))) .nil) .nil) b_law_draw_5)
def b_law_draw_3 : Ex := (.cons (.asg (.tv 4) (.bin .add (.bin .mul (.int 1877) (.var 3)) (.int 509))) b_law_draw_4)
def b_law_draw_2 : Ex := (.cons (.asg (.tix (.var 0) (.str [97, 116])) (.bin .add (.var 3) (.int 1))) b_law_draw_3)
def b_law_draw_1 : Ex := (.cons (.asg (.tv 3) (.ix (.var 0) (.str [97, 116]))) b_law_draw_2)
def b_law_draw_0a_2 : Ex := (.cons (.ret (.var 2)) .nil)
def b_law_draw_0a_1 : Ex := (.cons (.asg (.tix (.var 0) (.str [108, 101, 102, 116])) (.bin .div (.ix (.var 0) (.str [108, 101, 102, 116])) (.var 1))) b_law_draw_0a_2)
def b_law_draw_0a_0 : Ex := (.cons (.asg (.tv 2) (.bin .mod (.ix (.var 0) (.str [108, 101, 102, 116])) (.var 1))) b_law_draw_0a_1)
def b_law_draw_0 : Ex := (.cons (.sif (.cmp .gt (.ix (.var 0) (.str [108, 101, 102, 116])) (.int 0)) b_law_draw_0a_0 .nil) b_law_draw_1)
abbrev kCells : Ky := .inr [99, 101, 108, 108, 115]
abbrev kAt : Ky := .inr [97, 116]
abbrev kLeft : Ky := .inr [108, 101, 102, 116]
/-- the pen's dict -/
def pen (ns : List Int) (at_ : Nat) (left : Int) (rest : List (Ky × U)) : List (Ky × U) := (kCells, .lst (ns.map .int)) :: (kAt, .int at_) :: (kLeft, .int left) :: rest
/-- the store: the pen, asked at most a times; what else the pen's dict has; what else the store has -/
def Pen (rest : List (Ky × U)) (tl : Sto) (a : Nat) (s : Sto) : Prop := ∃ (ns : List Int) (at_ : Nat) (left : Int), s = .dct (pen ns at_ left rest) :: tl ∧ at_ ≤ a
theorem Pen.le {rest : List (Ky × U)} {tl : Sto} {a b : Nat} {s : Sto} (h : Pen rest tl a s) (k : a ≤ b) : Pen rest tl b s := by
  obtain ⟨ns, t, l, h1, h2⟩ := h
  exact ⟨ns, t, l, h1, by omega⟩
/-- the keys of the pen that draws ask for stand ahead -/
def RestOk (rest : List (Ky × U)) : Prop := ∀ kv ∈ rest, kv.1 ≠ kCells ∧ kv.1 ≠ kAt ∧ kv.1 ≠ kLeft
section
variable {ns : List Int} {t : Nat} {left : Int} {rest : List (Ky × U)} {v : U}
@[simp] theorem pen_cells : lookK (pen ns t left rest) kCells = some (.lst (ns.map .int)) := rfl
@[simp] theorem pen_at : lookK (pen ns t left rest) kAt = some (.int t) := rfl
@[simp] theorem pen_left : lookK (pen ns t left rest) kLeft = some (.int left) := rfl
theorem map_keep {rest : List (Ky × U)} {k : Ky} {v : U} (h : ∀ kv ∈ rest, kv.1 ≠ k) : rest.map (fun kv => if kv.1 = k then (kv.1, v) else kv) = rest := by
  induction rest with
  | nil => rfl
  | cons x xs ih =>
    rw [List.map_cons, ih fun kv hkv => h kv (List.mem_cons_of_mem _ hkv), if_neg (h x List.mem_cons_self)]
theorem put_at (h : RestOk rest) {n : Nat} : putK (pen ns t left rest) kAt (.int n) = pen ns n left rest := by
  unfold putK
  rw [if_pos (by simp [pen])]
  have := map_keep (v := .int n) fun kv hkv => (h kv hkv).2.1
  simp only [pen, List.map_cons, this]
  rfl
theorem put_left (h : RestOk rest) {n : Int} : putK (pen ns t left rest) kLeft (.int n) = pen ns t n rest := by
  unfold putK
  rw [if_pos (by simp [pen])]
  have := map_keep (v := .int n) fun kv hkv => (h kv hkv).2.2
  simp only [pen, List.map_cons, this]
  rfl
end
theorem st0 {kvs : List (Ky × U)} {tl : Sto} {k : List Nat} {v : U} (h : kvs.length < 16777216) : stIx (.obj 0) (.str k) v (.dct kvs :: tl) = .ok () (.dct (putK kvs (.inr k) v) :: tl) := by
  show putO 0 ((some (MO.dct kvs)).bind fun m => setI m.toU (.str k) v) _ = _
  simp only [Option.bind_some, MO.toU, setI, U.key, if_pos (show kvs.length < line from h), putO, U.toMO]
  rfl
theorem ix0 {kvs : List (Ky × U)} {tl : Sto} {k : List Nat} : opIx (.obj 0) (.str k) (.dct kvs :: tl) = ofO (lookK kvs (.inr k)) (.dct kvs :: tl) := rfl
/-- what a draw tells -/
def DrawQ (rest : List (Ky × U)) (tl : Sto) (a : Nat) (m : Int) (r : Fl × Lo) (s1 : Sto) : Prop := ∃ v, r.1 = .ret true (.int v) ∧ 0 ≤ v ∧ v < m ∧ Pen rest tl (a + 1) s1
def DrawR (rest : List (Ky × U)) (tl : Sto) (a : Nat) (m : Int) (r : Fl × Lo) (s1 : Sto) : Prop := ∃ o v, r.1 = .ret o (.int v) ∧ 0 ≤ v ∧ v < m ∧ Pen rest tl (a + 1) s1
theorem pow18 {s : Sto} : bin .pow (.int 10) (.int 18) s = .ok (.int 1000000000000000000) s := by
  rw [bin_pow (by omega) (by omega) (by decide)]
  have : (10 : Int) ^ (18 : Int).toNat = 1000000000000000000 := by simp
  rw [this]
theorem pow5 {s : Sto} {x : Int} (h : x.natAbs < 18446744073709551616) : bin .pow (.int x) (.int 5) s = .ok (.int (x ^ 5)) s := bin_pow (by omega) (by omega) h
theorem pow3 {s : Sto} {x : Int} (h : x.natAbs < 18446744073709551616) : bin .pow (.int x) (.int 3) s = .ok (.int (x ^ 3)) s := bin_pow (by omega) (by omega) h
section
variable {cl : Cl} {a : Nat} {m : Int} {s s2 : Sto} {E : U → Sto → Prop} {ns : List Int} {left : Int} {rest : List (Ky × U)} {tl : Sto}
theorem draw_last {t : Int} (h0 : 0 ≤ t) (ha : t ≤ 10000000) (hm : 0 < m) (hb : m < 18446744073709551616) (c : Int) (hp : Pen rest tl (a + 1) s2) :
    ((sem cl b_law_draw_6).s [.val (.obj 0), .val (.int m), .no, .val (.int t), .val (.int c), .no, .no, .no] s2).post (DrawR rest tl a m) E := by
  unfold b_law_draw_6
  refine seq_post ?_
  have b1 : 0 ≤ c % 2147483587 := Int.emod_nonneg _ (by decide)
  have b2 : c % 2147483587 < 2147483587 := Int.emod_lt_of_pos _ (by decide)
  simp [bin_mulL, bin_mod]
  rw [pow5 (by omega)]
  simp [bin_mod]
  generalize hu : (c % 2147483587 + 70913 * t + 53) ^ 5 % 2147483647 = u
  have b3 : 0 ≤ u := hu ▸ Int.emod_nonneg _ (by decide)
  have b4 : u < 2147483647 := hu ▸ Int.emod_lt_of_pos _ (by decide)
  clear hu
  unfold b_law_draw_7
  refine seq_post ?_
  have b5 : u * (t + 65551) ≤ 2147483647 * 10065551 := Int.mul_le_mul (by omega) (by omega) (by omega) (by omega)
  have b6 : 0 ≤ u * (t + 65551) := Int.mul_nonneg b3 (by omega)
  have b7 : (86291 * t) * t ≤ (86291 * 10000000) * 10000000 := Int.mul_le_mul (by omega) (by omega) (by omega) (by omega)
  have b8 : 0 ≤ (86291 * t) * t := Int.mul_nonneg (by omega) (by omega)
  have c1 : bin .mul (.int u) (.int (t + 65551)) s2 = .ok (.int (u * (t + 65551))) s2 := bin_mulL (by omega) (by omega)
  have c2 : bin .mul (.int (86291 * t)) (.int t) s2 = .ok (.int (86291 * t * t)) s2 := bin_mulL (by omega) (by omega)
  have c0 : bin .mul (.int 86291) (.int t) s2 = .ok (.int (86291 * t)) s2 := bin_mulL (by omega) (by omega)
  simp [c0, c1, c2]
  rw [pow3 (by omega)]
  simp [bin_mod]
  unfold b_law_draw_8
  refine seq_post ?_
  simp [bin_div, bin_mod hm]
  exact ⟨_, _, rfl, Int.emod_nonneg _ (by omega), Int.emod_lt_of_pos _ hm, hp⟩
theorem draw_mid {t : Nat} (hr : RestOk rest) (hlr : rest.length ≤ 1000) (ha : t ≤ 10000000) (hm : 0 < m) (hb : m < 18446744073709551616) (c : Int) (ht : t ≤ a) (T : Int) (hT : T = t) :
    ((sem cl b_law_draw_5).s [.val (.obj 0), .val (.int m), .no, .val (.int T), .val (.int c), .no, .no, .no] (.dct (pen ns (t + 1) left rest) :: tl)).post (DrawR rest tl a m) E := by
  have last := draw_last (cl := cl) (E := E) (a := a) (t := T) (rest := rest) (tl := tl) (s2 := .dct (pen ns (t + 1) left rest) :: tl) (by omega) (by omega) hm hb c ⟨ns, t + 1, left, rfl, by omega⟩
  unfold b_law_draw_5
  refine seq_post ?_
  simp [ix0, pow18]
  by_cases hlen : T < (ns.length : Int)
  · simp only [hlen, if_true, decide_true]
    generalize decide ((1000000000000000000 : Int) ≤ (if c < 0 then -c else c)) = k
    cases k
    · simpa using last
    · simp only [R.bind_ok, asB_bl, post_ok, if_true]
      unfold b_law_draw_5a_0
      refine seq_post ?_
      simp [bin_mulL]
      generalize (2 * (if c < 0 then -c else c) + if c < 0 then 1 else 0 : Int) = w
      unfold b_law_draw_5a_1
      refine seq_post ?_
      simp [bin_div hm hb]
      rw [yt_tixV (u := .obj 0) rfl]
      have hl : (pen ns (t + 1) left rest).length < 16777216 := by simp [pen]; omega
      simp [st0 hl]
      rw [show (Sum.inr [108, 101, 102, 116] : Ky) = kLeft from rfl, put_left hr]
      unfold b_law_draw_5a_2
      refine seq_post ?_
      simp [bin_mod hm]
      exact ⟨_, _, rfl, Int.emod_nonneg _ (by omega), Int.emod_lt_of_pos _ hm, ns, t + 1, w / m, rfl, by omega⟩
  · simp only [hlen, if_false, decide_false]
    simpa using last
theorem atI_nn {α : Type} {xs : List α} {i : Int} (h : 0 ≤ i) (k : i < xs.length) : L2.atI xs i = xs[i.toNat]? := by
  unfold L2.atI L2.ixN
  rw [if_pos h, if_pos k]
  rfl
theorem draw_post (hr : RestOk rest) (hlr : rest.length ≤ 1000) (h : Pen rest tl a s) (ha : a ≤ 10000000) (hm : 0 < m) (hb : m < 18446744073709551616) :
    ((sem cl b_law_draw_0).s [.val (.obj 0), .val (.int m), .no, .no, .no, .no, .no, .no] s).post (DrawR rest tl a m) E := by
  obtain ⟨ns, t, left, rfl, ht⟩ := h
  unfold b_law_draw_0
  refine seq_post ?_
  simp [ix0]
  have hl : (pen ns t left rest).length < 16777216 := by simp [pen]; omega
  by_cases h0 : 0 < left
  · simp only [h0, if_true]
    unfold b_law_draw_0a_0
    refine seq_post ?_
    simp [ix0, bin_mod hm]
    unfold b_law_draw_0a_1
    refine seq_post ?_
    simp [ix0, bin_div hm hb]
    rw [yt_tixV (u := .obj 0) rfl]
    simp [st0 hl]
    rw [show (Sum.inr [108, 101, 102, 116] : Ky) = kLeft from rfl, put_left hr]
    unfold b_law_draw_0a_2
    refine seq_post ?_
    simp
    exact ⟨_, _, rfl, Int.emod_nonneg _ (by omega), Int.emod_lt_of_pos _ hm, ns, t, left / m, rfl, by omega⟩
  · simp only [h0, if_false]
    simp
    unfold b_law_draw_1
    refine seq_post ?_
    simp [ix0]
    obtain ⟨T, hT⟩ : ∃ T : Int, T = (t : Int) := ⟨_, rfl⟩
    rw [← hT]
    unfold b_law_draw_2
    refine seq_post ?_
    simp
    rw [yt_tixV (u := .obj 0) rfl]
    simp [st0 hl]
    rw [show (Sum.inr [97, 116] : Ky) = kAt from rfl, show U.int (T + 1) = U.int ((t + 1 : Nat) : Int) by rw [hT]; rfl, put_at hr]
    unfold b_law_draw_3
    refine seq_post ?_
    simp [bin_mulL]
    unfold b_law_draw_4
    refine seq_post ?_
    simp [ix0, cmp_neL0]
    by_cases he : ns = []
    · subst he
      simp
      exact draw_mid hr hlr (by omega) hm hb _ ht T hT
    · have he2 : (ns.isEmpty) = false := by cases ns <;> simp_all
      have hpos : 0 < ns.length := List.length_pos_iff.mpr he
      simp [he]
      refine seq_post ?_
      simp [ix0]
      rw [bin_mod (by omega)]
      have hlt : T % (ns.length : Int) < ns.length := Int.emod_lt_of_pos _ (by omega)
      have hge : 0 ≤ T % (ns.length : Int) := Int.emod_nonneg _ (by omega)
      simp
      rw [atI_nn hge (by simpa using hlt)]
      have : (T % (ns.length : Int)).toNat < ns.length := by omega
      simp [this]
      exact draw_mid hr hlr (by omega) hm hb _ ht T hT
end
end Y

/-! YUt: small tools: sizes, kinds of things, what rises. -/
namespace Y
open PySem
open Z (Ky Ex Fn)
theorem len_blks : ∀ xs : List U, xs.length ≤ blks xs
  | [] => Nat.le_refl _
  | x :: xs => by have := len_blks xs; simp only [List.length_cons, blks]; omega
theorem mem_blks {x : U} : ∀ {xs : List U}, x ∈ xs → x.blk + 1 ≤ blks xs
  | [], h => by cases h
  | y :: xs, h => by
    simp only [blks]
    rcases List.mem_cons.mp h with rfl | h
    · omega
    · have := mem_blks h; omega
theorem mem_deps {x : U} : ∀ {xs : List U}, x ∈ xs → x.dep ≤ deps xs
  | [], h => by cases h
  | y :: xs, h => by
    simp only [deps]
    rcases List.mem_cons.mp h with rfl | h
    · omega
    · have := mem_deps h; omega
theorem blks_app : ∀ xs ys : List U, blks (xs ++ ys) = blks xs + blks ys
  | [], ys => by simp [blks]
  | x :: xs, ys => by have := blks_app xs ys; simp only [List.cons_append, blks, this]; omega
theorem deps_app : ∀ xs ys : List U, deps (xs ++ ys) = max (deps xs) (deps ys)
  | [], ys => by simp [deps]
  | x :: xs, ys => by have := deps_app xs ys; simp only [List.cons_append, deps, this]; omega
theorem fines_app : ∀ xs ys : List U, fines (xs ++ ys) = (fines xs && fines ys)
  | [], ys => by simp [fines]
  | x :: xs, ys => by have := fines_app xs ys; simp only [List.cons_append, fines, this, Bool.and_assoc]
theorem mem_fines {x : U} : ∀ {xs : List U}, fines xs = true → x ∈ xs → x.fine = true
  | y :: xs, h, hx => by
    simp only [fines, Bool.and_eq_true] at h
    rcases List.mem_cons.mp hx with rfl | hx
    · exact h.1
    · exact mem_fines h.2 hx
def isI : U → Bool
  | .int _ => true
  | .bl _ => true
  | _ => false
def isB : U → Bool
  | .bl _ => true
  | _ => false
def isT : U → Bool
  | .tup _ => true
  | _ => false
def isL : U → Bool
  | .lst _ => true
  | .kl _ => true
  | _ => false
def isS : U → Bool
  | .str _ => true
  | _ => false
/-- a thing that stands by itself -/
def noObj : U → Bool
  | .obj _ => false
  | _ => true
section
variable {u : U} {s : Sto}
theorem tyI (h : noObj u = true) : isTy .int u s = some (isI u) := by cases u <;> first | rfl | cases h
theorem tyB (h : noObj u = true) : isTy .bool u s = some (isB u) := by cases u <;> first | rfl | cases h
theorem tyT (h : noObj u = true) : isTy .tuple u s = some (isT u) := by cases u <;> first | rfl | cases h
theorem tyL (h : noObj u = true) : isTy .list u s = some (isL u) := by cases u <;> first | rfl | cases h
theorem tyS (h : noObj u = true) : isTy .str u s = some (isS u) := by cases u <;> first | rfl | cases h
theorem fine_no (h : u.fine = true) : noObj u = true := by cases u <;> first | rfl | (simp [U.fine] at h)
@[simp] theorem isi_int {x : Int} {t : Z.Ty} : isTy t (.int x) s = some (t == .int) := rfl
@[simp] theorem isi_bl {x : Bool} {t : Z.Ty} : isTy t (.bl x) s = some (t == .bool || t == .int) := rfl
@[simp] theorem isi_str {x : List Nat} {t : Z.Ty} : isTy t (.str x) s = some (t == .str) := rfl
@[simp] theorem isi_tup {x : List U} {t : Z.Ty} : isTy t (.tup x) s = some (t == .tuple) := rfl
@[simp] theorem isi_lst {x : List U} {t : Z.Ty} : isTy t (.lst x) s = some (t == .list) := rfl
@[simp] theorem isi_kl {x : List U} {t : Z.Ty} : isTy t (.kl x) s = some (t == .list) := rfl
@[simp] theorem isi_dct {x : List (Ky × U)} {t : Z.Ty} : isTy t (.dct x) s = some (t == .dict) := rfl
@[simp] theorem isi_non {t : Z.Ty} : isTy t .non s = some false := rfl
end
/-- a whole number from a to b -/
def wholeB (a b : Int) : U → Bool
  | .int i => decide (a ≤ i) && decide (i ≤ b)
  | _ => false
/-- a row of at most so many whole numbers below a limit -/
def numsB (lim most : Int) : U → Bool
  | .tup xs => decide ((xs.length : Int) ≤ most) && xs.all (wholeB 0 (lim - 1))
  | _ => false
theorem all_map {xs : List U} (f : U → Bool) : xs.map (fun d => U.bl (f d)) = (xs.map f).map .bl := by rw [List.map_map]; rfl
theorem all_id {xs : List U} (f : U → Bool) : (xs.map f).all id = xs.all f := by rw [List.all_map]; rfl
/-- all([..]) of a comprehension that tells truths -/
theorem bi_allM {xs : List U} {f : U → Bool} {s : Sto} : biF .all [.lst (xs.map fun d => .bl (f d))] s = .ok (.bl (xs.all f)) s := by
  rw [all_map, bi_all, all_id]
/-- the ones that are let by are none -/
theorem filter_none {xs : List U} {f : U → Bool} {g : U → U} : ((xs.filter fun d => !f d).map g).isEmpty = xs.all f := by
  rw [Bool.eq_iff_iff]
  simp
theorem lst_lit0 {s : Sto} : (if ([] : List U).length ≤ Z.line then R.ok (U.lst []) s else .bad) = R.ok (U.lst []) s := if_pos (Nat.zero_le _)
/-! texts, numbers among numbers -/
theorem inF_ints {k : Int} {K : List Int} : inF (.int k) (K.map .int) = decide (k ∈ K) := by
  induction K with
  | nil => rfl
  | cons z K ih =>
    unfold inF at ih ⊢
    rw [List.map_cons, List.any_cons, ih, Bool.eq_iff_iff]
    simp only [eqF, Bool.or_eq_true, beq_iff_eq, decide_eq_true_eq, List.mem_cons]
    constructor
    · rintro (h | h)
      · exact .inl h.symm
      · exact .inr h
    · rintro (h | h)
      · exact .inl h.symm
      · exact .inr h
theorem flat_ints {K : List Int} : (K.map U.int).all flatD = true := by
  rw [List.all_eq_true]
  intro d hd
  obtain ⟨z, _, rfl⟩ := List.mem_map.mp hd
  rfl
theorem mem_ints {k : Int} {K : List Int} {s : Sto} : cmp .mem (.int k) (.tup (K.map .int)) s = .ok (.bl (decide (k ∈ K))) s := by
  show ofO (((if flatD (.int k) = true ∧ (K.map U.int).all flatD = true then some (inF (.int k) (K.map U.int)) else none)).map U.bl) s = _
  rw [if_pos ⟨rfl, flat_ints⟩, inF_ints]; rfl
theorem nmem_ints {k : Int} {K : List Int} {s : Sto} : cmp .nmem (.int k) (.tup (K.map .int)) s = .ok (.bl (!decide (k ∈ K))) s := by
  show ofO ((((if flatD (.int k) = true ∧ (K.map U.int).all flatD = true then some (inF (.int k) (K.map U.int)) else none)).map (!·)).map U.bl) s = _
  rw [if_pos ⟨rfl, flat_ints⟩, inF_ints]; rfl
@[simp] theorem mem_str {c : Nat} {z : List Nat} {s : Sto} : cmp .mem (.str [c]) (.str z) s = .ok (.bl (decide (c ∈ z))) s := rfl
@[simp] theorem nmem_str {c : Nat} {z : List Nat} {s : Sto} : cmp .nmem (.str [c]) (.str z) s = .ok (.bl (!decide (c ∈ z))) s := rfl
/-! rising -/
/-- each greater than the one ahead of it -/
def stepsB : List Int → Bool
  | [] => true
  | [_] => true
  | x :: y :: r => decide (x < y) && stepsB (y :: r)
theorem steps_pair : ∀ {ns : List Int}, stepsB ns = true ↔ ns.Pairwise (· < ·)
  | [] => by simp [stepsB]
  | [x] => by simp [stepsB]
  | x :: y :: r => by
    have ih := steps_pair (ns := y :: r)
    rw [stepsB, Bool.and_eq_true, ih, decide_eq_true_eq]
    constructor
    · rintro ⟨h1, h2⟩
      refine List.pairwise_cons.mpr ⟨fun a ha => ?_, h2⟩
      rcases List.mem_cons.mp ha with rfl | ha
      · exact h1
      · have := (List.pairwise_cons.mp h2).1 a ha; omega
    · intro h
      have h1 := List.pairwise_cons.mp h
      exact ⟨h1.1 y List.mem_cons_self, h1.2⟩
theorem sset_steps {ns : List Int} : decide (Z.sset ns = ns) = stepsB ns := by
  rw [Bool.eq_iff_iff, decide_eq_true_eq, steps_pair]
  constructor
  · intro h; rw [← h]; exact Z.sset_asc ns
  · intro h; exact Z.asc_eq (Z.sset_asc ns) h fun k => Z.sset_mem
theorem steps_all : ∀ (ns : List Int), stepsB ns = (List.range (ns.length - 1)).all fun i => decide (ns.getD i 0 < ns.getD (i + 1) 0)
  | [] => rfl
  | [x] => rfl
  | x :: y :: r => by
    have ih := steps_all (y :: r)
    rw [stepsB, ih]
    simp only [List.length_cons, Nat.add_sub_cancel]
    rw [List.range_succ_eq_map, List.all_cons, List.all_map]
    simp only [Function.comp_def, List.getD_cons_zero, List.getD_cons_succ]
theorem eqvAll_ints : ∀ (a b : List Int), PyData.eqvAll (toPs (a.map .int)) (toPs (b.map .int)) = decide (a = b)
  | [], [] => by simp [PyData.eqvAll, toPs]
  | [], _ :: _ => by simp [PyData.eqvAll, toPs]
  | _ :: _, [] => by simp [PyData.eqvAll, toPs]
  | x :: a, y :: b => by
    have := eqvAll_ints a b
    by_cases h : x = y <;> by_cases k : a = b <;> simp_all [PyData.eqvAll, PyData.eqv, toPs, U.toP]
theorem ints_lay : ∀ a : List Int, lays (a.map .int) = true ∧ deps (a.map .int) = 0
  | [] => ⟨rfl, rfl⟩
  | x :: a => by
    obtain ⟨h1, h2⟩ := ints_lay a
    simp [lays, deps, U.lay, U.dep, h1, h2]
theorem eqD_lst {a b : List Int} {s : Sto} : eqD s (.lst (a.map .int)) (.lst (b.map .int)) = some (decide (a = b)) := by
  show (if lenNe s (.lst (a.map .int)) (.lst (b.map .int)) = true then _ else _) = _
  have hl : lenNe s (.lst (a.map .int)) (.lst (b.map .int)) = (a.length != b.length) := by
    show ((a.map U.int).length != (b.map U.int).length) = _
    rw [List.length_map, List.length_map]
  rw [hl]
  by_cases h : a.length = b.length
  · obtain ⟨a1, a2⟩ := ints_lay a
    obtain ⟨b1, b2⟩ := ints_lay b
    rw [if_neg (by simp [h])]
    simp only [U.lay, U.dep, a1, a2, b1, b2]
    rw [if_pos (by simp)]
    simp only [U.toP, PyData.eqv, eqvAll_ints]
  · rw [if_pos (by simpa using h)]
    have : ¬ a = b := fun e => h (by rw [e])
    simp [this]
theorem cmp_eqLi {a b : List Int} {s : Sto} : cmp .eq (.lst (a.map .int)) (.lst (b.map .int)) s = .ok (.bl (decide (a = b))) s := cmp_eq_of eqD_lst
theorem cmp_neLi {a b : List Int} {s : Sto} : cmp .ne (.lst (a.map .int)) (.lst (b.map .int)) s = .ok (.bl (!decide (a = b))) s := cmp_ne_of eqD_lst
/-! data with numbers below a bound -/
def keyb (b : Nat) : Ky → Bool
  | .inl i => decide (i.natAbs < b)
  | .inr x => strOk x
mutual
def okb (b : Nat) : U → Bool
  | .non => true
  | .bl _ => true
  | .int i => decide (i.natAbs < b)
  | .str x => strOk x
  | .tup xs => okbs b xs
  | .kl _ => false
  | .lst xs => okbs b xs
  | .dct kvs => okbk b kvs
  | .obj _ => false
def okbs (b : Nat) : List U → Bool
  | [] => true
  | x :: xs => okb b x && okbs b xs
def okbk (b : Nat) : List (Ky × U) → Bool
  | [] => true
  | (k, x) :: xs => keyb b k && okb b x && okbk b xs
end
mutual
theorem okb_fine {b : Nat} (hb : b ≤ 10 ^ 70) : ∀ u : U, okb b u = true → u.fine = true
  | .non, _ => rfl
  | .bl _, _ => rfl
  | .int i, h => by
    simp only [okb, decide_eq_true_eq] at h
    simp only [U.fine, decide_eq_true_eq]
    exact Nat.lt_of_lt_of_le h hb
  | .str x, h => by simpa only [U.fine, okb] using h
  | .tup xs, h => by simpa only [U.fine] using okbs_fine hb xs (by simpa only [okb] using h)
  | .kl _, h => by simp [okb] at h
  | .lst xs, h => by simpa only [U.fine] using okbs_fine hb xs (by simpa only [okb] using h)
  | .dct xs, h => by simpa only [U.fine] using okbk_fine hb xs (by simpa only [okb] using h)
  | .obj _, h => by simp [okb] at h
theorem okbs_fine {b : Nat} (hb : b ≤ 10 ^ 70) : ∀ u : List U, okbs b u = true → fines u = true
  | [], _ => rfl
  | x :: xs, h => by
    simp only [okbs, Bool.and_eq_true] at h
    simp only [fines, okb_fine hb x h.1, okbs_fine hb xs h.2, Bool.and_self]
theorem okbk_fine {b : Nat} (hb : b ≤ 10 ^ 70) : ∀ u : List (Ky × U), okbk b u = true → finek u = true
  | [], _ => rfl
  | (k, x) :: xs, h => by
    simp only [okbk, Bool.and_eq_true] at h
    have hk : keyOk k = true := by
      cases k with
      | inl i =>
        have := h.1.1
        simp only [keyb, decide_eq_true_eq] at this
        simp only [keyOk, decide_eq_true_eq]
        exact Nat.lt_of_lt_of_le this hb
      | inr z => exact h.1.1
    simp only [finek, hk, okb_fine hb x h.1.2, okbk_fine hb xs h.2, Bool.and_self]
end
mutual
theorem okb_up {b c : Nat} (hb : b ≤ c) : ∀ u : U, okb b u = true → okb c u = true
  | .non, _ => rfl
  | .bl _, _ => rfl
  | .int i, h => by
    simp only [okb, decide_eq_true_eq] at h ⊢
    omega
  | .str x, h => by simpa only [okb] using h
  | .tup xs, h => by simpa only [okb] using okbs_up hb xs (by simpa only [okb] using h)
  | .kl _, h => by simp [okb] at h
  | .lst xs, h => by simpa only [okb] using okbs_up hb xs (by simpa only [okb] using h)
  | .dct xs, h => by simpa only [okb] using okbk_up hb xs (by simpa only [okb] using h)
  | .obj _, h => by simp [okb] at h
theorem okbs_up {b c : Nat} (hb : b ≤ c) : ∀ u : List U, okbs b u = true → okbs c u = true
  | [], _ => rfl
  | x :: xs, h => by
    simp only [okbs, Bool.and_eq_true] at h
    simp only [okbs, okb_up hb x h.1, okbs_up hb xs h.2, Bool.and_self]
theorem okbk_up {b c : Nat} (hb : b ≤ c) : ∀ u : List (Ky × U), okbk b u = true → okbk c u = true
  | [], _ => rfl
  | (k, x) :: xs, h => by
    simp only [okbk, Bool.and_eq_true] at h
    have hk : keyb c k = true := by
      cases k with
      | inl i =>
        have := h.1.1
        simp only [keyb, decide_eq_true_eq] at this ⊢
        omega
      | inr z => exact h.1.1
    simp only [okbk, hk, okb_up hb x h.1.2, okbk_up hb xs h.2, Bool.and_self]
end
theorem okbs_app {b : Nat} : ∀ xs ys : List U, okbs b (xs ++ ys) = (okbs b xs && okbs b ys)
  | [], ys => by simp [okbs]
  | x :: xs, ys => by have := okbs_app (b := b) xs ys; simp only [List.cons_append, okbs, this, Bool.and_assoc]
theorem okbs_all {b : Nat} : ∀ {xs : List U}, (∀ x ∈ xs, okb b x = true) → okbs b xs = true
  | [], _ => rfl
  | x :: xs, h => by simp only [okbs, h x List.mem_cons_self, okbs_all fun y hy => h y (List.mem_cons_of_mem _ hy), Bool.and_self]
theorem okbs_mem {b : Nat} {x : U} : ∀ {xs : List U}, okbs b xs = true → x ∈ xs → okb b x = true
  | y :: xs, h, hx => by
    simp only [okbs, Bool.and_eq_true] at h
    rcases List.mem_cons.mp hx with rfl | hx
    · exact h.1
    · exact okbs_mem h.2 hx
theorem deps_all {n : Nat} : ∀ {xs : List U}, (∀ x ∈ xs, x.dep ≤ n) → deps xs ≤ n
  | [], _ => Nat.zero_le _
  | x :: xs, h => by
    have h1 := h x List.mem_cons_self
    have h2 := deps_all fun y hy => h y (List.mem_cons_of_mem _ hy)
    simp only [deps]; omega
theorem blks_all {w : Nat} : ∀ {xs : List U}, (∀ x ∈ xs, x.blk ≤ w) → blks xs ≤ xs.length * (w + 1)
  | [], _ => by simp [blks]
  | x :: xs, h => by
    have h1 := h x List.mem_cons_self
    have h2 := blks_all fun y hy => h y (List.mem_cons_of_mem _ hy)
    simp only [blks, List.length_cons, Nat.add_mul]; omega
theorem ints_ok {b : Nat} {ns : List Int} (h : ∀ z ∈ ns, z.natAbs < b) : okbs b (ns.map .int) = true ∧ deps (ns.map .int) = 0 ∧ blks (ns.map .int) = ns.length := by
  induction ns with
  | nil => exact ⟨rfl, rfl, rfl⟩
  | cons z ns ih =>
    obtain ⟨a, c, d⟩ := ih fun y hy => h y (List.mem_cons_of_mem _ hy)
    have hz := h z List.mem_cons_self
    simp [okbs, okb, deps, blks, U.dep, U.blk, a, c, d, hz]; omega
/-- data: its numbers below b, of nesting at most n, its bulk at most w -/
structure Gd (b n w : Nat) (u : U) : Prop where
  ok : okb b u = true
  dep : u.dep ≤ n
  blk : u.blk ≤ w
theorem Gd.le {b n w b' n' w' : Nat} {u : U} (h : Gd b n w u) (h1 : b ≤ b') (h2 : n ≤ n') (h3 : w ≤ w') : Gd b' n' w' u := ⟨okb_up h1 u h.ok, Nat.le_trans h.dep h2, Nat.le_trans h.blk h3⟩
structure Gds (b n w : Nat) (us : List U) : Prop where
  ok : okbs b us = true
  dep : deps us ≤ n
  blk : blks us ≤ w
theorem Gds.nil {b n w : Nat} : Gds b n w [] := ⟨rfl, Nat.zero_le _, Nat.zero_le _⟩
theorem Gds.cons {b n w v : Nat} {u : U} {us : List U} (h : Gd b n w u) (k : Gds b n v us) : Gds b n (w + 1 + v) (u :: us) := by
  refine ⟨by simp only [okbs, h.ok, k.ok, Bool.and_self], ?_, ?_⟩
  · have := h.dep; have := k.dep; simp only [deps]; omega
  · have := h.blk; have := k.blk; simp only [blks]; omega
theorem Gds.le {b n w b' n' w' : Nat} {u : List U} (h : Gds b n w u) (h1 : b ≤ b') (h2 : n ≤ n') (h3 : w ≤ w') : Gds b' n' w' u := ⟨okbs_up h1 u h.ok, Nat.le_trans h.dep h2, Nat.le_trans h.blk h3⟩
theorem Gds.app {b n w v : Nat} {us vs : List U} (h : Gds b n w us) (k : Gds b n v vs) : Gds b n (w + v) (us ++ vs) := by
  refine ⟨by rw [okbs_app, h.ok, k.ok]; rfl, ?_, ?_⟩
  · have := h.dep; have := k.dep; rw [deps_app]; omega
  · have := h.blk; have := k.blk; rw [blks_app]; omega
theorem Gds.tup {b n w : Nat} {us : List U} (h : Gds b n w us) : Gd b (n + 1) w (.tup us) := ⟨by simpa only [okb] using h.ok, by simp only [U.dep]; exact Nat.succ_le_succ h.dep, by simpa only [U.blk] using h.blk⟩
theorem Gds.lst {b n w : Nat} {us : List U} (h : Gds b n w us) : Gd b (n + 1) w (.lst us) := ⟨by simpa only [okb] using h.ok, by simp only [U.dep]; exact Nat.succ_le_succ h.dep, by simpa only [U.blk] using h.blk⟩
theorem Gd.items {b n w : Nat} {us : List U} (h : Gd b n w (.tup us)) : Gds b (n - 1) w us := ⟨by simpa only [okb] using h.ok, by have := h.dep; simp only [U.dep] at this; omega, by simpa only [U.blk] using h.blk⟩
theorem Gds.mem {b n w : Nat} {us : List U} (h : Gds b n w us) {u : U} (hu : u ∈ us) : Gd b n w u := ⟨okbs_mem h.ok hu, Nat.le_trans (mem_deps hu) h.dep, by have := mem_blks hu; have := h.blk; omega⟩
theorem Gds.all {b n w : Nat} {us : List U} (h : ∀ u ∈ us, Gd b n w u) : Gds b n (us.length * (w + 1)) us := ⟨okbs_all fun u hu => (h u hu).ok, deps_all fun u hu => (h u hu).dep, blks_all fun u hu => (h u hu).blk⟩
theorem gd_int {b n w : Nat} {z : Int} (h : z.natAbs < b) : Gd b n w (.int z) := ⟨by simpa only [okb, decide_eq_true_eq] using h, Nat.zero_le _, Nat.zero_le _⟩
theorem gd_non {b n w : Nat} : Gd b n w .non := ⟨rfl, Nat.zero_le _, Nat.zero_le _⟩
theorem gd_bl {b n w : Nat} {x : Bool} : Gd b n w (.bl x) := ⟨rfl, Nat.zero_le _, Nat.zero_le _⟩
theorem gd_str {b n w : Nat} {z : List Nat} (h : strOk z = true) (k : z.length ≤ w) : Gd b n w (.str z) := ⟨by simpa only [okb] using h, Nat.zero_le _, by simpa only [U.blk] using k⟩
theorem gd_ints {b n w : Nat} {ns : List Int} (h : ∀ z ∈ ns, z.natAbs < b) (k : ns.length ≤ w) : Gds b n w (ns.map .int) := by
  obtain ⟨a, c, d⟩ := ints_ok h
  exact ⟨a, by omega, by omega⟩
/-- a bound for numbers that are drawn -/
def B1 : Nat := 10 ^ 60
theorem lt_B1 {z : Int} (h : z.natAbs ≤ 4294967296) : z.natAbs < B1 := Nat.lt_of_le_of_lt h (by decide)
/-- a list's item, picked -/
theorem atI_some {α : Type} {xs : List α} {i : Int} (h : 0 ≤ i) (k : i < xs.length) : ∃ x, L2.atI xs i = some x ∧ x ∈ xs := by
  rw [atI_nn h k]
  have hk : i.toNat < xs.length := by omega
  exact ⟨xs[i.toNat], List.getElem?_eq_getElem hk, List.getElem_mem hk⟩
/-! a comprehension, by what is made so far -/
theorem comL_acc {src : Src} {l : Lo} {t : U → Lo → Option Lo} {c : Lo → Sto → R Bool} {e : Lo → Sto → R U} {Q : List U → Sto → Prop} {E : U → Sto → Prop} (I : List U → Sto → Prop) (hs : src.grd = none) : ∀ (its : List U) (acc : List U) (s : Sto),
    (∀ k d ys s, its[k]? = some d → ys.length = k → I (acc ++ ys) s → ∃ l1, t d l = some l1 ∧ (∀ s, c l1 s = .ok true s) ∧ (e l1 s).post (fun y s2 => I (acc ++ ys ++ [y]) s2) E) →
    (∀ ys s, ys.length = its.length → I (acc ++ ys) s → Q ys s) → I acc s → (comL src l t c e its s).post Q E
  | [], acc, s, _, fin, h => by
    unfold comL
    rw [if_pos (by unfold Src.ok; rw [hs])]
    exact fin [] s rfl (by simpa using h)
  | d :: ds, acc, s, step, fin, h => by
    unfold comL
    obtain ⟨l1, e1, e2, e3⟩ := step 0 d [] s rfl rfl (by simpa using h)
    rw [if_pos (by unfold Src.ok; rw [hs]), e1, ofO_some, R.bind_ok, e2, R.bind_ok, if_pos rfl, R.post_bind]
    refine R.post_mono e3 (fun y s2 h2 => ?_) fun _ _ k => k
    rw [R.post_bind]
    refine comL_acc I hs ds (acc ++ [y]) s2 (fun k d ys s e hl i => ?_) (fun ys s hl i => ?_) (by simpa using h2)
    · have := step (k + 1) d (y :: ys) s (by simpa using e) (by simp [hl]) (by simpa using i)
      simpa using this
    · exact fin (y :: ys) s (by simp [hl]) (by simpa using i)
theorem comp_acc {cl : Cl} {e it : Ex} {v : Nat} {own : List Nat} {l l0 : Lo} {s s1 : Sto} {its : List U} {Q : U → Sto → Prop} {E : U → Sto → Prop} (I : List U → Sto → Prop) (hit : (sem cl it).wp l s = .ok ⟨its, none⟩ s1) (hl0 : wipe l own = l0) (hn : its.length ≤ 16777216)
    (step : ∀ k d acc s, its[k]? = some d → acc.length = k → I acc s → ((sem cl e).e (l0.set v (.val d)) s).post (fun y s2 => I (acc ++ [y]) s2) fun _ _ => False)
    (fin : ∀ ys s, ys.length = its.length → I ys s → Q (.lst ys) s) (h : I [] s1) : ((sem cl (.comp e (.tv v) it .nil own)).e l s).post Q E := by
  rw [ye_comp, hit, R.bind_ok, hl0, R.post_bind]
  refine noexPost (comL_acc I rfl its [] s1 (fun k d ys s e hl i => ⟨_, rfl, fun _ => rfl, by simpa using step k d ys s e hl (by simpa using i)⟩) (fun ys s hl i => ?_) h)
  show (if ys.length ≤ Z.line then R.ok (U.lst ys) s else .bad).post Q E
  rw [if_pos (by rw [hl]; exact hn)]
  exact fin ys s hl (by simpa using i)
/-! slices -/
section
variable {f : Lo → Sto → R U} {l : Lo} {s : Sto} {a b : Ex} {i : Nat} {x : Int} {o : Z.Bop}
@[simp] theorem oInt_var : oInt (.var i) f l s = (f l s).bind fun d s1 => match d with | .int i => .ok (some i) s1 | _ => .bad := rfl
@[simp] theorem oInt_int : oInt (.int x) f l s = (f l s).bind fun d s1 => match d with | .int i => .ok (some i) s1 | _ => .bad := rfl
@[simp] theorem oInt_bin : oInt (.bin o a b) f l s = (f l s).bind fun d s1 => match d with | .int i => .ok (some i) s1 | _ => .bad := rfl
@[simp] theorem oInt_neg : oInt (.neg a) f l s = (f l s).bind fun d s1 => match d with | .int i => .ok (some i) s1 | _ => .bad := rfl
@[simp] theorem oInt_glb {d : Z.D} : oInt (.glb i d) f l s = (f l s).bind fun d s1 => match d with | .int i => .ok (some i) s1 | _ => .bad := rfl
@[simp] theorem oInt_call : oInt (.call i a) f l s = (f l s).bind fun d s1 => match d with | .int i => .ok (some i) s1 | _ => .bad := rfl
@[simp] theorem oInt_bi {k : Z.Bi} : oInt (.bi k a) f l s = (f l s).bind fun d s1 => match d with | .int i => .ok (some i) s1 | _ => .bad := rfl
@[simp] theorem oInt_ix : oInt (.ix a b) f l s = (f l s).bind fun d s1 => match d with | .int i => .ok (some i) s1 | _ => .bad := rfl
end
theorem sIx_nn {n d : Nat} {v : Int} (h : 0 ≤ v) : HT.sIx n d (some v) = min v.toNat n := by
  show (if v < 0 then (v + (n : Int)).toNat else min v.toNat n) = _
  rw [if_neg (by omega)]
theorem cut_nn {α : Type} {xs : List α} {a b : Int} (h : 0 ≤ a) (h2 : a ≤ b) (h3 : b ≤ xs.length) : Z.cut xs (some a) (some b) = (xs.drop a.toNat).take (b.toNat - a.toNat) := by
  unfold Z.cut
  rw [sIx_nn h, sIx_nn (by omega)]
  have e3 : min a.toNat xs.length = a.toNat := by omega
  have e4 : min b.toNat xs.length = b.toNat := by omega
  rw [e3, e4]
theorem cut_to {α : Type} {xs : List α} {b : Int} (h : 0 ≤ b) : Z.cut xs none (some b) = xs.take b.toNat := by
  unfold Z.cut
  rw [sIx_nn h]
  show (xs.drop 0).take (min b.toNat xs.length - 0) = _
  rw [List.drop_zero, Nat.sub_zero]
  by_cases hb : b.toNat ≤ xs.length
  · rw [Nat.min_eq_left hb]
  · rw [Nat.min_eq_right (by omega), List.take_of_length_le (Nat.le_refl _), List.take_of_length_le (by omega)]
theorem cut_from {α : Type} {xs : List α} {a : Int} (h : 0 ≤ a) : Z.cut xs (some a) none = xs.drop a.toNat := by
  unfold Z.cut
  rw [sIx_nn h]
  show (xs.drop (min a.toNat xs.length)).take (xs.length - min a.toNat xs.length) = _
  by_cases hb : a.toNat ≤ xs.length
  · rw [Nat.min_eq_left hb, List.take_of_length_le (by simp)]
  · rw [Nat.min_eq_right (by omega), List.drop_of_length_le (Nat.le_refl _), List.drop_of_length_le (by omega), List.take_nil]
/-- a greater bound: behind a change -/
def B2 : Nat := 10 ^ 65
theorem B12 : B1 ≤ B2 := by decide
theorem gd_closed {n w : Nat} {u : U} (h : okb B2 u = true ∧ u.dep ≤ 2 ∧ u.blk ≤ 50) : Gd B2 (n + 2) (w + 50) u := ⟨h.1, by have := h.2.1; omega, by have := h.2.2; omega⟩
theorem Gds.take {b n w : Nat} {us : List U} (h : Gds b n w us) (k : Nat) : Gds b n w (us.take k) := by
  have e := List.take_append_drop k us
  have h1 := h.ok; have h2 := h.dep; have h3 := h.blk
  rw [← e, okbs_app, Bool.and_eq_true] at h1
  rw [← e, deps_app] at h2
  rw [← e, blks_app] at h3
  exact ⟨h1.1, by omega, by omega⟩
theorem Gds.drop {b n w : Nat} {us : List U} (h : Gds b n w us) (k : Nat) : Gds b n w (us.drop k) := by
  have e := List.take_append_drop k us
  have h1 := h.ok; have h2 := h.dep; have h3 := h.blk
  rw [← e, okbs_app, Bool.and_eq_true] at h1
  rw [← e, deps_app] at h2
  rw [← e, blks_app] at h3
  exact ⟨h1.2, by omega, by omega⟩
theorem Gds.reverse {b n w : Nat} {us : List U} (h : Gds b n w us) : Gds b n w us.reverse := by
  refine ⟨okbs_all fun u hu => okbs_mem h.ok (List.mem_reverse.mp hu), deps_all fun u hu => Nat.le_trans (mem_deps (List.mem_reverse.mp hu)) h.dep, ?_⟩
  have : ∀ us : List U, blks us.reverse = blks us := fun us => by
    induction us with
    | nil => rfl
    | cons u us ih => rw [List.reverse_cons, blks_app, ih]; simp only [blks]; omega
  rw [this]; exact h.blk
theorem Gds.len {b n w : Nat} {us : List U} (h : Gds b n w us) : us.length ≤ w := Nat.le_trans (len_blks us) h.blk
/-- one put in the place of another -/
theorem Gds.swap {b c n m w v : Nat} {us : List U} {u : U} {k : Nat} (h : Gds b n w us) (hk : k < us.length) (g : Gd c m (us[k].blk + v) u) (hb : b ≤ c) : Gds c (max n m) (w + v) (us.take k ++ [u] ++ us.drop (k + 1)) := by
  have e : us = us.take k ++ us[k] :: us.drop (k + 1) := by rw [← List.drop_eq_getElem_cons hk, List.take_append_drop]
  have hb' := h.blk
  rw [e, blks_app] at hb'
  simp only [blks] at hb'
  have t := h.take k
  have d := h.drop (k + 1)
  refine ⟨?_, ?_, ?_⟩
  · rw [okbs_app, okbs_app, okbs_up hb _ t.ok, okbs_up hb _ d.ok]
    simp [okbs, g.ok]
  · rw [deps_app, deps_app]
    have := t.dep; have := d.dep; have := g.dep
    simp only [deps]; omega
  · rw [blks_app, blks_app]
    have := g.blk
    simp only [blks]; omega
end Y

namespace K.k05
open Z L2
def c_BASE : D := (.int 256)
def c_WIDE : D := (.int 4)
def c_MOST_CELLS : D := (.int 1000)
def f_is_whole : Fn := ⟨3, 3, (.cons (.ret (.and (.isi (.var 0) .int) (.and (.not (.isi (.var 0) .bool)) (.one (.cmp2 .le .le (.var 1) (.var 0) (.var 2)))))) .nil)⟩
def f_are_small : Fn := ⟨1, 2, (.cons (.ret (.and (.isi (.var 0) .tuple) (.one (.bi .all (.cons (.comp (.call 0 (.cons (.var 1) (.cons (.int 0) (.cons (.bin .sub (.glb 0 c_BASE) (.int 1)) .nil)))) (.tv 1) (.itS (.var 0)) .nil [1]) .nil))))) .nil)⟩
def f_is_file : Fn := ⟨1, 1, (.cons (.ret (.and (.call 1 (.cons (.var 0) .nil)) (.and (.cmp .eq (.bin .mod (.bi .len (.cons (.var 0) .nil)) (.glb 1 c_WIDE)) (.int 0)) (.one (.cmp .le (.bi .len (.cons (.var 0) .nil)) (.bin .mul (.glb 1 c_WIDE) (.glb 2 c_MOST_CELLS))))))) .nil)⟩
def b_is_stroke_1 : Ex := (.cons (.ret (.and (.call 1 (.cons (.ix (.var 0) (.int 1)) .nil)) (.one (.cmp .eq (.bi .len (.cons (.ix (.var 0) (.int 1)) .nil)) (.glb 1 c_WIDE))))) .nil)
def b_is_stroke_0 : Ex := (.cons (.sif (.or (.not (.isi (.var 0) .tuple)) (.or (.cmp .ne (.bi .len (.cons (.var 0) .nil)) (.int 2)) (.one (.not (.call 0 (.cons (.ix (.var 0) (.int 0)) (.cons (.int 0) (.cons (.bin .sub (.glb 2 c_MOST_CELLS) (.int 1)) .nil)))))))) (.cons (.ret (.bl false)) .nil) .nil) b_is_stroke_1)
def f_is_stroke : Fn := ⟨1, 1, b_is_stroke_0⟩
def f_cell_of : Fn := ⟨2, 2, (.cons (.ret (.sl (.var 0) (.bin .mul (.glb 1 c_WIDE) (.var 1)) (.bin .add (.bin .mul (.glb 1 c_WIDE) (.var 1)) (.glb 1 c_WIDE)))) .nil)⟩
def b_stroked_2 : Ex := (.cons (.ret (.bi .tuple (.cons (.var 2) .nil))) .nil)
def b_stroked_1a_1 : Ex := (.cons (.asg (.tsl (.var 2) (.bin .mul (.glb 1 c_WIDE) (.var 3)) (.bin .add (.bin .mul (.glb 1 c_WIDE) (.var 3)) (.glb 1 c_WIDE))) (.var 4)) .nil)
def b_stroked_1a_0 : Ex := (.cons (.expr (.mt .extend (.var 2) (.cons (.bin .mul (.lst (.cons (.int 0) .nil)) (.bin .sub (.bin .mul (.glb 1 c_WIDE) (.bin .add (.var 3) (.int 1))) (.bi .len (.cons (.var 2) .nil)))) .nil))) b_stroked_1a_1)
def b_stroked_1 : Ex := (.cons (.sfor (.tt (.cons (.tv 3) (.cons (.tv 4) .nil))) (.itS (.var 1)) b_stroked_1a_0) b_stroked_2)
def b_stroked_0 : Ex := (.cons (.asg (.tv 2) (.bi .list (.cons (.var 0) .nil))) b_stroked_1)
def f_stroked : Fn := ⟨2, 5, b_stroked_0⟩
def f_law_pen : Fn := ⟨1, 1, Y.b_law_pen⟩
def f_law_draw : Fn := ⟨2, 8, Y.b_law_draw_0⟩
def b_law_numbers_1 : Ex := (.cons (.ret (.bi .tuple (.cons (.comp (.ix (.lst (.cons (.ix (.var 3) (.call 7 (.cons (.var 0) (.cons (.int 4) .nil)))) (.cons (.call 7 (.cons (.var 0) (.cons (.var 2) .nil))) .nil))) (.call 7 (.cons (.var 0) (.cons (.int 2) .nil)))) (.tv 4) (.itR1 (.var 1)) .nil [4]) .nil))) .nil)
def b_law_numbers_0 : Ex := (.cons (.asg (.tv 3) (.lst (.cons (.int 0) (.cons (.int 1) (.cons (.bin .sub (.var 2) (.int 1)) (.cons (.bin .div (.var 2) (.int 2)) .nil)))))) b_law_numbers_1)
def f_law_numbers : Fn := ⟨3, 5, b_law_numbers_0⟩
def b_law_strokes_2 : Ex := (.cons (.ret (.var 3)) .nil)
def b_law_strokes_1a_2 : Ex := (.cons (.expr (.mt .append (.var 3) (.cons (.tup (.cons (.var 5) (.cons (.call 8 (.cons (.var 0) (.cons (.int 4) (.cons (.int 256) .nil)))) .nil))) .nil))) .nil)
def b_law_strokes_1a_1 : Ex := (.cons (.sif (.and (.cmp .ne (.var 3) (.lst .nil)) (.one (.cmp .eq (.call 7 (.cons (.var 0) (.cons (.int 4) .nil))) (.int 0)))) (.cons (.asg (.tv 5) (.ix (.ix (.var 3) (.neg (.int 1))) (.int 0))) .nil) .nil) b_law_strokes_1a_2)
def b_law_strokes_1a_0 : Ex := (.cons (.asg (.tv 5) (.ix (.lst (.cons (.call 7 (.cons (.var 0) (.cons (.bin .add (.var 2) (.int 1)) .nil))) (.cons (.var 2) (.cons (.bin .add (.var 2) (.call 7 (.cons (.var 0) (.cons (.int 5) .nil)))) (.cons (.int 0) .nil))))) (.call 7 (.cons (.var 0) (.cons (.int 4) .nil))))) b_law_strokes_1a_1)
def b_law_strokes_1 : Ex := (.cons (.sfor (.tv 4) (.itR1 (.var 1)) b_law_strokes_1a_0) b_law_strokes_2)
def b_law_strokes_0 : Ex := (.cons (.asg (.tv 3) (.lst .nil)) b_law_strokes_1)
def f_law_strokes : Fn := ⟨3, 6, b_law_strokes_0⟩
def b_law_cells_right_2 : Ex := (.cons (.ret (.cmp .eq (.bi .len (.cons (.var 2) .nil)) (.bin .mul (.int 4) (.bi .max (.cons (.bin .add (.lst (.cons (.bin .div (.bi .len (.cons (.var 0) .nil)) (.int 4)) .nil)) (.lockE 3 (.comp (.bin .add (.var 6) (.int 1)) (.tv 6) (.itK 3) .nil [6]))) .nil))))) .nil)
def b_law_cells_right_1a_2 : Ex := (.cons (.fz [5] (.sif (.cmp .ne (.call 4 (.cons (.var 2) (.cons (.var 4) .nil))) (.get2 (.var 3) (.var 4) (.var 5))) (.cons (.ret (.bl false)) .nil) .nil)) .nil)
def b_law_cells_right_1a_1 : Ex := (.cons (.sif (.cmp .lt (.bin .mul (.int 4) (.var 4)) (.bi .len (.cons (.var 0) .nil))) (.cons (.asg (.tv 5) (.call 4 (.cons (.var 0) (.cons (.var 4) .nil)))) .nil) .nil) b_law_cells_right_1a_2)
def b_law_cells_right_1a_0 : Ex := (.cons (.asg (.tv 5) (.tup (.cons (.int 0) (.cons (.int 0) (.cons (.int 0) (.cons (.int 0) .nil)))))) b_law_cells_right_1a_1)
def b_law_cells_right_1 : Ex := (.cons (.sfor (.tv 4) (.itR1 (.bin .div (.bi .len (.cons (.var 2) .nil)) (.int 4))) b_law_cells_right_1a_0) b_law_cells_right_2)
def b_law_cells_right_0 : Ex := (.cons (.asg (.tv 3) (.bi .dict (.cons (.var 1) .nil))) b_law_cells_right_1)
def f_law_cells_right : Fn := ⟨3, 7, b_law_cells_right_0⟩
def b_law_cuts_right_3 : Ex := (.cons (.ret (.bl true)) .nil)
def b_law_cuts_right_2a_1 : Ex := (.cons (.sif (.cmp .lt (.var 4) (.bi .len (.cons (.var 1) .nil))) (.cons (.asg (.tv 3) (.call 5 (.cons (.var 3) (.cons (.lst (.cons (.ix (.var 1) (.var 4)) .nil)) .nil)))) .nil) .nil) .nil)
def b_law_cuts_right_2a_0 : Ex := (.cons (.sif (.or (.cmp .ne (.call 5 (.cons (.var 0) (.cons (.sl (.var 1) .nil (.var 4)) .nil))) (.var 3)) (.one (.cmp .ne (.call 5 (.cons (.var 3) (.cons (.sl (.var 1) (.var 4) .nil) .nil))) (.var 2)))) (.cons (.ret (.bl false)) .nil) .nil) b_law_cuts_right_2a_1)
def b_law_cuts_right_2 : Ex := (.cons (.sfor (.tv 4) (.itR1 (.bin .add (.bi .len (.cons (.var 1) .nil)) (.int 1))) b_law_cuts_right_2a_0) b_law_cuts_right_3)
def b_law_cuts_right_1 : Ex := (.cons (.asg (.tv 3) (.var 0)) b_law_cuts_right_2)
def b_law_cuts_right_0 : Ex := (.cons (.asg (.tv 2) (.call 5 (.cons (.var 0) (.cons (.var 1) .nil)))) b_law_cuts_right_1)
def f_law_cuts_right : Fn := ⟨2, 5, b_law_cuts_right_0⟩
def b_law_turned_1 : Ex := (.cons (.ret (.comp (.mt .popi (.var 2) (.cons (.call 7 (.cons (.var 0) (.cons (.bi .len (.cons (.var 2) .nil)) .nil))) .nil)) (.tv 3) (.itR1 (.bi .len (.cons (.var 2) .nil))) .nil [3])) .nil)
def b_law_turned_0 : Ex := (.cons (.new (.asg (.tv 2) (.lsI (.bi .dict (.cons (.var 1) .nil))))) b_law_turned_1)
def f_law_turned : Fn := ⟨2, 4, b_law_turned_0⟩
def b_law_2 : Ex := (.cons (.ret (.bl true)) .nil)
def b_law_1a_8 : Ex := (.cons (.fz [8] (.sif (.cmp .ne (.call 5 (.cons (.var 6) (.cons (.var 8) .nil))) (.bin .add (.var 4) (.bin .mul (.tup (.cons (.int 0) .nil)) (.bin .sub (.bi .len (.cons (.var 6) .nil)) (.bi .len (.cons (.var 4) .nil)))))) (.cons (.ret (.bl false)) .nil) .nil)) .nil)
def b_law_1a_7 : Ex := (.cons (.asg (.tv 8) (.bin .add (.comp (.tup (.cons (.var 9) (.cons (.call 4 (.cons (.var 4) (.cons (.var 9) .nil))) .nil))) (.tv 9) (.itR1 (.var 3)) .nil [9]) (.comp (.tup (.cons (.var 9) (.cons (.tup (.cons (.int 0) (.cons (.int 0) (.cons (.int 0) (.cons (.int 0) .nil))))) .nil))) (.tv 9) (.itR2 (.var 3) (.bin .div (.bi .len (.cons (.var 6) .nil)) (.int 4))) .nil [9]))) b_law_1a_8)
def b_law_1a_6 : Ex := (.cons (.fz [5] (.sif (.or (.cmp .ne (.call 5 (.cons (.var 4) (.cons (.call 12 (.cons (.var 1) (.cons (.var 5) .nil))) .nil))) (.var 6)) (.one (.cmp .ne (.call 5 (.cons (.var 6) (.cons (.sl (.var 5) (.neg (.int 1)) .nil) .nil))) (.var 6)))) (.cons (.ret (.bl false)) .nil) .nil)) b_law_1a_7)
def b_law_1a_5 : Ex := (.cons (.fz [5] (.sif (.or (.not (.call 10 (.cons (.var 4) (.cons (.var 5) (.cons (.var 6) .nil))))) (.one (.not (.call 11 (.cons (.var 4) (.cons (.var 5) .nil)))))) (.cons (.ret (.bl false)) .nil) .nil)) b_law_1a_6)
def b_law_1a_4 : Ex := (.cons (.sif (.or (.cmp .ne (.comp (.var 7) (.tv 7) (.itS (.var 5)) (.cmp .isn (.call 3 (.cons (.var 7) .nil)) (.bl true)) [7]) (.lst .nil)) (.one (.cmp .isn (.call 2 (.cons (.var 6) .nil)) (.bl true)))) (.cons (.ret (.bl false)) .nil) .nil) b_law_1a_5)
def b_law_1a_3 : Ex := (.cons (.fz [5] (.asg (.tv 6) (.call 5 (.cons (.var 4) (.cons (.var 5) .nil))))) b_law_1a_4)
def b_law_1a_2 : Ex := (.cons (.asg (.tv 5) (.call 9 (.cons (.var 1) (.cons (.bin .add (.int 1) (.call 7 (.cons (.var 1) (.cons (.int 8) .nil)))) (.cons (.var 3) .nil))))) b_law_1a_3)
def b_law_1a_1 : Ex := (.cons (.asg (.tv 4) (.call 8 (.cons (.var 1) (.cons (.bin .mul (.int 4) (.var 3)) (.cons (.int 256) .nil))))) b_law_1a_2)
def b_law_1a_0 : Ex := (.cons (.asg (.tv 3) (.call 7 (.cons (.var 1) (.cons (.int 11) .nil)))) b_law_1a_1)
def b_law_1 : Ex := (.cons (.sfor (.tv 2) (.itR1 (.int 4)) b_law_1a_0) b_law_2)
def b_law_0 : Ex := (.cons (.asg (.tv 1) (.call 6 (.cons (.var 0) .nil))) b_law_1)
def f_law : Fn := ⟨1, 10, b_law_0⟩
def fns : List Fn := [f_is_whole, f_are_small, f_is_file, f_is_stroke, f_cell_of, f_stroked, f_law_pen, f_law_draw, f_law_numbers, f_law_strokes, f_law_cells_right, f_law_cuts_right, f_law_turned, f_law]
theorem call_is_whole {n : Nat} {x0 x1 x2 : Y.U} {s : Y.Sto} : Y.callN fns (n + 1) 0 [x0, x1, x2] s = ((Y.sem (Y.callN fns n) (.cons (.ret (.and (.isi (.var 0) .int) (.and (.not (.isi (.var 0) .bool)) (.one (.cmp2 .le .le (.var 1) (.var 0) (.var 2)))))) .nil)).s [.val x0, .val x1, .val x2] s).bind Y.fin := Y.call_eq (g := f_is_whole) rfl rfl
theorem call_are_small {n : Nat} {x0 : Y.U} {s : Y.Sto} : Y.callN fns (n + 1) 1 [x0] s = ((Y.sem (Y.callN fns n) (.cons (.ret (.and (.isi (.var 0) .tuple) (.one (.bi .all (.cons (.comp (.call 0 (.cons (.var 1) (.cons (.int 0) (.cons (.bin .sub (.glb 0 c_BASE) (.int 1)) .nil)))) (.tv 1) (.itS (.var 0)) .nil [1]) .nil))))) .nil)).s [.val x0, .no] s).bind Y.fin := Y.call_eq (g := f_are_small) rfl rfl
theorem call_is_file {n : Nat} {x0 : Y.U} {s : Y.Sto} : Y.callN fns (n + 1) 2 [x0] s = ((Y.sem (Y.callN fns n) (.cons (.ret (.and (.call 1 (.cons (.var 0) .nil)) (.and (.cmp .eq (.bin .mod (.bi .len (.cons (.var 0) .nil)) (.glb 1 c_WIDE)) (.int 0)) (.one (.cmp .le (.bi .len (.cons (.var 0) .nil)) (.bin .mul (.glb 1 c_WIDE) (.glb 2 c_MOST_CELLS))))))) .nil)).s [.val x0] s).bind Y.fin := Y.call_eq (g := f_is_file) rfl rfl
theorem call_is_stroke {n : Nat} {x0 : Y.U} {s : Y.Sto} : Y.callN fns (n + 1) 3 [x0] s = ((Y.sem (Y.callN fns n) b_is_stroke_0).s [.val x0] s).bind Y.fin := Y.call_eq (g := f_is_stroke) rfl rfl
theorem call_cell_of {n : Nat} {x0 x1 : Y.U} {s : Y.Sto} : Y.callN fns (n + 1) 4 [x0, x1] s = ((Y.sem (Y.callN fns n) (.cons (.ret (.sl (.var 0) (.bin .mul (.glb 1 c_WIDE) (.var 1)) (.bin .add (.bin .mul (.glb 1 c_WIDE) (.var 1)) (.glb 1 c_WIDE)))) .nil)).s [.val x0, .val x1] s).bind Y.fin := Y.call_eq (g := f_cell_of) rfl rfl
theorem call_stroked {n : Nat} {x0 x1 : Y.U} {s : Y.Sto} : Y.callN fns (n + 1) 5 [x0, x1] s = ((Y.sem (Y.callN fns n) b_stroked_0).s [.val x0, .val x1, .no, .no, .no] s).bind Y.fin := Y.call_eq (g := f_stroked) rfl rfl
theorem call_law_pen {n : Nat} {x0 : Y.U} {s : Y.Sto} : Y.callN fns (n + 1) 6 [x0] s = ((Y.sem (Y.callN fns n) Y.b_law_pen).s [.val x0] s).bind Y.fin := Y.call_eq (g := f_law_pen) rfl rfl
theorem call_law_draw {n : Nat} {x0 x1 : Y.U} {s : Y.Sto} : Y.callN fns (n + 1) 7 [x0, x1] s = ((Y.sem (Y.callN fns n) Y.b_law_draw_0).s [.val x0, .val x1, .no, .no, .no, .no, .no, .no] s).bind Y.fin := Y.call_eq (g := f_law_draw) rfl rfl
theorem call_law_numbers {n : Nat} {x0 x1 x2 : Y.U} {s : Y.Sto} : Y.callN fns (n + 1) 8 [x0, x1, x2] s = ((Y.sem (Y.callN fns n) b_law_numbers_0).s [.val x0, .val x1, .val x2, .no, .no] s).bind Y.fin := Y.call_eq (g := f_law_numbers) rfl rfl
theorem call_law_strokes {n : Nat} {x0 x1 x2 : Y.U} {s : Y.Sto} : Y.callN fns (n + 1) 9 [x0, x1, x2] s = ((Y.sem (Y.callN fns n) b_law_strokes_0).s [.val x0, .val x1, .val x2, .no, .no, .no] s).bind Y.fin := Y.call_eq (g := f_law_strokes) rfl rfl
theorem call_law_cells_right {n : Nat} {x0 x1 x2 : Y.U} {s : Y.Sto} : Y.callN fns (n + 1) 10 [x0, x1, x2] s = ((Y.sem (Y.callN fns n) b_law_cells_right_0).s [.val x0, .val x1, .val x2, .no, .no, .no, .no] s).bind Y.fin := Y.call_eq (g := f_law_cells_right) rfl rfl
theorem call_law_cuts_right {n : Nat} {x0 x1 : Y.U} {s : Y.Sto} : Y.callN fns (n + 1) 11 [x0, x1] s = ((Y.sem (Y.callN fns n) b_law_cuts_right_0).s [.val x0, .val x1, .no, .no, .no] s).bind Y.fin := Y.call_eq (g := f_law_cuts_right) rfl rfl
theorem call_law_turned {n : Nat} {x0 x1 : Y.U} {s : Y.Sto} : Y.callN fns (n + 1) 12 [x0, x1] s = ((Y.sem (Y.callN fns n) b_law_turned_0).s [.val x0, .val x1, .no, .no] s).bind Y.fin := Y.call_eq (g := f_law_turned) rfl rfl
theorem call_law {n : Nat} {x0 : Y.U} {s : Y.Sto} : Y.callN fns (n + 1) 13 [x0] s = ((Y.sem (Y.callN fns n) b_law_0).s [.val x0, .no, .no, .no, .no, .no, .no, .no, .no, .no] s).bind Y.fin := Y.call_eq (g := f_law) rfl rfl
def top (i : Nat) : PySem.Stmt := PySem.Challenge.pw_tornentries_k05_whole_strokes_one_by_one.main.body.getD i (.Pass ⟨0, 0, 0, 0⟩)
def G : Gt := { cs := [("BASE", c_BASE), ("WIDE", c_WIDE), ("MOST_CELLS", c_MOST_CELLS)], fs := ["is_whole", "are_small", "is_file", "is_stroke", "cell_of", "stroked", "_law_pen", "_law_draw", "_law_numbers", "_law_strokes", "_law_cells_right", "_law_cuts_right", "_law_turned", "law"], kf := [none, none, none, none, none, none, none, none, none, none, none, none, none, none], ds := [] }
theorem s_is_whole : DefSeen G (top 2) f_is_whole ["thing", "least", "most"] ["thing", "least", "most"] where
  sc := ⟨rfl, rfl, rfl, by decide +kernel, rfl, by decide +kernel, by decide +kernel⟩
  np := rfl
  nn := rfl
  ok := by decide +kernel
  bnd := fun _ _ _ _ _ _ _ us hl => match us, hl with | [_, _, _], _ => rfl
theorem s_are_small : DefSeen G (top 3) f_are_small ["thing", "one"] ["thing"] where
  sc := ⟨rfl, rfl, rfl, by decide +kernel, rfl, by decide +kernel, by decide +kernel⟩
  np := rfl
  nn := rfl
  ok := by decide +kernel
  bnd := fun _ _ _ _ _ _ _ us hl => match us, hl with | [_], _ => rfl
theorem s_is_file : DefSeen G (top 7) f_is_file ["thing"] ["thing"] where
  sc := ⟨rfl, rfl, rfl, by decide +kernel, rfl, by decide +kernel, by decide +kernel⟩
  np := rfl
  nn := rfl
  ok := by decide +kernel
  bnd := fun _ _ _ _ _ _ _ us hl => match us, hl with | [_], _ => rfl
theorem s_is_stroke : DefSeen G (top 8) f_is_stroke ["thing"] ["thing"] where
  sc := ⟨rfl, rfl, rfl, by decide +kernel, rfl, by decide +kernel, by decide +kernel⟩
  np := rfl
  nn := rfl
  ok := by decide +kernel
  bnd := fun _ _ _ _ _ _ _ us hl => match us, hl with | [_], _ => rfl
theorem s_cell_of : DefSeen G (top 9) f_cell_of ["file", "cell"] ["file", "cell"] where
  sc := ⟨rfl, rfl, rfl, by decide +kernel, rfl, by decide +kernel, by decide +kernel⟩
  np := rfl
  nn := rfl
  ok := by decide +kernel
  bnd := fun _ _ _ _ _ _ _ us hl => match us, hl with | [_, _], _ => rfl
theorem s_stroked : DefSeen G (top 10) f_stroked ["file", "strokes", "found", "cell", "numbers"] ["file", "strokes"] where
  sc := ⟨rfl, rfl, rfl, by decide +kernel, rfl, by decide +kernel, by decide +kernel⟩
  np := rfl
  nn := rfl
  ok := by decide +kernel
  bnd := fun _ _ _ _ _ _ _ us hl => match us, hl with | [_, _], _ => rfl
theorem s_law_pen : DefSeen G (top 12) f_law_pen ["_law_script"] ["_law_script"] where
  sc := ⟨rfl, rfl, rfl, by decide +kernel, rfl, by decide +kernel, by decide +kernel⟩
  np := rfl
  nn := rfl
  ok := by decide +kernel
  bnd := fun _ _ _ _ _ _ _ us hl => match us, hl with | [_], _ => rfl
theorem s_law_draw : DefSeen G (top 13) f_law_draw ["_law_pen_here", "_law_many", "_law_found", "_law_at", "_law_cell", "_law_whole", "_law_one", "_law_two"] ["_law_pen_here", "_law_many"] where
  sc := ⟨rfl, rfl, rfl, by decide +kernel, rfl, by decide +kernel, by decide +kernel⟩
  np := rfl
  nn := rfl
  ok := by decide +kernel
  bnd := fun _ _ _ _ _ _ _ us hl => match us, hl with | [_, _], _ => rfl
theorem s_law_numbers : DefSeen G (top 14) f_law_numbers ["_law_pen_here", "_law_many", "_law_limit", "_law_ends", "_law_k"] ["_law_pen_here", "_law_many", "_law_limit"] where
  sc := ⟨rfl, rfl, rfl, by decide +kernel, rfl, by decide +kernel, by decide +kernel⟩
  np := rfl
  nn := rfl
  ok := by decide +kernel
  bnd := fun _ _ _ _ _ _ _ us hl => match us, hl with | [_, _, _], _ => rfl
theorem s_law_strokes : DefSeen G (top 15) f_law_strokes ["_law_pen_here", "_law_many", "_law_top", "_law_found", "_law_k", "_law_cell"] ["_law_pen_here", "_law_many", "_law_top"] where
  sc := ⟨rfl, rfl, rfl, by decide +kernel, rfl, by decide +kernel, by decide +kernel⟩
  np := rfl
  nn := rfl
  ok := by decide +kernel
  bnd := fun _ _ _ _ _ _ _ us hl => match us, hl with | [_, _, _], _ => rfl
theorem s_law_cells_right : DefSeen G (top 16) f_law_cells_right ["_law_file", "_law_strokes_here", "_law_later", "_law_last", "_law_k", "_law_due", "_law_cell"] ["_law_file", "_law_strokes_here", "_law_later"] where
  sc := ⟨rfl, rfl, rfl, by decide +kernel, rfl, by decide +kernel, by decide +kernel⟩
  np := rfl
  nn := rfl
  ok := by decide +kernel
  bnd := fun _ _ _ _ _ _ _ us hl => match us, hl with | [_, _, _], _ => rfl
theorem s_law_cuts_right : DefSeen G (top 17) f_law_cuts_right ["_law_file", "_law_strokes_here", "_law_whole", "_law_one", "_law_at"] ["_law_file", "_law_strokes_here"] where
  sc := ⟨rfl, rfl, rfl, by decide +kernel, rfl, by decide +kernel, by decide +kernel⟩
  np := rfl
  nn := rfl
  ok := by decide +kernel
  bnd := fun _ _ _ _ _ _ _ us hl => match us, hl with | [_, _], _ => rfl
theorem s_law_turned : DefSeen G (top 18) f_law_turned ["_law_pen_here", "_law_strokes_here", "_law_left", "_law_k"] ["_law_pen_here", "_law_strokes_here"] where
  sc := ⟨rfl, rfl, rfl, by decide +kernel, rfl, by decide +kernel, by decide +kernel⟩
  np := rfl
  nn := rfl
  ok := by decide +kernel
  bnd := fun _ _ _ _ _ _ _ us hl => match us, hl with | [_, _], _ => rfl
theorem s_law : DefSeen G (top 19) f_law ["_law_script", "_law_pen_here", "_law_turn", "_law_top", "_law_file", "_law_strokes_here", "_law_later", "_law_one", "_law_back", "_law_k"] ["_law_script"] where
  sc := ⟨rfl, rfl, rfl, by decide +kernel, rfl, by decide +kernel, by decide +kernel⟩
  np := rfl
  nn := rfl
  ok := by decide +kernel
  bnd := fun _ _ _ _ _ _ _ us hl => match us, hl with | [_], _ => rfl
section
variable {K : PySem.W.Frag} {h : PySem.Heap} {mg : PySem.Str → Option PySem.Value}
theorem text (X : K.In h) (Gn : h.Ns PySem.mainGlobals mg) (z0 : CstIs K mg "BASE" c_BASE) (z1 : CstIs K mg "WIDE" c_WIDE) (z2 : CstIs K mg "MOST_CELLS" c_MOST_CELLS) (d0 : DefFact K "is_whole" "is_whole" (top 2)) (d1 : DefFact K "are_small" "are_small" (top 3)) (d2 : DefFact K "is_file" "is_file" (top 7)) (d3 : DefFact K "is_stroke" "is_stroke" (top 8)) (d4 : DefFact K "cell_of" "cell_of" (top 9)) (d5 : DefFact K "stroked" "stroked" (top 10)) (d6 : DefFact K "_law_pen" "_law_pen" (top 12)) (d7 : DefFact K "_law_draw" "_law_draw" (top 13)) (d8 : DefFact K "_law_numbers" "_law_numbers" (top 14)) (d9 : DefFact K "_law_strokes" "_law_strokes" (top 15)) (d10 : DefFact K "_law_cells_right" "_law_cells_right" (top 16)) (d11 : DefFact K "_law_cuts_right" "_law_cuts_right" (top 17)) (d12 : DefFact K "_law_turned" "_law_turned" (top 18)) (d13 : DefFact K "law" "law" (top 19)) (b0 : PySem.W.nsIn K PySem.mainGlobals "len" = some none) (b1 : PySem.W.nsIn K PySem.mainGlobals "abs" = some none) (b2 : PySem.W.nsIn K PySem.mainGlobals "int" = some none) (b3 : PySem.W.nsIn K PySem.mainGlobals "all" = some none) (b4 : PySem.W.nsIn K PySem.mainGlobals "any" = some none) (b5 : PySem.W.nsIn K PySem.mainGlobals "list" = some none) (b6 : PySem.W.nsIn K PySem.mainGlobals "tuple" = some none) (b7 : PySem.W.nsIn K PySem.mainGlobals "divmod" = some none) (b8 : PySem.W.nsIn K PySem.mainGlobals "sum" = some none) (b9 : PySem.W.nsIn K PySem.mainGlobals "min" = some none) (b10 : PySem.W.nsIn K PySem.mainGlobals "max" = some none) (b11 : PySem.W.nsIn K PySem.mainGlobals "ord" = some none) (b12 : PySem.W.nsIn K PySem.mainGlobals "chr" = some none) (b13 : PySem.W.nsIn K PySem.mainGlobals "str" = some none) (b14 : PySem.W.nsIn K PySem.mainGlobals "repr" = some none) (b15 : PySem.W.nsIn K PySem.mainGlobals "sorted" = some none) (b16 : PySem.W.nsIn K PySem.mainGlobals "isinstance" = some none) (b17 : PySem.W.nsIn K PySem.mainGlobals "range" = some none) (b18 : PySem.W.nsIn K PySem.mainGlobals "bool" = some none) (b19 : PySem.W.nsIn K PySem.mainGlobals "dict" = some none) (b20 : PySem.W.nsIn K PySem.mainGlobals "set" = some none) (b21 : PySem.W.nsIn K PySem.mainGlobals "enumerate" = some none) (b22 : PySem.W.nsIn K PySem.mainGlobals "zip" = some none) (b23 : PySem.W.nsIn K PySem.mainGlobals "reversed" = some none)  : TextOk K mg G fns ∧ ∃ g f fd qual st N, fns[13]? = some g ∧ G.kw 13 = none ∧ DefAt K mg G none "law" g f fd qual st N ["_law_script"] := by
  have e0 := def_at X Gn d0 s_is_whole
  have e1 := def_at X Gn d1 s_are_small
  have e2 := def_at X Gn d2 s_is_file
  have e3 := def_at X Gn d3 s_is_stroke
  have e4 := def_at X Gn d4 s_cell_of
  have e5 := def_at X Gn d5 s_stroked
  have e6 := def_at X Gn d6 s_law_pen
  have e7 := def_at X Gn d7 s_law_draw
  have e8 := def_at X Gn d8 s_law_numbers
  have e9 := def_at X Gn d9 s_law_strokes
  have e10 := def_at X Gn d10 s_law_cells_right
  have e11 := def_at X Gn d11 s_law_cuts_right
  have e12 := def_at X Gn d12 s_law_turned
  have e13 := def_at X Gn d13 s_law
  refine ⟨text_ok ?_ (.cons e0 (.cons e1 (.cons e2 (.cons e3 (.cons e4 (.cons e5 (.cons e6 (.cons e7 (.cons e8 (.cons e9 (.cons e10 (.cons e11 (.cons e12 (.cons e13 .nil)))))))))))))) ?_ ?_, ?_⟩
  · rintro p hp
    repeat (first | (rcases List.mem_cons.mp hp with rfl | hp; · assumption) | cases hp)
  · rintro x hx
    repeat (first | (rcases List.mem_cons.mp hx with rfl | hx; · exact PySem.W.mg_none_of X Gn (by assumption)) | cases hx)
  · rintro p hp; cases hp
  · obtain ⟨f, fd, e⟩ := e13
    exact ⟨_, f, fd, _, _, _, rfl, rfl, e⟩
end
end K.k05
namespace K.k05
/-! cells: a file as a list of cells of four -/
abbrev Cell := List Int
abbrev Stk := Nat × Cell
def z4 : Cell := [0, 0, 0, 0]
def setC (C : List Cell) (x : Stk) : List Cell := (C ++ List.replicate (x.1 + 1 - C.length) z4).set x.1 x.2
def setsC (C : List Cell) (L : List Stk) : List Cell := L.foldl setC C
def at4 (C : List Cell) (k : Nat) : Cell := C[k]?.getD z4
theorem len_setC {C : List Cell} {x : Stk} : (setC C x).length = max C.length (x.1 + 1) := by
  unfold setC; simp; omega
theorem at_setC {C : List Cell} {x : Stk} {k : Nat} : at4 (setC C x) k = if k = x.1 then x.2 else at4 C k := by
  unfold at4 setC
  rw [List.getElem?_set]
  by_cases h : x.1 = k
  · rw [if_pos h, if_pos h.symm, if_pos (by simp; omega)]; rfl
  · rw [if_neg h, if_neg (Ne.symm h)]
    by_cases hk : k < C.length
    · rw [List.getElem?_append_left hk]
    · rw [List.getElem?_append_right (by omega), List.getElem?_replicate, List.getElem?_eq_none (by omega)]
      split <;> rfl
theorem ext4 {A B : List Cell} (hl : A.length = B.length) (h : ∀ k, at4 A k = at4 B k) : A = B := by
  apply List.ext_getElem? 
  intro k
  have := h k
  unfold at4 at this
  by_cases hk : k < A.length
  · rw [List.getElem?_eq_getElem hk, List.getElem?_eq_getElem (by omega)] at this ⊢
    exact congrArg some this
  · rw [List.getElem?_eq_none (by omega), List.getElem?_eq_none (by omega)]
theorem len_setsC : ∀ {L : List Stk} {C : List Cell} {n : Nat}, (setsC C L).length ≤ n ↔ C.length ≤ n ∧ ∀ x ∈ L, x.1 + 1 ≤ n
  | [], C, n => by simp [setsC]
  | x :: L, C, n => by
    show (setsC (setC C x) L).length ≤ n ↔ _
    rw [len_setsC, len_setC]
    simp only [List.mem_cons, forall_eq_or_imp]
    constructor
    · rintro ⟨h, k⟩; exact ⟨by omega, by omega, k⟩
    · rintro ⟨h, k, j⟩; exact ⟨by omega, j⟩
theorem len_eq {A B : List Cell} (h : ∀ n, A.length ≤ n ↔ B.length ≤ n) : A.length = B.length := by
  have := (h B.length).mpr (Nat.le_refl _)
  have := (h A.length).mp (Nat.le_refl _)
  omega
/-- uniform: cells of four -/
def Uni (C : List Cell) : Prop := ∀ c ∈ C, c.length = 4
theorem uni_setC {C : List Cell} {x : Stk} (h : Uni C) (k : x.2.length = 4) : Uni (setC C x) := by
  intro c hc
  unfold setC at hc
  rcases List.mem_or_eq_of_mem_set hc with hc | rfl
  · rcases List.mem_append.mp hc with hc | hc
    · exact h c hc
    · rw [(List.mem_replicate.mp hc).2]; rfl
  · exact k
theorem uni_setsC : ∀ {L : List Stk} {C : List Cell}, Uni C → (∀ x ∈ L, x.2.length = 4) → Uni (setsC C L)
  | [], C, h, _ => h
  | x :: L, C, h, k => uni_setsC (L := L) (uni_setC h (k x List.mem_cons_self)) fun y hy => k y (List.mem_cons_of_mem _ hy)
/-! flat -/
theorem Uni.tail {c : Cell} {C : List Cell} (h : Uni (c :: C)) : c.length = 4 ∧ Uni C := ⟨h c List.mem_cons_self, fun x hx => h x (List.mem_cons_of_mem _ hx)⟩
theorem flat_len : ∀ {C : List Cell}, Uni C → C.flatten.length = 4 * C.length
  | [], _ => rfl
  | c :: C, h => by
    obtain ⟨h1, h2⟩ := h.tail
    rw [List.flatten_cons, List.length_append, h1, flat_len h2, List.length_cons]; omega
theorem flat_rep (n : Nat) : (List.replicate n z4).flatten = List.replicate (4 * n) 0 := by
  induction n with
  | zero => rfl
  | succ n ih => rw [List.replicate_succ, List.flatten_cons, ih, show 4 * (n + 1) = 4 * n + 1 + 1 + 1 + 1 by omega]; rfl
theorem flat_set : ∀ {C : List Cell} {c : Nat} {ns : Cell}, Uni C → c < C.length → (C.set c ns).flatten = C.flatten.take (4 * c) ++ ns ++ C.flatten.drop (4 * c + 4)
  | [], c, ns, _, h => by simp at h
  | x :: C, 0, ns, h, _ => by
    obtain ⟨h1, h2⟩ := h.tail
    simp [List.drop_append, h1]
  | x :: C, c + 1, ns, h, k => by
    obtain ⟨h1, h2⟩ := h.tail
    have ih := flat_set (ns := ns) (c := c) h2 (by simpa using k)
    rw [List.set_cons_succ, List.flatten_cons, List.flatten_cons, ih, List.take_append, List.drop_append, h1, show 4 * (c + 1) - 4 = 4 * c by omega, show 4 * (c + 1) + 4 - 4 = 4 * c + 4 by omega, List.take_of_length_le (l := x) (i := 4 * (c + 1)) (by omega), List.drop_of_length_le (l := x) (i := 4 * (c + 1) + 4) (by omega)]
    simp
theorem flat_cell : ∀ {C : List Cell} {k : Nat}, Uni C → k < C.length → (C.flatten.drop (4 * k)).take 4 = at4 C k
  | [], k, _, h => by simp at h
  | x :: C, 0, h, _ => by
    obtain ⟨h1, h2⟩ := h.tail
    rw [List.flatten_cons, List.drop_zero, List.take_append, h1, List.take_of_length_le (by omega)]
    simp [at4]
  | x :: C, k + 1, h, hk => by
    obtain ⟨h1, h2⟩ := h.tail
    have ih := flat_cell (k := k) h2 (by simpa using hk)
    rw [List.flatten_cons, List.drop_append, h1, List.drop_of_length_le (l := x) (by omega), show 4 * (k + 1) - 4 = 4 * k by omega, List.nil_append, ih]
    rfl
/-- as the text does it -/
theorem flat_step {C : List Cell} {x : Stk} (h : Uni C) (k : x.2.length = 4) : (setC C x).flatten = (C.flatten ++ List.replicate (4 * (x.1 + 1) - C.flatten.length) 0).take (4 * x.1) ++ x.2 ++ (C.flatten ++ List.replicate (4 * (x.1 + 1) - C.flatten.length) 0).drop (4 * x.1 + 4) := by
  unfold setC
  have u : Uni (C ++ List.replicate (x.1 + 1 - C.length) z4) := by
    intro c hc
    rcases List.mem_append.mp hc with hc | hc
    · exact h c hc
    · rw [(List.mem_replicate.mp hc).2]; rfl
  rw [flat_set u (by simp; omega), List.flatten_append, flat_rep, flat_len h, show 4 * (x.1 + 1 - C.length) = 4 * (x.1 + 1) - 4 * C.length by omega]
/-! dicts of strokes -/
def lookS (D : List Stk) (k : Nat) : Option Cell := (D.find? fun kv => decide (kv.1 = k)).map (·.2)
def putS (D : List Stk) (c : Nat) (v : Cell) : List Stk := if D.any (fun kv => decide (kv.1 = c)) then D.map (fun kv => if kv.1 = c then (kv.1, v) else kv) else D ++ [(c, v)]
def mrgS (L : List Stk) : List Stk := L.foldl (fun acc kv => putS acc kv.1 kv.2) []
def Nd (D : List Stk) : Prop := (D.map (·.1)).Nodup
theorem look_map {D : List Stk} {c : Nat} {v : Cell} {k : Nat} : lookS (D.map (fun kv => if kv.1 = c then (kv.1, v) else kv)) k = if k = c then (lookS D k).map fun _ => v else lookS D k := by
  induction D with
  | nil => simp [lookS]
  | cons d D ih =>
    unfold lookS at ih ⊢
    simp only [List.map_cons, List.find?_cons]
    by_cases hd : d.1 = c
    · by_cases hk : k = c
      · subst hk; simp [hd]
      · have : ¬ d.1 = k := by omega
        have h2 : ¬ c = k := by omega
        simp [hd, hk, h2] at ih ⊢; exact ih
    · by_cases hk : d.1 = k
      · have : ¬ k = c := by omega
        simp [hd, hk, this]
      · simp [hd, hk] at ih ⊢; exact ih
theorem look_put {D : List Stk} {c : Nat} {v : Cell} {k : Nat} : lookS (putS D c v) k = if k = c then some v else lookS D k := by
  unfold putS
  split
  · rename_i h
    rw [look_map]
    by_cases hk : k = c
    · rw [if_pos hk, if_pos hk]
      subst hk
      unfold lookS
      cases hf : D.find? fun kv => decide (kv.1 = k) with
      | some d => rfl
      | none =>
        rw [List.find?_eq_none] at hf
        obtain ⟨d, hd, e⟩ := List.any_eq_true.mp h
        exact (hf d hd e).elim
    · rw [if_neg hk, if_neg hk]
  · rename_i h
    unfold lookS
    rw [List.find?_append]
    have hn : ∀ d ∈ D, d.1 ≠ c := by
      intro d hd e
      exact h (List.any_eq_true.mpr ⟨d, hd, by simpa using e⟩)
    by_cases hk : k = c
    · subst hk
      rw [List.find?_eq_none.mpr fun d hd => by simpa using hn d hd]
      simp
    · have : ¬ c = k := by omega
      simp [hk, this]
theorem keys_put {D : List Stk} {c : Nat} {v : Cell} {n : Nat} : (∀ x ∈ putS D c v, x.1 + 1 ≤ n) ↔ (∀ x ∈ D, x.1 + 1 ≤ n) ∧ c + 1 ≤ n := by
  unfold putS
  split
  · rename_i h
    obtain ⟨d, hd, e⟩ := List.any_eq_true.mp h
    have e : d.1 = c := by simpa using e
    constructor
    · intro k
      have k2 : ∀ x ∈ D, x.1 + 1 ≤ n := by
        intro x hx
        have := k (if x.1 = c then (x.1, v) else x) (List.mem_map.mpr ⟨x, hx, rfl⟩)
        split at this <;> simpa using this
      exact ⟨k2, by have := k2 d hd; omega⟩
    · rintro ⟨k, _⟩ x hx
      obtain ⟨y, hy, rfl⟩ := List.mem_map.mp hx
      have := k y hy
      split <;> simpa using this
  · simp only [List.mem_append, List.mem_singleton]
    constructor
    · intro k
      exact ⟨fun x hx => k x (.inl hx), by simpa using k _ (.inr rfl)⟩
    · rintro ⟨k, j⟩ x (hx | rfl)
      · exact k x hx
      · exact j
theorem nd_put {D : List Stk} {c : Nat} {v : Cell} (h : Nd D) : Nd (putS D c v) := by
  unfold putS Nd at *
  split
  · rw [List.map_map, show ((fun x : Stk => x.1) ∘ fun kv : Stk => if kv.1 = c then (kv.1, v) else kv) = (fun x : Stk => x.1) by funext x; simp only [Function.comp]; split <;> rfl]
    exact h
  · rename_i hn
    rw [List.map_append, List.nodup_append]
    refine ⟨h, by simp, ?_⟩
    intro a ha b hb e
    simp only [List.map_cons, List.map_nil, List.mem_singleton] at hb
    obtain ⟨d, hd, rfl⟩ := List.mem_map.mp ha
    exact hn (List.any_eq_true.mpr ⟨d, hd, by simp [e, hb]⟩)
/-- what a dict of strokes keeps: the last -/
theorem mrg_inv : ∀ (L : List Stk) (C C0 : List Cell) (D : List Stk), Nd D → (∀ k, at4 C k = (lookS D k).getD (at4 C0 k)) → (∀ n, C.length ≤ n ↔ C0.length ≤ n ∧ ∀ x ∈ D, x.1 + 1 ≤ n) →
    Nd (L.foldl (fun acc kv => putS acc kv.1 kv.2) D) ∧ (∀ k, at4 (setsC C L) k = (lookS (L.foldl (fun acc kv => putS acc kv.1 kv.2) D) k).getD (at4 C0 k)) ∧ (∀ n, (setsC C L).length ≤ n ↔ C0.length ≤ n ∧ ∀ x ∈ L.foldl (fun acc kv => putS acc kv.1 kv.2) D, x.1 + 1 ≤ n)
  | [], C, C0, D, h0, h1, h2 => ⟨h0, h1, h2⟩
  | x :: L, C, C0, D, h0, h1, h2 => by
    refine mrg_inv L (setC C x) C0 (putS D x.1 x.2) (nd_put h0) (fun k => ?_) (fun n => ?_)
    · rw [at_setC, look_put]
      split
      · rfl
      · exact h1 k
    · rw [keys_put, len_setC]
      have := h2 n
      constructor
      · intro k
        obtain ⟨a, b⟩ := this.mp (by omega)
        exact ⟨a, b, by omega⟩
      · rintro ⟨a, b, c⟩
        have := this.mpr ⟨a, b⟩
        omega
theorem mrg_all (C : List Cell) (L : List Stk) : Nd (mrgS L) ∧ (∀ k, at4 (setsC C L) k = (lookS (mrgS L) k).getD (at4 C k)) ∧ (∀ n, (setsC C L).length ≤ n ↔ C.length ≤ n ∧ ∀ x ∈ mrgS L, x.1 + 1 ≤ n) :=
  mrg_inv L C C [] (by simp [Nd]) (fun k => by simp [lookS]) (fun n => by simp)
theorem look_none {D : List Stk} {k : Nat} (h : ∀ x ∈ D, x.1 ≠ k) : lookS D k = none := by
  unfold lookS
  rw [List.find?_eq_none.mpr fun d hd => by simpa using h d hd]
  rfl
/-- .. of strokes with a cell each -/
theorem at_sets : ∀ {D : List Stk} {C : List Cell} {k : Nat}, Nd D → at4 (setsC C D) k = (lookS D k).getD (at4 C k)
  | [], C, k, _ => by simp [setsC, lookS]
  | x :: D, C, k, h => by
    have h1 : x.1 ∉ D.map (·.1) ∧ Nd D := List.nodup_cons.mp h
    show at4 (setsC (setC C x) D) k = _
    rw [at_sets h1.2, at_setC]
    unfold lookS
    rw [List.find?_cons]
    by_cases hk : x.1 = k
    · subst hk
      have : lookS D x.1 = none := look_none fun y hy e => h1.1 (List.mem_map.mpr ⟨y, hy, e⟩)
      unfold lookS at this
      simp [this]
    · have : ¬ k = x.1 := fun e => hk e.symm
      simp [hk, this]
theorem sets_mrg {C : List Cell} {L : List Stk} : setsC C (mrgS L) = setsC C L := by
  obtain ⟨h1, h2, h3⟩ := mrg_all C L
  refine ext4 (len_eq fun n => ?_) fun k => ?_
  · rw [len_setsC, h3]
  · rw [at_sets h1, h2]
theorem sets_perm {C : List Cell} {A B : List Stk} (p : A.Perm B) (h : Nd A) : setsC C A = setsC C B := by
  refine List.Perm.foldl_eq' p (fun x hx y hy C => ?_) C
  by_cases e : x.1 = y.1
  · have : x = y := by
      have inj := (List.pairwise_map.mp (List.nodup_iff_pairwise_ne.mp h))
      by_cases e2 : x = y
      · exact e2
      · exfalso
        obtain ⟨i, hi, rfl⟩ := List.getElem_of_mem hx
        obtain ⟨j, hj, rfl⟩ := List.getElem_of_mem hy
        rcases Nat.lt_trichotomy i j with lt | rfl | gt
        · exact List.pairwise_iff_getElem.mp inj i j hi hj lt e
        · exact e2 rfl
        · exact List.pairwise_iff_getElem.mp inj j i hj hi gt e.symm
    rw [this]
  · refine ext4 (by rw [len_setC, len_setC, len_setC, len_setC]; omega) fun k => ?_
    simp only [at_setC]
    by_cases a : k = x.1
    · have : ¬ k = y.1 := by omega
      simp [a, this]; intro b; exact (e b).elim
    · simp [a]
theorem set_last {C : List Cell} {L : List Stk} {x : Stk} : setC (setsC C (L ++ [x])) x = setsC C (L ++ [x]) := by
  have e : setsC C (L ++ [x]) = setC (setsC C L) x := by simp [setsC]
  rw [e]
  refine ext4 (by rw [len_setC, len_setC]; omega) fun k => ?_
  simp only [at_setC]
  split <;> rfl
def backS (C : List Cell) (m : Nat) : List Stk := ((List.range C.length).map fun k => (k, at4 C k)) ++ ((List.range (m - C.length)).map fun i => (C.length + i, z4))
theorem sets_back {C E : List Cell} (h : C.length ≤ E.length) : setsC E (backS C E.length) = C ++ List.replicate (E.length - C.length) z4 := by
  have nd : Nd (backS C E.length) := by
    unfold Nd backS
    rw [List.map_append, List.map_map, List.map_map, List.nodup_append]
    refine ⟨by simpa [Function.comp_def] using List.nodup_range, ?_, ?_⟩
    · rw [List.nodup_iff_pairwise_ne, List.pairwise_map]
      refine List.Pairwise.imp ?_ (List.nodup_iff_pairwise_ne.mp (List.nodup_range (n := E.length - C.length)))
      intro a b hab; simp only [Function.comp]; omega
    · intro a ha b hb
      simp at ha hb
      omega
  have look : ∀ k, lookS (backS C E.length) k = if k < C.length then some (at4 C k) else if k < E.length then some z4 else none := by
    intro k
    have pick : ∀ v, (k, v) ∈ backS C E.length → lookS (backS C E.length) k = some v := by
      intro v hv
      unfold lookS
      cases hf : (backS C E.length).find? fun kv => decide (kv.1 = k) with
      | none => exact ((List.find?_eq_none.mp hf) _ hv (by simp)).elim
      | some d =>
        have hm := List.mem_of_find?_eq_some hf
        have hk := List.find?_some hf
        have hk : d.1 = k := by simpa using hk
        have := List.pairwise_map.mp (List.nodup_iff_pairwise_ne.mp nd)
        obtain ⟨i, hi, e1⟩ := List.getElem_of_mem hm
        obtain ⟨j, hj, e2⟩ := List.getElem_of_mem hv
        rcases Nat.lt_trichotomy i j with lt | rfl | gt
        · exact (List.pairwise_iff_getElem.mp this i j hi hj lt (by rw [e1, e2]; exact hk)).elim
        · rw [e1] at e2; rw [e2]; rfl
        · exact (List.pairwise_iff_getElem.mp this j i hj hi gt (by rw [e1, e2]; exact hk.symm)).elim
    split
    · rename_i hk
      exact pick _ (List.mem_append.mpr (.inl (List.mem_map.mpr ⟨k, by simpa using hk, rfl⟩)))
    · split
      · rename_i h1 h2
        exact pick _ (List.mem_append.mpr (.inr (List.mem_map.mpr ⟨k - C.length, by simp; omega, by simp; omega⟩)))
      · rename_i h1 h2
        refine look_none fun x hx => ?_
        rcases List.mem_append.mp hx with hx | hx
        · obtain ⟨i, hi, rfl⟩ := List.mem_map.mp hx; simp at hi ⊢; omega
        · obtain ⟨i, hi, rfl⟩ := List.mem_map.mp hx; simp at hi ⊢; omega
  refine ext4 ?_ fun k => ?_
  · have : ∀ n, (setsC E (backS C E.length)).length ≤ n ↔ E.length ≤ n := by
      intro n
      rw [len_setsC]
      constructor
      · exact fun h => h.1
      · intro hn
        refine ⟨hn, fun x hx => ?_⟩
        rcases List.mem_append.mp hx with hx | hx
        · obtain ⟨i, hi, rfl⟩ := List.mem_map.mp hx; simp at hi ⊢; omega
        · obtain ⟨i, hi, rfl⟩ := List.mem_map.mp hx; simp at hi ⊢; omega
    rw [len_eq this]; simp; omega
  · rw [at_sets nd, look]
    unfold at4
    by_cases h1 : k < C.length
    · rw [if_pos h1, List.getElem?_append_left h1]; rfl
    · rw [if_neg h1, List.getElem?_append_right (by omega), List.getElem?_replicate]
      by_cases h2 : k < E.length
      · rw [if_pos h2, if_pos (by omega)]; rfl
      · rw [if_neg h2, if_neg (by omega), List.getElem?_eq_none (by omega)]
        rfl
def fl (C : List Cell) : List Int := C.flatten
theorem fl_len {C : List Cell} (h : Uni C) : (fl C).length = 4 * C.length := flat_len h
theorem fl_cell {C : List Cell} {k : Nat} (h : Uni C) (hk : k < C.length) : ((fl C).drop (4 * k)).take 4 = at4 C k := flat_cell h hk
theorem fl_step {C : List Cell} {x : Stk} (h : Uni C) (k : x.2.length = 4) : fl (setC C x) = (fl C ++ List.replicate (4 * (x.1 + 1) - (fl C).length) 0).take (4 * x.1) ++ x.2 ++ (fl C ++ List.replicate (4 * (x.1 + 1) - (fl C).length) 0).drop (4 * x.1 + 4) := flat_step h k
theorem fl_mem {C : List Cell} {z : Int} : z ∈ fl C ↔ ∃ c ∈ C, z ∈ c := List.mem_flatten
end K.k05
namespace K.k05
open Y PySem
open Z (Ky Ex Fn D)
@[simp] theorem g_base : ofD c_BASE = .int 256 := rfl
@[simp] theorem g_wide : ofD c_WIDE = .int 4 := rfl
@[simp] theorem g_most : ofD c_MOST_CELLS = .int 1000 := rfl
@[simp] theorem p_base : plainD c_BASE = true := rfl
@[simp] theorem p_wide : plainD c_WIDE = true := rfl
@[simp] theorem p_most : plainD c_MOST_CELLS = true := rfl
def tI (a : List Int) : List U := a.map .int
@[simp] theorem tI_len {a : List Int} : (tI a).length = a.length := List.length_map _
theorem tI_app {a b : List Int} : tI a ++ tI b = tI (a ++ b) := (List.map_append).symm
theorem tI_take {a : List Int} {k : Nat} : (tI a).take k = tI (a.take k) := (List.map_take).symm
theorem tI_drop {a : List Int} {k : Nat} : (tI a).drop k = tI (a.drop k) := (List.map_drop).symm
def st (x : Stk) : U := .tup [.int x.1, .tup (tI x.2)]
theorem eqD_tup {a b : List Int} {s : Sto} : eqD s (.tup (tI a)) (.tup (tI b)) = some (decide (a = b)) := by
  show (if ((tI a).isEmpty || (tI b).isEmpty) = true then _ else _) = _
  cases a with
  | nil => cases b <;> simp [tI]
  | cons x a => cases b with
    | nil => simp [tI]
    | cons y b =>
      obtain ⟨a1, a2⟩ := ints_lay (x :: a)
      obtain ⟨b1, b2⟩ := ints_lay (y :: b)
      rw [if_neg (by simp [tI])]
      unfold tI
      rw [if_pos (by rw [a1, a2, b1, b2]; simp), eqvAll_ints]
theorem cmp_eqTi {a b : List Int} {s : Sto} : cmp .eq (.tup (tI a)) (.tup (tI b)) s = .ok (.bl (decide (a = b))) s := cmp_eq_of eqD_tup
theorem cmp_neTi {a b : List Int} {s : Sto} : cmp .ne (.tup (tI a)) (.tup (tI b)) s = .ok (.bl (!decide (a = b))) s := cmp_ne_of eqD_tup
/-! what is a stroke, a file -/
def Byte (z : Int) : Prop := 0 ≤ z ∧ z < 256
theorem whole_eq {n : Nat} {i a b : Int} {s : Sto} : callN fns (n + 1) 0 [.int i, .int a, .int b] s = .ok (false, .bl (decide (a ≤ i) && decide (i ≤ b))) s := by
  rw [call_is_whole]
  simp [ys_cons]
  by_cases h : a ≤ i <;> simp [h]
theorem small_eq {n : Nat} {a : List Int} {s : Sto} (h : ∀ z ∈ a, Byte z) (hl : a.length ≤ 100000) : callN fns (n + 2) 1 [.tup (tI a)] s = .ok (false, .bl true) s := by
  rw [call_are_small]
  simp [ys_cons]
  rw [comp_map (s := s) (its := tI a) (l0 := [.val (.tup (tI a)), .no]) (fun d => .bl true) (by simp) rfl (by simp; omega) (fun d hd => by
    obtain ⟨z, hz, rfl⟩ := List.mem_map.mp hd
    have := h z hz
    unfold Byte at this
    simp [whole_eq, this.1, show z ≤ 255 by omega])]
  simp only [R.bind_ok, bi_allM]
  simp
theorem file_eq {n : Nat} {C : List Cell} {s : Sto} (u : Uni C) (hl : C.length ≤ 1000) (h : ∀ c ∈ C, ∀ z ∈ c, Byte z) : callN fns (n + 3) 2 [.tup (tI (fl C))] s = .ok (false, .bl true) s := by
  rw [call_is_file]
  have hf := fl_len u
  have hz : ∀ z ∈ (fl C), Byte z := by
    intro z hz
    obtain ⟨c, hc, h2⟩ := fl_mem.mp hz
    exact h c hc z h2
  simp [ys_cons, small_eq hz (by omega)]
  rw [hf, bin_mod (by omega)]
  simp
  simp [bin_mulL]
  omega
structure SOk (x : Stk) : Prop where
  c : x.1 ≤ 999
  l : x.2.length = 4
  b : ∀ z ∈ x.2, Byte z
theorem stroke_eq {n : Nat} {x : Stk} {s : Sto} (h : SOk x) : callN fns (n + 3) 3 [st x] s = .ok (false, .bl true) s := by
  rw [call_is_stroke]
  unfold b_is_stroke_0
  have a1 : ∀ s, opIx (st x) (.int 0) s = .ok (.int x.1) s := fun s => rfl
  have a2 : ∀ s, opIx (st x) (.int 1) s = .ok (.tup (tI x.2)) s := fun s => rfl
  have a3 : biF .len [st x] s = .ok (.int 2) s := rfl
  have a4 : isTy .tuple (st x) s = some true := rfl
  simp [ys_cons, a4, a3, a1, whole_eq, show (x.1 : Int) ≤ 999 by have := h.c; omega]
  unfold b_is_stroke_1
  simp [ys_cons, a2, small_eq h.b (by rw [h.l]; omega), h.l]
theorem cell_eq {n : Nat} {C : List Cell} {k : Nat} {s : Sto} (u : Uni C) (hk : k < C.length) : callN fns (n + 1) 4 [.tup (tI (fl C)), .int k] s = .ok (false, .tup (tI (at4 C k))) s := by
  rw [call_cell_of]
  simp [ys_cons, bin_mulL]
  rw [cut_nn (by omega) (by omega) (by have := fl_len u; rw [tI_len]; omega)]
  rw [← fl_cell u hk, tI_drop, tI_take]
  have : (4 * (k : Int)).toNat = 4 * k := by omega
  have h2 : (4 * (k : Int) + 4).toNat - 4 * k = 4 := by omega
  rw [this, h2]
/-! stroked -/
def IStk (C : List Cell) (f g : U) (L : List Stk) (s : Sto) (i : Nat) (l : Lo) (t : Sto) : Prop := t = s ∧ ∃ z3 z4, l = [.val f, .val g, .own (.lst (tI (fl (setsC C (L.take i))))), z3, z4]
theorem flat_reps (k : Nat) : (List.replicate k [U.int 0]).flatten = tI (List.replicate k 0) := by
  induction k with
  | zero => rfl
  | succ k ih => rw [List.replicate_succ, List.flatten_cons, ih]; rfl
theorem stroked_eq {n : Nat} {C : List Cell} {L : List Stk} {s : Sto} (u : Uni C) (hc : C.length ≤ 1000) (hL : ∀ x ∈ L, SOk x) : callN fns (n + 1) 5 [.tup (tI (fl C)), .lst (L.map st)] s = .ok (false, .tup (tI (fl (setsC C L)))) s := by
  rw [call_stroked]
  refine post_eq (fin_post ?_)
  unfold b_stroked_0
  refine seq_post ?_
  simp
  unfold b_stroked_1
  refine seq_post ?_
  rw [ys_sfor]
  simp
  refine for_post (IStk C (.tup (tI (fl C))) (.lst (L.map st)) L s) ?_ ?_ ?_
  · rintro k d l t hk ⟨rfl, z3, z4, rfl⟩
    rw [List.getElem?_map] at hk
    obtain ⟨x, hx, rfl⟩ := Option.map_eq_some_iff.mp hk
    have ok := hL x (List.mem_of_getElem? hx)
    have hkl := (List.getElem?_eq_some_iff.mp hx).1
    refine ⟨_, rfl, ?_⟩
    have uk : Uni (setsC C (L.take k)) := uni_setsC u fun y hy => (hL y (List.mem_of_mem_take hy)).l
    have lk : (setsC C (L.take k)).length ≤ 1000 := len_setsC.mpr ⟨hc, fun y hy => by have := (hL y (List.mem_of_mem_take hy)).c; omega⟩
    have e1 : setsC C (L.take (k + 1)) = setC (setsC C (L.take k)) x := by
      rw [List.take_succ, hx]; simp [setsC]
    have e2 := fl_step uk ok.l
    rw [← e1] at e2
    have l1 := fl_len uk
    generalize (fl (setsC C (L.take k))) = F at *
    unfold b_stroked_1a_0
    refine seq_post ?_
    rw [ys_expr, yx_mtO rfl]
    simp [mtOwn, mtLook, Z.line, bin_mulL]
    have hx1 := ok.c
    have hn : (4 * ((x.1 : Int) + 1) - (F.length : Int)).toNat = 4 * (x.1 + 1) - F.length := by omega
    rw [bin_mulLs (by omega) (by omega) (by simp; omega), flat_reps, hn]
    simp only [post_ok]
    rw [mt_extend (by rw [tI_len, tI_len]; simp; omega), tI_app]
    simp
    unfold b_stroked_1a_1
    refine seq_post ?_
    rw [ys_asg]
    simp
    rw [yt_tslO rfl]
    simp [bin_mulL]
    have hs : setS (.lst (tI (F ++ List.replicate (4 * (x.1 + 1) - F.length) 0))) (.int (4 * (x.1 : Int))) (.int (4 * (x.1 : Int) + 4)) (.tup (tI x.2)) = some (.lst (tI (fl (setsC C (L.take (k + 1)))))) := by
      show (if _ then _ else _) = _
      rw [if_pos (by refine ⟨by omega, by omega, by simp; omega, ?_⟩; simp [ok.l, Z.line]; omega), e2]
      have : (4 * (x.1 : Int)).toNat = 4 * x.1 := by omega
      have h2 : (4 * (x.1 : Int) + 4).toNat = 4 * x.1 + 4 := by omega
      rw [this, h2, tI_take, tI_drop, tI_app, tI_app]
    rw [hs]
    exact ⟨rfl, _, _, rfl⟩
  · rintro l t ⟨rfl, z3, z4, rfl⟩
    rw [List.length_map, List.take_length]
    unfold b_stroked_2
    refine seq_post ?_
    simp
  · exact ⟨rfl, _, _, rfl⟩
end K.k05

namespace K.k05
open Y PySem
open Z (Ky Ex Fn D)
def ku (x : Stk) : Ky × U := (.inl x.1, .tup (tI x.2))
theorem look_ku {D : List Stk} {k : Nat} : lookK (D.map ku) (.inl k) = (lookS D k).map fun v => .tup (tI v) := by
  unfold lookK lookS
  rw [List.find?_map]
  rw [show ((fun kv : Ky × U => decide (kv.1 = Sum.inl (k : Int))) ∘ ku) = fun kv : Stk => decide (kv.1 = k) by funext x; simp [ku]; omega]
  cases D.find? (fun kv => decide (kv.1 = k)) <;> rfl
theorem put_ku {D : List Stk} {c : Nat} {v : Cell} : putK (D.map ku) (.inl c) (.tup (tI v)) = (putS D c v).map ku := by
  unfold putK putS
  rw [List.any_map, show ((fun kv : Ky × U => decide (kv.1 = Sum.inl (c : Int))) ∘ ku) = fun kv : Stk => decide (kv.1 = c) by funext x; simp [ku]; omega]
  split
  · rw [List.map_map, List.map_map]
    congr 1
    funext x
    simp only [Function.comp, ku]
    by_cases h : x.1 = c
    · simp [h]
    · have : ¬ (x.1 : Int) = c := by omega
      simp [h, this]
  · simp [ku]
theorem mrg_ku : ∀ {L D : List Stk}, mrgK (D.map ku) (L.map ku) = (L.foldl (fun acc kv => putS acc kv.1 kv.2) D).map ku
  | [], D => rfl
  | x :: L, D => by
    show mrgK (putK (D.map ku) (.inl x.1) (.tup (tI x.2))) (L.map ku) = _
    rw [put_ku, mrg_ku]
    rfl
theorem pairs_st : ∀ {L : List Stk}, pairs? (L.map st) = some (L.map ku)
  | [] => rfl
  | x :: L => by
    show (match pair? (st x), pairs? (L.map st) with | some y, some ys => some (y :: ys) | _, _ => none) = _
    rw [pairs_st]
    rfl
theorem dict_eq {L : List Stk} {s : Sto} : biF .dict [.lst (L.map st)] s = .ok (.dct ((mrgS L).map ku)) s := by
  show (match (pairs? (L.map st)) with | some kvs => R.ok (U.dct (mrgK [] kvs)) s | none => .bad) = _
  rw [pairs_st]
  have := mrg_ku (L := L) (D := [])
  simp only [List.map_nil] at this
  simp only [this]
  rfl
theorem top_le : ∀ {ns : List Int} {n x : Int}, Z.topI n ns ≤ x ↔ n ≤ x ∧ ∀ z ∈ ns, z ≤ x
  | [], n, x => by simp [Z.topI]
  | m :: ns, n, x => by
    have e : Z.topI n (m :: ns) = Z.topI (if m > n then m else n) ns := rfl
    rw [e, top_le]
    simp only [List.mem_cons, forall_eq_or_imp]
    constructor
    · rintro ⟨h, k⟩; split at h <;> exact ⟨by omega, by omega, k⟩
    · rintro ⟨h, j, k⟩; exact ⟨by split <;> omega, k⟩
theorem max_eq {n : Int} {ns : List Int} {s : Sto} : biF .max [.lst (tI (n :: ns))] s = .ok (.int (Z.topI n ns)) s := by
  show (match (ints? ((n :: ns).map .int)) with | some (n :: ns) => R.ok (U.int (Z.topI n ns)) s | _ => .bad) = _
  rw [ints_map]
theorem top_eq {C : List Cell} {L : List Stk} : Z.topI (C.length : Int) ((mrgS L).map fun x => (x.1 : Int) + 1) = ((setsC C L).length : Int) := by
  obtain ⟨_, _, h⟩ := mrg_all C L
  have k : ∀ n : Nat, Z.topI (C.length : Int) ((mrgS L).map fun x => (x.1 : Int) + 1) ≤ n ↔ (setsC C L).length ≤ n := by
    intro n
    rw [top_le, h]
    simp only [List.mem_map, forall_exists_index, and_imp, forall_apply_eq_imp_iff₂]
    constructor
    · rintro ⟨a, b⟩; exact ⟨by omega, fun x hx => by have := b x hx; omega⟩
    · rintro ⟨a, b⟩; exact ⟨by omega, fun x hx => by have := b x hx; omega⟩
  have t0 : (C.length : Int) ≤ Z.topI (C.length : Int) ((mrgS L).map fun x => (x.1 : Int) + 1) := (topI_mem' _ _)
  have a := (k (setsC C L).length).mpr (Nat.le_refl _)
  have b := (k (Z.topI (C.length : Int) ((mrgS L).map fun x => (x.1 : Int) + 1)).toNat).mp (by omega)
  omega
where topI_mem' (ns : List Int) (n : Int) : n ≤ Z.topI n ns := (top_le.mp (Int.le_refl _)).1
theorem len_mrg {L D : List Stk} : (L.foldl (fun acc kv => putS acc kv.1 kv.2) D).length ≤ D.length + L.length := by
  induction L generalizing D with
  | nil => simp
  | cons x L ih =>
    have h1 : (putS D x.1 x.2).length ≤ D.length + 1 := by unfold putS; split <;> simp
    have := ih (D := putS D x.1 x.2)
    simp only [List.foldl_cons, List.length_cons]
    omega
/-! cells right -/
def ICells (f g h : U) (kvs : List (Ky × U)) (s : Sto) (l : Lo) (t : Sto) : Prop := t = s ∧ ∃ z4 z5, l = [.val f, .val g, .val h, .own (.dct kvs), z4, z5, .no]
theorem cells_right {n : Nat} {C : List Cell} {L : List Stk} {s : Sto} (u : Uni C) (hc : C.length ≤ 1000) (hL : ∀ x ∈ L, SOk x) (hl : L.length ≤ 1000) :
    callN fns (n + 2) 10 [.tup (tI (fl C)), .lst (L.map st), .tup (tI (fl (setsC C L)))] s = .ok (false, .bl true) s := by
  rw [call_law_cells_right]
  have uE : Uni (setsC C L) := uni_setsC u fun y hy => (hL y hy).l
  have lE : (setsC C L).length ≤ 1000 := len_setsC.mpr ⟨hc, fun y hy => by have := (hL y hy).c; omega⟩
  have fE := fl_len uE
  have fC := fl_len u
  obtain ⟨nd, hk, hn⟩ := mrg_all C L
  refine post_eq (fin_post ?_)
  unfold b_law_cells_right_0
  refine seq_post ?_
  simp [dict_eq]
  unfold b_law_cells_right_1
  refine seq_post ?_
  rw [ys_sfor]
  simp [fE, bin_div]
  simp [rgOkI (a := 0) (b := (setsC C L).length) (by omega) (by omega) (by omega) (by omega)]
  refine for_post (fun _ => ICells (.tup (tI (fl C))) (.lst (L.map st)) (.tup (tI (fl (setsC C L)))) ((mrgS L).map ku) s) ?_ ?_ ?_
  · rintro k d l t hd ⟨rfl, y4, y5, rfl⟩
    obtain ⟨rfl, hkl⟩ := rng_get hd
    refine ⟨_, rfl, ?_⟩
    unfold b_law_cells_right_1a_0
    refine seq_post ?_
    simp [Z.line]
    unfold b_law_cells_right_1a_1
    refine seq_post ?_
    simp [bin_mulL, fC]
    have tail : ∀ due : Cell, due = at4 C k → ((sem (callN fns (n + 1)) b_law_cells_right_1a_2).s [.val (.tup (tI (fl C))), .val (.lst (L.map st)), .val (.tup (tI (fl (setsC C L)))), .own (.dct ((mrgS L).map ku)), .val (.int k), .val (.tup (tI due)), .no] t).post (fun r s2 => r.1 = .nx ∧ ICells (.tup (tI (fl C))) (.lst (L.map st)) (.tup (tI (fl (setsC C L)))) ((mrgS L).map ku) t r.2 s2) fun _ _ => False := by
      rintro due rfl
      unfold b_law_cells_right_1a_2
      refine seq_post ?_
      simp [cell_eq uE (show k < (setsC C L).length by omega), look_ku]
      rw [← hk, cmp_neTi]
      simp
      exact ⟨rfl, _, _, rfl⟩
    by_cases hb : k < C.length
    · simp [hb]
      refine seq_post ?_
      simp [cell_eq u (show k < C.length by omega)]
      refine R.post_mono (tail _ rfl) ?_ fun _ _ h => h
      rintro ⟨fl, l⟩ s2 ⟨h1, h2⟩
      simp at h1 h2
      subst h1
      exact h2
    · simp [hb]
      refine R.post_mono (tail z4 (by unfold at4; rw [List.getElem?_eq_none (by omega)]; rfl)) ?_ fun _ _ h => h
      rintro ⟨fl, l⟩ s2 ⟨h1, h2⟩
      simp at h1 h2
      subst h1
      exact h2
  · rintro l t ⟨rfl, y4, y5, rfl⟩
    unfold b_law_cells_right_2
    refine seq_post ?_
    simp [fE, fC, bin_div]
    simp [Z.line]
    rw [ye_lock rfl]
    have hm : (mrgS L).length ≤ L.length := by have := len_mrg (L := L) (D := []); simpa [mrgS] using this
    rw [comp_map (s := t) (its := ((mrgS L).map ku).map fun kv => keyU kv.1) (fun d => .int (match d with | .int k => k + 1 | _ => 0)) (yv_itK rfl) rfl (by simp; omega) (fun d hd => by
      simp only [List.mem_map] at hd
      obtain ⟨_, ⟨x, hx, rfl⟩, rfl⟩ := hd
      simp [ku, keyU, hideL, wipe])]
    simp [Z.line]
    rw [bin_addL (by simp; omega)]
    have e : ([U.int (C.length : Int)] ++ (mrgS L).map ((fun d => U.int (match d with | .int k => k + 1 | _ => 0)) ∘ (fun kv => keyU kv.1) ∘ ku)) = tI ((C.length : Int) :: (mrgS L).map fun x => (x.1 : Int) + 1) := by
      simp [tI, Function.comp_def, ku, keyU]
    simp at e
    simp [e, max_eq, top_eq, bin_mulL]
  · exact ⟨rfl, _, _, rfl⟩
end K.k05

namespace K.k05
open Y PySem
open Z (Ky Ex Fn D)
@[simp] theorem ys_new {cl : Cl} {a : Ex} {l : Lo} {s : Sto} : (sem cl (.new a)).s l s = (sem cl a).n l s := rfl
/-! cuts right -/
theorem cut_toS {L : List Stk} {k : Nat} {b : Int} (h : b = k) : Z.cut (L.map st) none (some b) = (L.take k).map st := by
  subst h
  rw [cut_to (by omega), List.map_take]
  simp
theorem cut_fromS {L : List Stk} {k : Nat} {b : Int} (h : b = k) : Z.cut (L.map st) (some b) none = (L.drop k).map st := by
  subst h
  rw [cut_from (by omega), List.map_drop]
  simp
theorem sets_app {C : List Cell} {A B : List Stk} : setsC (setsC C A) B = setsC C (A ++ B) := by simp [setsC]
def ICut (C : List Cell) (L : List Stk) (v : U) (s : Sto) (i : Nat) (l : Lo) (t : Sto) : Prop := t = s ∧ ∃ z4, l = [.val (.tup (tI (fl C))), .val v, .val (.tup (tI (fl (setsC C L)))), .val (.tup (tI (fl (setsC C (L.take i))))), z4]
theorem cuts_right {n : Nat} {C : List Cell} {L : List Stk} {s : Sto} (u : Uni C) (hc : C.length ≤ 1000) (hL : ∀ x ∈ L, SOk x) (hl : L.length ≤ 1000) :
    callN fns (n + 2) 11 [.tup (tI (fl C)), .lst (L.map st)] s = .ok (false, .bl true) s := by
  obtain ⟨v, hv⟩ : ∃ v, v = U.lst (L.map st) := ⟨_, rfl⟩
  obtain ⟨q, hq⟩ : ∃ q : Int, q = L.length := ⟨_, rfl⟩
  have V1 : ∀ s, biF .len [v] s = .ok (.int q) s := by intro s; rw [hv, hq]; simp
  have V2 : ∀ (k : Nat) s, opSl v none (some (k : Int)) s = .ok (.lst ((L.take k).map st)) s := by intro k s; rw [hv, sl_lst, cut_toS rfl]
  have V3 : ∀ (k : Nat) s, opSl v (some (k : Int)) none s = .ok (.lst ((L.drop k).map st)) s := by intro k s; rw [hv, sl_lst, cut_fromS rfl]
  have V4 : ∀ (k : Nat) (hk : k < L.length) s, opIx v (.int k) s = .ok (st L[k]) s := by
    intro k hk s
    rw [hv, ix_lst, atI_nn (by omega) (by simp; omega)]
    simp [hk]
  have uT : ∀ i, Uni (setsC C (L.take i)) := fun i => uni_setsC u fun y hy => (hL y (List.mem_of_mem_take hy)).l
  have lT : ∀ i, (setsC C (L.take i)).length ≤ 1000 := fun i => len_setsC.mpr ⟨hc, fun y hy => by have := (hL y (List.mem_of_mem_take hy)).c; omega⟩
  have S : ∀ {C : List Cell} {L : List Stk} {s : Sto}, Uni C → C.length ≤ 1000 → (∀ x ∈ L, SOk x) → callN fns (n + 1) 5 [.tup (tI (fl C)), .lst (L.map st)] s = .ok (false, .tup (tI (fl (setsC C L)))) s := fun u h k => stroked_eq u h k
  have e0 := S (s := s) u hc hL
  rw [← hv] at e0 ⊢
  rw [call_law_cuts_right]
  generalize callN fns (n + 1) = cl at S e0 ⊢
  refine post_eq (fin_post ?_)
  unfold b_law_cuts_right_0
  refine seq_post ?_
  simp [e0]
  unfold b_law_cuts_right_1
  refine seq_post ?_
  simp
  unfold b_law_cuts_right_2
  refine seq_post ?_
  rw [ys_sfor]
  have rg : Z.rgOk 0 (q + 1) = true := rgOkI (by omega) (by omega) (by omega) (by omega)
  simp [V1, rg]
  refine for_post (ICut C L v s) ?_ ?_ ?_
  · rintro k d l t hd ⟨rfl, y4, rfl⟩
    obtain ⟨rfl, hkl⟩ := rng_get hd
    refine ⟨_, rfl, ?_⟩
    unfold b_law_cuts_right_2a_0
    refine seq_post ?_
    have T1 := S (s := t) u hc fun x hx => hL x (List.mem_of_mem_take (i := k) hx)
    have T2 := S (s := t) (uT k) (lT k) fun x hx => hL x (List.mem_of_mem_drop (i := k) hx)
    rw [sets_app, List.take_append_drop] at T2
    rw [List.map_take] at T1
    rw [List.map_drop] at T2
    simp [V2, V3, T1, T2, cmp_neTi]
    unfold b_law_cuts_right_2a_1
    refine seq_post ?_
    simp [V1]
    by_cases hk : k < L.length
    · have e2 := S (C := setsC C (L.take k)) (L := [L[k]]) (s := t) (uT k) (lT k) (by intro x hx; rw [List.mem_singleton.mp hx]; exact hL _ (List.getElem_mem hk))
      rw [sets_app, show L.take k ++ [L[k]] = L.take (k + 1) by rw [List.take_succ_eq_append_getElem hk]] at e2
      simp at e2
      simp [show (k : Int) < q by omega]
      refine seq_post ?_
      simp [V4 k hk, Z.line, e2]
      exact ⟨rfl, _, rfl⟩
    · simp [show ¬ (k : Int) < q by omega]
      have : L.take (k + 1) = L.take k := by rw [List.take_of_length_le (by omega), List.take_of_length_le (by omega)]
      exact ⟨rfl, _, by rw [this]⟩
  · rintro l t ⟨rfl, y4, rfl⟩
    unfold b_law_cuts_right_3
    refine seq_post ?_
    simp
  · exact ⟨rfl, _, rfl⟩
end K.k05

namespace K.k05
open Y PySem
open Z (Ky Ex Fn D)
/-! draws -/
def PE (a : Nat) (s : Sto) : Prop := ∃ tl, Pen [] tl a s
theorem PE.le {a b : Nat} {s : Sto} (h : PE a s) (k : a ≤ b) : PE b s := by
  obtain ⟨tl, h⟩ := h
  exact ⟨tl, h.le k⟩
theorem rest0 : RestOk [] := by intro kv h; cases h
def DrawP (tl : Sto) (a : Nat) (m : Int) (r : Bool × U) (s : Sto) : Prop := ∃ v, r = (false, .int v) ∧ 0 ≤ v ∧ v < m ∧ Pen [] tl (a + 1) s
theorem drawP {n a : Nat} {m : Int} {tl s : Sto} {E : U → Sto → Prop} (h : Pen [] tl a s) (ha : a ≤ 10000000) (hm : 0 < m) (hb : m < 18446744073709551616) : (callN fns (n + 1) 7 [.obj 0, .int m] s).post (DrawP tl a m) E := by
  rw [call_law_draw]
  refine fin_post (R.post_mono (draw_post rest0 (by simp) h ha hm hb) ?_ fun _ _ h => h)
  rintro ⟨fl, l⟩ s1 ⟨o, v, e, h1, h2, h3⟩
  cases e
  exact ⟨v, rfl, h1, h2, h3⟩
def DrawE (a : Nat) (m : Int) (r : Bool × U) (s : Sto) : Prop := ∃ v, r = (false, .int v) ∧ 0 ≤ v ∧ v < m ∧ PE (a + 1) s
theorem draw {n a : Nat} {m : Int} {s : Sto} {E : U → Sto → Prop} (h : PE a s) (ha : a ≤ 10000000) (hm : 0 < m) (hb : m < 18446744073709551616) : (callN fns (n + 1) 7 [.obj 0, .int m] s).post (DrawE a m) E := by
  obtain ⟨tl, h⟩ := h
  refine R.post_mono (drawP h ha hm hb) ?_ fun _ _ h => h
  rintro _ s ⟨v, rfl, h1, h2, h3⟩
  exact ⟨v, rfl, h1, h2, tl, h3⟩
/-- what is told is of such a kind -/
def Is (P : U → Prop) (a : Nat) (r : Bool × U) (s : Sto) : Prop := ∃ u, r = (false, u) ∧ P u ∧ PE a s
/-- k numbers below lim -/
def NumR (lim : Int) (k : Nat) (u : U) : Prop := ∃ zs : List Int, u = .tup (tI zs) ∧ zs.length = k ∧ ∀ z ∈ zs, 0 ≤ z ∧ z < lim
theorem ints_of {lim : Int} {ys : List U} (h : ∀ u ∈ ys, ∃ z, u = .int z ∧ 0 ≤ z ∧ z < lim) : ∃ zs : List Int, ys = tI zs ∧ ∀ z ∈ zs, 0 ≤ z ∧ z < lim := by
  induction ys with
  | nil => exact ⟨[], rfl, by simp⟩
  | cons y ys ih =>
    obtain ⟨zs, e, k⟩ := ih fun u hu => h u (List.mem_cons_of_mem _ hu)
    obtain ⟨z, hz, lt⟩ := h y List.mem_cons_self
    refine ⟨z :: zs, by rw [tI, List.map_cons, ← tI, ← e, hz], fun w hw => ?_⟩
    rcases List.mem_cons.mp hw with rfl | hw
    · exact lt
    · exact k w hw
theorem numbers {n a : Nat} {k lim : Int} {s : Sto} {E : U → Sto → Prop} (h : PE a s) (hk : 0 ≤ k) (hk2 : k ≤ 1000) (ha : a + 3 * k.toNat ≤ 10000000) (hl : 2 ≤ lim) (hl2 : lim ≤ 4294967296) :
    (callN fns (n + 2) 8 [.obj 0, .int k, .int lim] s).post (Is (NumR lim k.toNat) (a + 3 * k.toNat)) E := by
  rw [call_law_numbers]
  refine fin_post ?_
  unfold b_law_numbers_0
  refine seq_post ?_
  simp [bin_div, Z.line]
  generalize hen : [U.int 0, .int 1, .int (lim - 1), .int (lim / 2)] = ends
  have hends : ∀ i : Int, 0 ≤ i → i < 4 → ∃ z, L2.atI ends i = some (.int z) ∧ 0 ≤ z ∧ z < lim := by
    intro i h0 h4
    rw [← hen]
    have : i = 0 ∨ i = 1 ∨ i = 2 ∨ i = 3 := by omega
    rcases this with rfl | rfl | rfl | rfl
    · exact ⟨0, rfl, by omega, by omega⟩
    · exact ⟨1, rfl, by omega, by omega⟩
    · exact ⟨lim - 1, rfl, by omega, by omega⟩
    · exact ⟨lim / 2, rfl, by omega, by omega⟩
  clear hen
  unfold b_law_numbers_1
  refine seq_post ?_
  rw [ys_ret, yx_bi, ye_bi, ylp_cons, yp_comp]
  simp only [post_bindS]
  refine comp_post (s1 := s) (its := rng 0 k) (l0 := [.val (.obj 0), .val (.int k), .val (.int lim), .own (.lst ends), .no]) (fun i s => PE (a + 3 * i) s) (fun _ y => ∃ z, y = .int z ∧ 0 ≤ z ∧ z < lim) (by simp [rgOkI (a := 0) (b := k) (by omega) (by omega) (by omega) (by omega)]) rfl (by rw [rng_len]; omega) ?_ ?_ h
  · intro i d t hi hp
    have hik := (List.getElem?_eq_some_iff.mp hi).1
    rw [rng_len] at hik
    simp
    refine R.post_mono (draw hp (by omega) (by omega) (by omega)) ?_ fun _ _ h => h
    rintro _ s2 ⟨u, rfl, u1, u2, p2⟩
    obtain ⟨z, hz, z1, z2⟩ := hends u u1 u2
    simp [hz]
    refine R.post_mono (draw p2 (by omega) (by omega) (by omega)) ?_ fun _ _ h => h
    rintro _ s3 ⟨v, rfl, v1, v2, p3⟩
    simp [Z.line]
    refine R.post_mono (draw p3 (by omega) (by omega) (by omega)) ?_ fun _ _ h => h
    rintro _ s4 ⟨w, rfl, w1, w2, p4⟩
    have : w = 0 ∨ w = 1 := by omega
    rcases this with rfl | rfl
    · simp only [ix_lst]
      exact ⟨⟨_, rfl, z1, z2⟩, p4.le (by omega)⟩
    · simp only [ix_lst]
      exact ⟨⟨_, rfl, v1, v2⟩, p4.le (by omega)⟩
  · intro ys t hl hp i
    rw [rng_len] at hl i
    obtain ⟨zs, rfl, hz⟩ := ints_of (lim := lim) (ys := ys) fun u hu => by
      obtain ⟨j, hj, e⟩ := List.getElem_of_mem hu
      exact hp j u (by rw [List.getElem?_eq_getElem hj, e])
    simp
    exact ⟨_, rfl, ⟨zs, rfl, by simp at hl; omega, hz⟩, i.le (by simp)⟩
/-- numbers by fours -/
theorem chunk : ∀ {k : Nat} {zs : List Int}, zs.length = 4 * k → ∃ C : List Cell, zs = (fl C) ∧ Uni C ∧ C.length = k
  | 0, zs, h => ⟨[], by show zs = []; simpa using h, (by intro c hc; cases hc), rfl⟩
  | k + 1, zs, h => by
    obtain ⟨C, e, u, l⟩ := chunk (k := k) (zs := zs.drop 4) (by rw [List.length_drop, h]; omega)
    refine ⟨zs.take 4 :: C, by show _ = (zs.take 4 :: C).flatten; rw [List.flatten_cons, show C.flatten = zs.drop 4 from e.symm, List.take_append_drop], ?_, by simp [l]⟩
    intro c hc
    rcases List.mem_cons.mp hc with rfl | hc
    · rw [List.length_take]; omega
    · exact u c hc
/-! strokes -/
theorem atI_last {A : List Stk} (h : A ≠ []) : ∃ x ∈ A, L2.atI (A.map st) (-1) = some (st x) := by
  have hl : 0 < A.length := List.length_pos_iff.mpr h
  refine ⟨A[A.length - 1], List.getElem_mem _, ?_⟩
  unfold L2.atI L2.ixN
  rw [if_neg (by omega), if_pos (by simp; omega)]
  simp [-Prod.exists]
  rw [show ((-1 : Int) + (A.length : Int)).toNat = A.length - 1 by omega, List.getElem?_eq_getElem (by omega)]
  exact ⟨_, rfl, rfl⟩
structure SK (m : Nat) (x : Stk) : Prop where
  c : x.1 ≤ m
  l : x.2.length = 4
  b : ∀ z ∈ x.2, Byte z
def StQ (k t : Int) (a : Nat) (r : Bool × U) (s : Sto) : Prop := ∃ A : List Stk, r = (true, .lst (A.map st)) ∧ A.length = k.toNat ∧ (∀ x ∈ A, SK (t.toNat + 4) x) ∧ PE (a + 20 * k.toNat) s
def IStro (k t : Int) (m : Nat) (a : Nat) (i : Nat) (l : Lo) (s : Sto) : Prop := ∃ (A : List Stk) (z4 z5 : Sl), l = [.val (.obj 0), .val (.int k), .val (.int t), .own (.lst (A.map st)), z4, z5] ∧ A.length = i ∧ (∀ x ∈ A, SK m x) ∧ PE (a + 20 * i) s
theorem strokes {n a : Nat} {k t : Int} {s : Sto} {E : U → Sto → Prop} (h : PE a s) (hk : 0 ≤ k) (hk2 : k ≤ 100) (ha : a ≤ 1000000) (ht : 0 ≤ t) (ht2 : t ≤ 100) :
    (callN fns (n + 3) 9 [.obj 0, .int k, .int t] s).post (StQ k t a) E := by
  rw [call_law_strokes]
  refine fin_post ?_
  unfold b_law_strokes_0
  refine seq_post ?_
  simp [Z.line]
  unfold b_law_strokes_1
  refine seq_post ?_
  rw [ys_sfor]
  simp [rgOkI (a := 0) (b := k) (by omega) (by omega) (by omega) (by omega)]
  refine for_post (IStro k t (t.toNat + 4) a) ?_ ?_ ?_
  · rintro i d l s hd ⟨A, y4, y5, rfl, hA, hx, p⟩
    obtain ⟨rfl, hik⟩ := rng_get hd
    refine ⟨_, rfl, ?_⟩
    unfold b_law_strokes_1a_0
    refine seq_post ?_
    simp
    refine R.post_mono (draw p (by omega) (by omega) (by omega)) ?_ fun _ _ h => h
    rintro _ s2 ⟨v1, rfl, v10, v11, p2⟩
    simp
    refine R.post_mono (draw p2 (by omega) (by omega) (by omega)) ?_ fun _ _ h => h
    rintro _ s3 ⟨v2, rfl, v20, v21, p3⟩
    simp [Z.line]
    refine R.post_mono (draw p3 (by omega) (by omega) (by omega)) ?_ fun _ _ h => h
    rintro _ s4 ⟨v3, rfl, v30, v31, p4⟩
    have pick : ∃ c : Nat, L2.atI [U.int v1, .int t, .int (t + v2), .int 0] v3 = some (.int c) ∧ c ≤ t.toNat + 4 := by
      have : v3 = 0 ∨ v3 = 1 ∨ v3 = 2 ∨ v3 = 3 := by omega
      rcases this with rfl | rfl | rfl | rfl
      · exact ⟨v1.toNat, by rw [show ((v1.toNat : Nat) : Int) = v1 by omega]; rfl, by omega⟩
      · exact ⟨t.toNat, by rw [show ((t.toNat : Nat) : Int) = t by omega]; rfl, by omega⟩
      · exact ⟨(t + v2).toNat, by rw [show (((t + v2).toNat : Nat) : Int) = t + v2 by omega]; rfl, by omega⟩
      · exact ⟨0, rfl, by omega⟩
    obtain ⟨c, hc, hcl⟩ := pick
    simp [hc]
    have tail : ∀ (c : Nat) (s5 : Sto), c ≤ t.toNat + 4 → PE (a + 20 * i + 4) s5 → ((sem (callN fns (n + 2)) b_law_strokes_1a_2).s [.val (.obj 0), .val (.int k), .val (.int t), .own (.lst (A.map st)), .val (.int i), .val (.int c)] s5).post (fun r s2 => r.1 = .nx ∧ IStro k t (t.toNat + 4) a (i + 1) r.2 s2) E := by
      intro c s5 hc p5
      unfold b_law_strokes_1a_2
      refine seq_post ?_
      rw [ys_expr, yx_mtO rfl]
      simp [mtOwn, mtLook, Z.line]
      refine R.post_mono (numbers (n := n) p5 (by omega) (by omega) (by omega) (by omega) (by omega)) ?_ fun _ _ h => h
      rintro _ s6 ⟨_, rfl, ⟨zs, rfl, zl, zb⟩, p6⟩
      simp
      rw [mt_append (by simp; omega)]
      refine ⟨A ++ [(c, zs)], .val (.int i), .val (.int c), ?_, by simp [hA], ?_, p6.le (by simp; omega)⟩
      · simp [st]
      · intro x hx'
        rcases List.mem_append.mp hx' with h1 | h1
        · exact hx x h1
        · rw [List.mem_singleton.mp h1]
          exact ⟨hc, by simpa using zl, zb⟩
    unfold b_law_strokes_1a_1
    refine seq_post ?_
    simp [Z.line, cmp_neL0]
    by_cases he : A = []
    · subst he
      simp
      refine R.post_mono (tail c s4 hcl (p4.le (by omega))) ?_ fun _ _ h => h
      rintro ⟨fl, l⟩ s2 ⟨h1, h2⟩
      simp at h1 h2
      subst h1
      exact h2
    · simp [he]
      refine R.post_mono (draw p4 (by omega) (by omega) (by omega)) ?_ fun _ _ h => h
      rintro _ s5 ⟨v4, rfl, v40, v41, p5⟩
      simp
      by_cases h4 : v4 = 0
      · simp [h4]
        refine seq_post ?_
        obtain ⟨x, hxA, hlast⟩ := atI_last he
        have a1 : ∀ s, opIx (st x) (.int 0) s = .ok (.int x.1) s := fun s => rfl
        simp [hlast, a1]
        refine R.post_mono (tail x.1 s5 (hx x hxA).c (p5.le (by omega))) ?_ fun _ _ h => h
        rintro ⟨fl, l⟩ s2 ⟨h1, h2⟩
        simp at h1 h2
        subst h1
        exact h2
      · simp [h4]
        refine R.post_mono (tail c s5 hcl (p5.le (by omega))) ?_ fun _ _ h => h
        rintro ⟨fl, l⟩ s2 ⟨h1, h2⟩
        simp at h1 h2
        subst h1
        exact h2
  · rintro l s ⟨A, y4, y5, rfl, hA, hx, p⟩
    rw [rng_len] at hA p
    unfold b_law_strokes_2
    refine seq_post ?_
    simp
    exact ⟨A, rfl, by simpa using hA, hx, p.le (by simp)⟩
  · exact ⟨[], _, _, rfl, rfl, by simp, h.le (by simp)⟩
end K.k05

namespace K.k05
open Y PySem
open Z (Ky Ex Fn D)
/-! turned -/
theorem items_eq {D : List Stk} : (D.map ku).map (fun kv => U.tup [keyU kv.1, kv.2]) = D.map st := by
  rw [List.map_map]; rfl
def sto (p : List (Ky × U)) (tl : Sto) (R : List Stk) : Sto := .dct p :: (tl ++ [.lst (R.map st)])
theorem sto_get {p : List (Ky × U)} {tl : Sto} {R : List Stk} : (sto p tl R)[tl.length + 1]? = some (.lst (R.map st)) := by
  unfold sto; simp
theorem sto_set {p : List (Ky × U)} {tl : Sto} {R R' : List Stk} : (sto p tl R).set (tl.length + 1) (.lst (R'.map st)) = sto p tl R' := by
  unfold sto; simp
theorem erase_map {α β : Type} {f : α → β} : ∀ {xs : List α} {k : Nat}, (xs.map f).eraseIdx k = (xs.eraseIdx k).map f
  | [], _ => rfl
  | x :: xs, 0 => rfl
  | x :: xs, k + 1 => by simp [erase_map (xs := xs) (k := k)]
theorem erase_perm {α : Type} : ∀ {xs : List α} {k : Nat} (h : k < xs.length), (xs[k] :: xs.eraseIdx k).Perm xs
  | [], _, h => by simp at h
  | x :: xs, 0, _ => .refl _
  | x :: xs, k + 1, h => by
    simp only [List.getElem_cons_succ, List.eraseIdx_cons_succ]
    exact (List.Perm.swap _ _ _).trans (.cons _ (erase_perm (by simpa using h)))
theorem pop_at {R : List Stk} {v : Int} {s : Sto} (h : 0 ≤ v) (k : v < R.length) (hl : R.length ≤ 1000) : ∃ x, R[v.toNat]? = some x ∧ mtL s .popi (R.map st) [.int v] = some (st x, (R.eraseIdx v.toNat).map st) := by
  have hk : v.toNat < R.length := by omega
  refine ⟨R[v.toNat], List.getElem?_eq_getElem hk, ?_⟩
  show (if -1000000000 ≤ v ∧ v ≤ 1000000000 then _ else _) = _
  rw [if_pos (by omega)]
  have e : L2.ixN (R.map st).length v = some v.toNat := by
    unfold L2.ixN
    rw [if_pos h, if_pos (by simpa using k)]
  rw [e]
  simp only [List.getElem?_map, List.getElem?_eq_getElem hk, Option.map_some, erase_map]
def ITurn (D : List Stk) (tl : Sto) (a : Nat) (acc : List U) (s : Sto) : Prop := ∃ A R : List Stk, acc = A.map st ∧ (A ++ R).Perm D ∧ Pen [] (tl ++ [.lst (R.map st)]) (a + A.length) s
theorem turned {n a : Nat} {L : List Stk} {s : Sto} {E : U → Sto → Prop} (h : PE a s) (ha : a ≤ 1000000) (hl : L.length ≤ 1000) :
    (callN fns (n + 2) 12 [.obj 0, .lst (L.map st)] s).post (fun r s => ∃ A : List Stk, r.2 = .lst (A.map st) ∧ A.Perm (mrgS L) ∧ PE (a + 1000) s) E := by
  have hm : (mrgS L).length ≤ L.length := by have := len_mrg (L := L) (D := []); simpa [mrgS] using this
  rw [call_law_turned]
  have DR : ∀ {a : Nat} {m : Int} {tl s : Sto}, Pen [] tl a s → a ≤ 10000000 → 0 < m → m < 18446744073709551616 → (callN fns (n + 1) 7 [.obj 0, .int m] s).post (DrawP tl a m) fun _ _ => False := fun h ha hm hb => drawP h ha hm hb
  generalize callN fns (n + 1) = cl at DR ⊢
  refine fin_post ?_
  unfold b_law_turned_0
  refine seq_post ?_
  obtain ⟨tl, ns, at_, left, rfl, hat⟩ := h
  have e0 : toNew (.lst ((mrgS L).map st)) (.dct (pen ns at_ left []) :: tl) = .ok (.obj (tl.length + 1)) (sto (pen ns at_ left []) tl (mrgS L)) := rfl
  simp [dict_eq, items_eq]
  have e1 : ((fun kv : Ky × U => U.tup [keyU kv.1, kv.2]) ∘ ku) = st := rfl
  simp [e1, e0]
  have p0 : Pen [] (tl ++ [.lst ((mrgS L).map st)]) (a + 0) (sto (pen ns at_ left []) tl (mrgS L)) := ⟨ns, at_, left, rfl, hat⟩
  obtain ⟨q, hq⟩ : ∃ q : Int, q = (mrgS L).length := ⟨_, rfl⟩
  have l0 : biF .len [.obj (tl.length + 1)] (sto (pen ns at_ left []) tl (mrgS L)) = .ok (.int q) (sto (pen ns at_ left []) tl (mrgS L)) := by
    unfold biF bi1 bLen lst?
    simp only [sto_get]
    rw [hq]; simp
  generalize sto (pen ns at_ left []) tl (mrgS L) = s0 at p0 l0 ⊢
  unfold b_law_turned_1
  refine seq_post ?_
  rw [ys_ret, yx_comp]
  simp only [post_bindS]
  refine comp_acc (s1 := s0) (its := rng 0 q) (l0 := [.val (.obj 0), .val (.lst (L.map st)), .val (.obj (tl.length + 1)), .no]) (ITurn (mrgS L) tl a) (by simp [l0, rgOkI (a := 0) (b := q) (by omega) (by omega) (by omega) (by omega)]) rfl (by rw [rng_len]; omega) ?_ ?_ ⟨[], mrgS L, rfl, by simp, p0⟩
  · rintro k d acc t hk hlen ⟨A, Q, rfl, pm, p⟩
    have hkl := (List.getElem?_eq_some_iff.mp hk).1
    rw [rng_len] at hkl
    have len := pm.length_eq
    rw [List.length_append] at len
    rw [List.length_map] at hlen
    obtain ⟨m, hmm⟩ : ∃ m : Int, m = Q.length := ⟨_, rfl⟩
    have lm : biF .len [.obj (tl.length + 1)] t = .ok (.int m) t := by
      obtain ⟨ns, at_, left, rfl, hat⟩ := p
      unfold biF bi1 bLen lst?
      have := sto_get (p := pen ns at_ left []) (tl := tl) (R := Q)
      unfold sto at this
      simp only [this]
      rw [hmm]; simp
    have ok : mtOk .popi (.obj (tl.length + 1)) t = true := by
      obtain ⟨ns, at_, left, rfl, hat⟩ := p
      have := sto_get (p := pen ns at_ left []) (tl := tl) (R := Q)
      unfold sto at this
      unfold mtOk
      simp only [this]
    simp [ok, mtLook, lm]
    refine R.post_mono (DR p (by omega) (by omega) (by omega)) ?_ fun _ _ h => h
    rintro _ s2 ⟨v, rfl, v1, v2, ns, at2, left, rfl, hat2⟩
    obtain ⟨x, hx, e⟩ := pop_at (R := Q) (s := .dct (pen ns at2 left []) :: (tl ++ [.lst (Q.map st)])) v1 (by omega) (by omega)
    simp only [post_ok]
    have g := sto_get (p := pen ns at2 left []) (tl := tl) (R := Q)
    have g2 := sto_set (p := pen ns at2 left []) (tl := tl) (R := Q) (R' := Q.eraseIdx v.toNat)
    unfold sto at g g2
    have m1 : mth .popi (.obj (tl.length + 1)) [.int v] (.dct (pen ns at2 left []) :: (tl ++ [.lst (Q.map st)])) = .ok (st x) (.dct (pen ns at2 left []) :: (tl ++ [.lst ((Q.eraseIdx v.toNat).map st)])) := by
      unfold mth
      simp only [g, e, g2]
    simp only [R.bind_ok, m1, post_ok]
    obtain ⟨hxl, hxe⟩ := List.getElem?_eq_some_iff.mp hx
    refine ⟨A ++ [x], Q.eraseIdx v.toNat, by simp, ?_, ns, at2, left, rfl, by simp; omega⟩
    have p2 : (x :: Q.eraseIdx v.toNat).Perm Q := by rw [← hxe]; exact erase_perm hxl
    have : A ++ [x] ++ Q.eraseIdx v.toNat = A ++ (x :: Q.eraseIdx v.toNat) := by simp
    rw [this]
    exact (List.Perm.append_left A p2).trans pm
  · rintro ys t hlen ⟨A, Q, rfl, pm, p⟩
    rw [rng_len] at hlen
    have len := pm.length_eq
    rw [List.length_append] at len
    rw [List.length_map] at hlen
    have : Q = [] := List.length_eq_zero_iff.mp (by omega)
    subst this
    simp only [post_ok, fin_ret]
    exact ⟨A, rfl, by simpa using pm, _, p.le (by omega)⟩
/-! the law -/
theorem pen_new {n : Nat} {ns : List Int} (h : ns.length ≤ 63) : callN fns (n + 1) 6 [.kl (ns.map .int)] [] = .ok (false, .obj 0) [.dct (pen ns 0 0 [])] := by
  rw [call_law_pen]
  unfold b_law_pen
  simp only [ys_cons]
  simp [Z.line]
  rw [cut_to (by omega), List.take_of_length_le (by simp; omega)]
  rfl
end K.k05

namespace K.k05
open Y PySem
open Z (Ky Ex Fn D)
/-- what is known of the calls -/
structure Fa (cl : Cl) : Prop where
  S : ∀ {C : List Cell} {L : List Stk} {s : Sto}, Uni C → C.length ≤ 1000 → (∀ x ∈ L, SOk x) → cl 5 [.tup (tI (fl C)), .lst (L.map st)] s = .ok (false, .tup (tI (fl (setsC C L)))) s
  DR : ∀ {a : Nat} {m : Int} {s : Sto}, PE a s → a ≤ 10000000 → 0 < m → m < 18446744073709551616 → (cl 7 [.obj 0, .int m] s).post (DrawE a m) fun _ _ => False
  NM : ∀ {a : Nat} {k lim : Int} {s : Sto}, PE a s → 0 ≤ k → k ≤ 1000 → a + 3 * k.toNat ≤ 10000000 → 2 ≤ lim → lim ≤ 4294967296 → (cl 8 [.obj 0, .int k, .int lim] s).post (Is (NumR lim k.toNat) (a + 3 * k.toNat)) fun _ _ => False
  ST : ∀ {a : Nat} {k t : Int} {s : Sto}, PE a s → 0 ≤ k → k ≤ 100 → a ≤ 1000000 → 0 ≤ t → t ≤ 100 → (cl 9 [.obj 0, .int k, .int t] s).post (StQ k t a) fun _ _ => False
  CR : ∀ {C : List Cell} {L : List Stk} {s : Sto}, Uni C → C.length ≤ 1000 → (∀ x ∈ L, SOk x) → L.length ≤ 1000 → cl 10 [.tup (tI (fl C)), .lst (L.map st), .tup (tI (fl (setsC C L)))] s = .ok (false, .bl true) s
  CU : ∀ {C : List Cell} {L : List Stk} {s : Sto}, Uni C → C.length ≤ 1000 → (∀ x ∈ L, SOk x) → L.length ≤ 1000 → cl 11 [.tup (tI (fl C)), .lst (L.map st)] s = .ok (false, .bl true) s
  TU : ∀ {a : Nat} {L : List Stk} {s : Sto}, PE a s → a ≤ 1000000 → L.length ≤ 1000 → (cl 12 [.obj 0, .lst (L.map st)] s).post (fun r s => ∃ A : List Stk, r.2 = .lst (A.map st) ∧ A.Perm (mrgS L) ∧ PE (a + 1000) s) fun _ _ => False
  IS : ∀ {x : Stk} {s : Sto}, SOk x → cl 3 [st x] s = .ok (false, .bl true) s
  IF : ∀ {C : List Cell} {s : Sto}, Uni C → C.length ≤ 1000 → (∀ c ∈ C, ∀ z ∈ c, Byte z) → cl 2 [.tup (tI (fl C))] s = .ok (false, .bl true) s
  CE : ∀ {C : List Cell} {k : Nat} {s : Sto}, Uni C → k < C.length → cl 4 [.tup (tI (fl C)), .int k] s = .ok (false, .tup (tI (at4 C k))) s
theorem facts (n : Nat) : Fa (callN fns (n + 3)) where
  S u h k := stroked_eq u h k
  DR h a m b := draw h a m b
  NM h a b c d e := numbers (n := n + 1) h a b c d e
  ST h a b c d e := strokes h a b c d e
  CR u h k l := cells_right (n := n + 1) u h k l
  CU u h k l := cuts_right (n := n + 1) u h k l
  TU h a b := turned (n := n + 1) h a b
  IS h := stroke_eq h
  IF u h k := file_eq u h k
  CE u h := cell_eq u h
theorem mrg_mem : ∀ {L D : List Stk} {x : Stk}, x ∈ L.foldl (fun acc kv => putS acc kv.1 kv.2) D → (∃ y ∈ D, x.1 = y.1 ∧ x.2 = y.2) ∨ (x ∈ D ∨ (∃ y ∈ L, x.2 = y.2 ∧ x.1 = y.1))
  | [], D, x, h => .inr (.inl h)
  | y :: L, D, x, h => by
    have p : ∀ z ∈ putS D y.1 y.2, z ∈ D ∨ z = y := by
      intro z hz
      unfold putS at hz
      split at hz
      · obtain ⟨w, hw, rfl⟩ := List.mem_map.mp hz
        split
        · rename_i e; exact .inr (by rw [e])
        · exact .inl hw
      · rcases List.mem_append.mp hz with hz | hz
        · exact .inl hz
        · exact .inr (List.mem_singleton.mp hz)
    rcases mrg_mem (L := L) h with ⟨z, hz, e1, e2⟩ | hz | ⟨z, hz, e1, e2⟩
    · rcases p z hz with hz | rfl
      · exact .inr (.inl (by rw [show x = z from Prod.ext e1 e2]; exact hz))
      · exact .inr (.inr ⟨z, List.mem_cons_self, e2, e1⟩)
    · rcases p x hz with hz | rfl
      · exact .inr (.inl hz)
      · exact .inr (.inr ⟨x, List.mem_cons_self, rfl, rfl⟩)
    · exact .inr (.inr ⟨z, List.mem_cons_of_mem _ hz, e1, e2⟩)
theorem mrg_sub {L : List Stk} {x : Stk} (h : x ∈ mrgS L) : x ∈ L := by
  rcases mrg_mem (D := []) h with ⟨y, hy, _⟩ | hx | ⟨y, hy, e1, e2⟩
  · cases hy
  · cases hx
  · rw [show x = y from Prod.ext e2 e1]; exact hy
theorem at_mem {C : List Cell} {k : Nat} (h : k < C.length) : at4 C k ∈ C := by
  unfold at4
  rw [List.getElem?_eq_getElem h]
  exact List.getElem_mem h
def Byt (C : List Cell) : Prop := ∀ c ∈ C, ∀ z ∈ c, Byte z
theorem byt_setC {C : List Cell} {x : Stk} (h : Byt C) (k : ∀ z ∈ x.2, Byte z) : Byt (setC C x) := by
  intro c hc
  unfold setC at hc
  rcases List.mem_or_eq_of_mem_set hc with hc | rfl
  · rcases List.mem_append.mp hc with hc | hc
    · exact h c hc
    · rw [(List.mem_replicate.mp hc).2]; intro z hz; simp [z4] at hz; subst hz; exact ⟨by decide, by decide⟩
  · exact k
theorem byt_setsC : ∀ {L : List Stk} {C : List Cell}, Byt C → (∀ x ∈ L, SOk x) → Byt (setsC C L)
  | [], C, h, _ => h
  | x :: L, C, h, k => byt_setsC (L := L) (byt_setC h (k x List.mem_cons_self).b) fun y hy => k y (List.mem_cons_of_mem _ hy)
theorem back_ok {C : List Cell} {m : Nat} (u : Uni C) (b : Byt C) (hc : C.length ≤ 1000) (hm : m ≤ 1000) : ∀ x ∈ backS C m, SOk x := by
  intro x hx
  rcases List.mem_append.mp hx with hx | hx
  · obtain ⟨i, hi, rfl⟩ := List.mem_map.mp hx
    have hi : i < C.length := by simpa using hi
    exact ⟨by show i ≤ 999; omega, u _ (at_mem hi), b _ (at_mem hi)⟩
  · obtain ⟨i, hi, rfl⟩ := List.mem_map.mp hx
    have hi : i < m - C.length := by simpa using hi
    refine ⟨by show C.length + i ≤ 999; omega, rfl, ?_⟩
    intro z hz
    simp [z4] at hz
    subst hz
    exact ⟨by decide, by decide⟩
theorem back_flat {C E : List Cell} (h : C.length ≤ E.length) : (fl (setsC E (backS C E.length))) = (fl C) ++ List.replicate (4 * (E.length - C.length)) 0 := by
  show (setsC E (backS C E.length)).flatten = C.flatten ++ _
  rw [sets_back h, List.flatten_append, flat_rep]
/-! the turn's end -/
theorem zt : ∀ s : Sto, True := fun _ => trivial
theorem rep_tup (k : Nat) : (List.replicate k [U.int 0]).flatten = tI (List.replicate k 0) := flat_reps k
section
variable {cl : Cl} {C E : List Cell} {x0 : U} {z2 z5 z7 z8 : Sl} {T : Int} {s : Sto}
theorem law_8 (F : Fa cl) (u : Uni C) (b : Byt C) (hC : C.length ≤ E.length) (uE : Uni E) (hE : E.length ≤ 1000) (hT : T = C.length) :
    ((sem cl b_law_1a_7).s [.val x0, .val (.obj 0), z2, .val (.int T), .val (.tup (tI (fl C))), z5, .val (.tup (tI (fl E))), z7, z8, .no] s).post (fun r t => t = s ∧ r.1 = .nx ∧ ∃ y8, r.2 = [.val x0, .val (.obj 0), z2, .val (.int T), .val (.tup (tI (fl C))), z5, .val (.tup (tI (fl E))), z7, y8, .no]) fun _ _ => False := by
  have fE := fl_len uE
  have fC := fl_len u
  have back := back_ok (m := E.length) u b (by omega) hE
  have bf := back_flat hC
  obtain ⟨m, hm⟩ : ∃ m : Int, m = E.length := ⟨_, rfl⟩
  obtain ⟨bl, hbl⟩ : ∃ v : U, v = .lst ((backS C E.length).map st) := ⟨_, rfl⟩
  have SB := F.S (s := s) uE hE back
  rw [← hbl, bf] at SB
  unfold b_law_1a_7
  refine seq_post ?_
  rw [ys_asg, yx_bin, ye_bin, yp_comp]
  rw [comp_map (s := s) (its := rng 0 T) (l0 := [.val x0, .val (.obj 0), z2, .val (.int T), .val (.tup (tI (fl C))), z5, .val (.tup (tI (fl E))), z7, z8, .no]) (fun d => match d with | .int k => st (k.toNat, at4 C k.toNat) | _ => .non) (by simp [rgOkI (a := 0) (b := T) (by omega) (by omega) (by omega) (by omega)]) rfl (by rw [rng_len]; omega) (fun d hd => by
    obtain ⟨i, hi, rfl⟩ := List.getElem_of_mem hd
    obtain ⟨e, hlt⟩ := rng_get (List.getElem?_eq_getElem hi)
    rw [e]
    have ce := F.CE (s := s) u (show i < C.length by omega)
    simp [ce, Z.line]
    rfl)]
  rw [R.bind_ok]
  have lenE : biF .len [.tup (tI (fl E))] s = .ok (.int (4 * m)) s := by rw [len_tup, tI_len, fE, hm]; simp
  have dv : bin .div (.int ((fl E).length : Int)) (.int 4) s = .ok (.int m) s := by rw [bin_div (by omega) (by omega)]; congr 2; omega
  rw [yp_comp, comp_map (s := s) (its := rng T m) (l0 := [.val x0, .val (.obj 0), z2, .val (.int T), .val (.tup (tI (fl C))), z5, .val (.tup (tI (fl E))), z7, z8, .no]) (fun d => match d with | .int k => st (k.toNat, z4) | _ => .non) (by simp [dv, rgOkI (a := T) (b := m) (by omega) (by omega) (by omega) (by omega)]) rfl (by rw [rng_len]; omega) (fun d hd => by
    obtain ⟨i, hi, rfl⟩ := List.getElem_of_mem hd
    obtain ⟨e, hlt⟩ := rng_get (List.getElem?_eq_getElem hi)
    rw [e]
    simp [Z.line]
    show _ = U.tup [.int _, _]
    rw [show (((T + (i : Int)).toNat : Nat) : Int) = T + i by omega]
    rfl)]
  rw [R.bind_ok, bin_addL (by simp [rng_len]; omega)]
  have eb : (rng 0 T).map (fun d => match d with | .int k => st (k.toNat, at4 C k.toNat) | _ => .non) ++ (rng T m).map (fun d => match d with | .int k => st (k.toNat, z4) | _ => .non) = (backS C E.length).map st := by
    unfold backS rng
    rw [List.map_append]
    congr 1
    · simp [hT, Function.comp_def]
    · rw [hT, hm]
      simp only [List.map_map, Function.comp_def]
      rw [show ((E.length : Int) - (C.length : Int)).toNat = E.length - C.length by omega]
      refine List.map_congr_left fun i _ => ?_
      rw [show ((C.length : Int) + (i : Int)).toNat = C.length + i by omega]
  rw [eb, ← hbl]
  have lenC : biF .len [.tup (tI (fl C))] s = .ok (.int (4 * T)) s := by rw [len_tup, tI_len, fC, hT]; simp
  have hslot : slot true bl = .own bl := by rw [hbl]; rfl
  simp [hslot]
  unfold b_law_1a_8
  refine seq_post ?_
  simp [SB, Z.line]
  rw [bin_mulT (by omega) (by omega) (by simp; omega), rep_tup]
  simp only [R.bind_ok, post_ok]
  rw [bin_addT (by simp; omega), tI_app, show (((fl E).length : Int) - ((fl C).length : Int)).toNat = 4 * (E.length - C.length) by omega]
  simp only [R.bind_ok, post_ok]
  rw [cmp_neTi]
  simp
end
end K.k05

namespace K.k05
open Y PySem
open Z (Ky Ex Fn D)
section
variable {cl : Cl} {C E : List Cell} {L : List Stk} {x0 x2 : U} {z3 z4 z5 z6 z7 z8 : Sl} {T : Int} {s : Sto} {a : Nat}
def Lo2 (x0 : U) (l : Lo) : Prop := ∃ y2 y3 y4 y5 y6 y7 y8, l = [.val x0, .val (.obj 0), y2, y3, y4, y5, y6, y7, y8, .no]
def Bd (x0 : U) (a : Nat) (r : Fl × Lo) (t : Sto) : Prop := r.1 = .nx ∧ Lo2 x0 r.2 ∧ PE a t
theorem true_true {s : Sto} : cmp .isn (.bl true) (.bl true) s = .ok (.bl false) s := rfl
theorem cut_last {L : List Stk} {x : Stk} : Z.cut ((L ++ [x]).map st) (some (-1)) none = [st x] := by
  unfold Z.cut HT.sIx
  simp
  rw [show ((-1 : Int) + ((L.length : Int) + 1)).toNat = L.length by omega]
  simp
theorem nd_mrg {L : List Stk} : Nd (mrgS L) := (mrg_all [] L).1
theorem law_4 (F : Fa cl) (u : Uni C) (b : Byt C) (hC : C.length ≤ 100) (hT : T = C.length) (hL : ∀ x ∈ L, SOk x) (lL : L.length ≤ 100) (ne : L ≠ []) (hE : (setsC C L).length ≤ 1000) (p : PE a s) (ha : a ≤ 100000) :
    ((sem cl b_law_1a_4).s [.val x0, .val (.obj 0), .val x2, .val (.int T), .val (.tup (tI (fl C))), .val (.lst (L.map st)), .val (.tup (tI (fl (setsC C L)))), z7, z8, .no] s).post (Bd x0 (a + 1000)) fun _ _ => False := by
  have uE : Uni (setsC C L) := uni_setsC u fun y hy => (hL y hy).l
  have bE : Byt (setsC C L) := byt_setsC b hL
  have CE : C.length ≤ (setsC C L).length := ((len_setsC (L := L) (C := C)).mp (Nat.le_refl _)).1
  obtain ⟨L0, xl, hx⟩ : ∃ L0 xl, L = L0 ++ [xl] := ⟨L.dropLast, L.getLast ne, (List.dropLast_concat_getLast ne).symm⟩
  have xok : SOk xl := hL xl (by rw [hx]; simp)
  obtain ⟨v, hv⟩ : ∃ v, v = U.lst (L.map st) := ⟨_, rfl⟩
  have cr := F.CR (s := s) u (by omega) hL (by omega)
  have cu := F.CU (s := s) u (by omega) hL (by omega)
  have tu := F.TU p (by omega) (L := L) (by omega)
  have fi := F.IF (s := s) uE hE bE
  have srv : ∀ s, srcOf v s = .ok ⟨L.map st, none⟩ s := by intro s; rw [hv]; rfl
  have slv : ∀ s, opSl v (some (-1)) none s = .ok (.lst [st xl]) s := by intro s; rw [hv, hx, sl_lst, cut_last]
  have back : ∀ s, cl 5 [.tup (tI (fl (setsC C L))), .lst [st xl]] s = .ok (false, .tup (tI (fl (setsC C L)))) s := by
    intro s
    have := F.S (s := s) uE hE (L := [xl]) (by intro y hy; rw [List.mem_singleton.mp hy]; exact xok)
    rw [show setsC (setsC C L) [xl] = setsC C L by rw [hx]; exact set_last] at this
    exact this
  rw [← hv] at cr cu tu ⊢
  generalize hEE : setsC C L = E at *
  unfold b_law_1a_4
  refine seq_post ?_
  rw [ys_sif]
  have hf : (sem cl (.comp (.var 7) (.tv 7) (.itS (.var 5)) (.cmp .isn (.call 3 (.cons (.var 7) .nil)) (.bl true)) [7])).e [.val x0, .val (.obj 0), .val x2, .val (.int T), .val (.tup (tI (fl C))), .val v, .val (.tup (tI (fl E))), z7, z8, .no] s = .ok (.lst (((L.map st).filter fun d => false).map fun d => d)) s := by
    refine comp_filter (l0 := [.val x0, .val (.obj 0), .val x2, .val (.int T), .val (.tup (tI (fl C))), .val v, .val (.tup (tI (fl E))), .no, z8, .no]) _ _ (by simp [srv]) rfl (by simp; omega) rfl ?_
    intro d hd
    obtain ⟨y, hy, rfl⟩ := List.mem_map.mp hd
    have := F.IS (s := s) (hL y hy)
    simp [this, true_true]
  simp [hf, cmp_neL0, fi, true_true, Z.line]
  unfold b_law_1a_5
  refine seq_post ?_
  simp [cr, cu]
  unfold b_law_1a_6
  refine seq_post ?_
  simp
  refine R.post_mono tu ?_ fun _ _ h => h
  rintro ⟨o, w⟩ s2 ⟨A, rfl, pm, p2⟩
  have sA : ∀ s, cl 5 [.tup (tI (fl C)), .lst (A.map st)] s = .ok (false, .tup (tI (fl E))) s := by
    intro s
    have := F.S (s := s) u (by omega) (L := A) (fun y hy => hL y (mrg_sub (pm.mem_iff.mp hy)))
    rw [sets_perm pm (show (A.map (·.1)).Nodup from (List.Perm.nodup_iff (List.Perm.map (fun x : Stk => x.1) pm)).mpr nd_mrg), sets_mrg, hEE] at this
    exact this
  simp [sA, cmp_neTi, slv, back]
  refine R.post_mono (law_8 (z5 := .val v) (z2 := .val x2) (z7 := z7) (z8 := z8) (x0 := x0) F u b CE uE hE hT) ?_ fun _ _ h => h
  rintro ⟨fl, l⟩ t ⟨rfl, h1, y8, h2⟩
  exact ⟨h1, ⟨_, _, _, _, _, _, _, h2⟩, p2⟩
theorem body (F : Fa cl) (p : PE a s) (ha : a ≤ 50000) :
    ((sem cl b_law_1a_0).s [.val x0, .val (.obj 0), .val x2, z3, z4, z5, z6, z7, z8, .no] s).post (Bd x0 (a + 3000)) fun _ _ => False := by
  unfold b_law_1a_0
  refine seq_post ?_
  simp
  refine R.post_mono (F.DR p (by omega) (by omega) (by omega)) ?_ fun _ _ h => h
  rintro _ s2 ⟨T, rfl, t0, t1, p2⟩
  simp
  unfold b_law_1a_1
  refine seq_post ?_
  simp
  rw [bin_mulL (by omega) (by omega)]
  simp
  refine R.post_mono (F.NM p2 (by omega) (by omega) (by omega) (by omega) (by omega)) ?_ fun _ _ h => h
  rintro _ s3 ⟨_, rfl, ⟨zs, rfl, zl, zb⟩, p3⟩
  obtain ⟨C, rfl, u, lC⟩ := chunk (k := T.toNat) (zs := zs) (by omega)
  have bC : Byt C := fun c hc z hz => zb z (fl_mem.mpr ⟨c, hc, hz⟩)
  simp
  unfold b_law_1a_2
  refine seq_post ?_
  simp
  refine R.post_mono (F.DR p3 (by omega) (by omega) (by omega)) ?_ fun _ _ h => h
  rintro _ s4 ⟨k, rfl, k0, k1, p4⟩
  simp
  refine R.post_mono (F.ST p4 (k := 1 + k) (by omega) (by omega) (by omega) (by omega) (by omega)) ?_ fun _ _ h => h
  rintro _ s5 ⟨L, rfl, lL, hL, p5⟩
  have hLo : ∀ x ∈ L, SOk x := fun x hx => ⟨by have := (hL x hx).c; omega, (hL x hx).l, (hL x hx).b⟩
  have hE : (setsC C L).length ≤ 1000 := len_setsC.mpr ⟨by omega, fun y hy => by have := (hLo y hy).c; omega⟩
  have st5 := F.S (s := s5) u (by omega) hLo
  simp
  unfold b_law_1a_3
  refine seq_post ?_
  rw [ys_fz]
  simp [frz, st5]
  refine R.post_mono (law_4 (a := a + 1500) F u bC (by omega) (by omega) hLo (by omega) (by intro e; rw [e] at lL; simp at lL; omega) hE (p5.le (by omega)) (by omega)) ?_ fun _ _ h => h
  rintro ⟨fl, l⟩ t ⟨h1, h2, h3⟩
  exact ⟨h1, h2, h3.le (by omega)⟩
end
theorem law_0 {ns : List Int} (hn : ns.length ≤ 63) : (callN fns 21 13 [.kl (ns.map .int)] []).post (fun r _ => r.2 = .bl true) fun _ _ => False := by
  rw [call_law]
  have F := facts 17
  have pn := pen_new (n := 19) hn
  generalize callN fns 20 = cl at F pn ⊢
  refine fin_post ?_
  unfold b_law_0
  refine seq_post ?_
  simp [pn]
  have p0 : PE 0 [.dct (pen ns 0 0 [])] := ⟨[], ns, 0, 0, rfl, Nat.le_refl _⟩
  generalize [MO.dct (pen ns 0 0 [])] = s0 at p0
  generalize U.kl (ns.map .int) = x0
  unfold b_law_1
  refine seq_post ?_
  rw [ys_sfor]
  simp [rgOkI (a := 0) (b := 4) (by omega) (by omega) (by omega) (by omega)]
  refine for_post (fun i l s => Lo2 x0 l ∧ PE (3000 * i) s) ?_ ?_ ?_
  · rintro k d l t hd ⟨⟨y2, y3, y4, y5, y6, y7, y8, rfl⟩, p⟩
    have hkl := (List.getElem?_eq_some_iff.mp hd).1
    rw [rng_len] at hkl
    refine ⟨_, rfl, ?_⟩
    refine R.post_mono (body F p (by omega)) ?_ fun _ _ h => h
    rintro ⟨fl, l⟩ t ⟨h1, h2, h3⟩
    simp at h1
    subst h1
    exact ⟨h2, h3.le (by omega)⟩
  · rintro l t ⟨_, _⟩
    unfold b_law_2
    refine seq_post ?_
    simp
  · exact ⟨⟨_, _, _, _, _, _, _, rfl⟩, p0⟩
theorem law_true : ∀ ns : List Int, ns.length ≤ 63 → (∀ z ∈ ns, PySem.Builtin.Int.intBits z ≤ 1048576) → ∃ st', Z.callN fns 21 13 [.kl (ns.map .int)] [] = .ok (.bl true) st' := by
  intro ns hn _
  have k := law_0 hn
  cases hc : callN fns 21 13 [.kl (ns.map .int)] [] with
  | ok r s =>
    rw [hc] at k
    obtain ⟨o, u⟩ := r
    have : u = .bl true := k
    subst this
    exact Y.law_of hc
  | ex e s => rw [hc] at k; exact k.elim
  | bad => rw [hc] at k; exact k.elim
end K.k05


set_option maxHeartbeats 4000000 in
theorem PySem.Challenge.cw_tornentries_k05_whole_strokes_one_by_one_holds : PySem.Challenge.rw_tornentries_k05_whole_strokes_one_by_one.Holds := by
  w_on; o_law; k_head
  (case hw => w_witness2)
  k_fill
  refine Z.law_end (l := PySem.Challenge.rw_tornentries_k05_whole_strokes_one_by_one) (G := K.k05.G) (fs := K.k05.fns) (x := "_law_script") 20 13 rfl rfl ⟨rfl, by decide, by decide⟩ (fun w h Y => PySem.W.kIn_of Y) ?T K.k05.law_true
  case T =>
    intro w mg h KX Gn
    refine' K.k05.text KX Gn (Z.cst_int KX Gn ?z0) (Z.cst_int KX Gn ?z1) (Z.cst_int KX Gn ?z2) (.mk ?a0 ?l0 ?c0 ?k0) (.mk ?a1 ?l1 ?c1 ?k1) (.mk ?a2 ?l2 ?c2 ?k2) (.mk ?a3 ?l3 ?c3 ?k3) (.mk ?a4 ?l4 ?c4 ?k4) (.mk ?a5 ?l5 ?c5 ?k5) (.mk ?a6 ?l6 ?c6 ?k6) (.mk ?a7 ?l7 ?c7 ?k7) (.mk ?a8 ?l8 ?c8 ?k8) (.mk ?a9 ?l9 ?c9 ?k9) (.mk ?a10 ?l10 ?c10 ?k10) (.mk ?a11 ?l11 ?c11 ?k11) (.mk ?a12 ?l12 ?c12 ?k12) (.mk ?a13 ?l13 ?c13 ?k13) ?b0 ?b1 ?b2 ?b3 ?b4 ?b5 ?b6 ?b7 ?b8 ?b9 ?b10 ?b11 ?b12 ?b13 ?b14 ?b15 ?b16 ?b17 ?b18 ?b19 ?b20 ?b21 ?b22 ?b23 
    (case z0 => k_is)
    (case z1 => k_is)
    (case z2 => k_is)
    (case a0 => k_is); (case l0 => k_is); (case c0 => k_is); (case k0 => k_is)
    (case a1 => k_is); (case l1 => k_is); (case c1 => k_is); (case k1 => k_is)
    (case a2 => k_is); (case l2 => k_is); (case c2 => k_is); (case k2 => k_is)
    (case a3 => k_is); (case l3 => k_is); (case c3 => k_is); (case k3 => k_is)
    (case a4 => k_is); (case l4 => k_is); (case c4 => k_is); (case k4 => k_is)
    (case a5 => k_is); (case l5 => k_is); (case c5 => k_is); (case k5 => k_is)
    (case a6 => k_is); (case l6 => k_is); (case c6 => k_is); (case k6 => k_is)
    (case a7 => k_is); (case l7 => k_is); (case c7 => k_is); (case k7 => k_is)
    (case a8 => k_is); (case l8 => k_is); (case c8 => k_is); (case k8 => k_is)
    (case a9 => k_is); (case l9 => k_is); (case c9 => k_is); (case k9 => k_is)
    (case a10 => k_is); (case l10 => k_is); (case c10 => k_is); (case k10 => k_is)
    (case a11 => k_is); (case l11 => k_is); (case c11 => k_is); (case k11 => k_is)
    (case a12 => k_is); (case l12 => k_is); (case c12 => k_is); (case k12 => k_is)
    (case a13 => k_is); (case l13 => k_is); (case c13 => k_is); (case k13 => k_is)
    (case b0 => k_is)
    (case b1 => k_is)
    (case b2 => k_is)
    (case b3 => k_is)
    (case b4 => k_is)
    (case b5 => k_is)
    (case b6 => k_is)
    (case b7 => k_is)
    (case b8 => k_is)
    (case b9 => k_is)
    (case b10 => k_is)
    (case b11 => k_is)
    (case b12 => k_is)
    (case b13 => k_is)
    (case b14 => k_is)
    (case b15 => k_is)
    (case b16 => k_is)
    (case b17 => k_is)
    (case b18 => k_is)
    (case b19 => k_is)
    (case b20 => k_is)
    (case b21 => k_is)
    (case b22 => k_is)
    (case b23 => k_is)
