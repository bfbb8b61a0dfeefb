import PyProof.Rows.All
import PySem.Challenge.RW_tornentries_k10_whole_worths_there_and_b
import Wide.All
import OpenK.AllK
import Wide.FinOn
import HandS.ForMost
import HandS.TupAny
import HandS.Wide
import HandS.TupMul
import HandS.Style
import HandS.EndBits
import HandS.Defaults
import HandS.IsInst
import HandS.Conv
import HandS.DictComp
import HandS.Zip
import HandS.Rev
import HandS.Deep
import HandS.SetFor
import HandS.Strs
set_option Elab.async false
set_option maxRecDepth 100000
set_option linter.all false
/-! ZCore: a small evaluator over plain data; programs as terms of Ex. -/
namespace Z
/-- data: tuples by structure, what can change by its place in the store -/
inductive D where
  | non | bl (b : Bool) | int (i : Int) | str (s : List Nat) | tup (xs : List D) | kl (xs : List D) | obj (i : Nat)
deriving Inhabited

mutual
def D.dec : (a b : D) → Decidable (a = b)
  | .non, .non => isTrue rfl
  | .bl a, .bl b => if h : a = b then isTrue (by rw [h]) else isFalse (fun e => h (by injection e))
  | .int a, .int b => if h : a = b then isTrue (by rw [h]) else isFalse (fun e => h (by injection e))
  | .str a, .str b => if h : a = b then isTrue (by rw [h]) else isFalse (fun e => h (by injection e))
  | .tup a, .tup b => match D.decs a b with
    | isTrue h => isTrue (by rw [h])
    | isFalse h => isFalse (fun e => h (by injection e))
  | .kl a, .kl b => match D.decs a b with
    | isTrue h => isTrue (by rw [h])
    | isFalse h => isFalse (fun e => h (by injection e))
  | .obj a, .obj b => if h : a = b then isTrue (by rw [h]) else isFalse (fun e => h (by injection e))
  | .non, .bl _ | .non, .int _ | .non, .str _ | .non, .tup _ | .non, .kl _ | .non, .obj _ => isFalse (fun e => nomatch e)
  | .bl _, .non | .bl _, .int _ | .bl _, .str _ | .bl _, .tup _ | .bl _, .kl _ | .bl _, .obj _ => isFalse (fun e => nomatch e)
  | .int _, .non | .int _, .bl _ | .int _, .str _ | .int _, .tup _ | .int _, .kl _ | .int _, .obj _ => isFalse (fun e => nomatch e)
  | .str _, .non | .str _, .bl _ | .str _, .int _ | .str _, .tup _ | .str _, .kl _ | .str _, .obj _ => isFalse (fun e => nomatch e)
  | .tup _, .non | .tup _, .bl _ | .tup _, .int _ | .tup _, .str _ | .tup _, .kl _ | .tup _, .obj _ => isFalse (fun e => nomatch e)
  | .kl _, .non | .kl _, .bl _ | .kl _, .int _ | .kl _, .str _ | .kl _, .tup _ | .kl _, .obj _ => isFalse (fun e => nomatch e)
  | .obj _, .non | .obj _, .bl _ | .obj _, .int _ | .obj _, .str _ | .obj _, .tup _ | .obj _, .kl _ => isFalse (fun e => nomatch e)
def D.decs : (a b : List D) → Decidable (a = b)
  | [], [] => isTrue rfl
  | x :: xs, y :: ys => match D.dec x y, D.decs xs ys with
    | isTrue h, isTrue k => isTrue (by rw [h, k])
    | isFalse h, _ => isFalse (fun e => h (by injection e))
    | _, isFalse k => isFalse (fun e => k (by injection e))
  | [], _ :: _ => isFalse (fun e => nomatch e)
  | _ :: _, [] => isFalse (fun e => nomatch e)
end
instance : DecidableEq D := D.dec

abbrev Ky := Sum Int (List Nat)
def D.key : D → Option Ky
  | .int i => some (.inl i)
  | .str s => some (.inr s)
  | _ => none
/-- what can change -/
inductive MO where
  | lst (xs : List D) | dct (kvs : List (Ky × D))
deriving DecidableEq
abbrev Sto := List MO
abbrev Lo := List (Option D)

inductive R (α : Type) where
  | ok (a : α) (s : Sto) | ex (e : D) (s : Sto) | bad
def R.bind {α β : Type} (r : R α) (f : α → Sto → R β) : R β := match r with
  | .ok a s => f a s
  | .ex e s => .ex e s
  | .bad => .bad
/-- what may not raise -/
def R.noex {α : Type} (r : R α) : R α := match r with
  | .ex _ _ => .bad
  | r => r
@[simp] theorem R.noex_ok {α : Type} {a : α} {s : Sto} : (R.ok a s).noex = R.ok a s := rfl
@[simp] theorem R.noex_bad {α : Type} : (R.bad : R α).noex = R.bad := rfl
@[simp] theorem R.bind_ok {α β : Type} {a : α} {s : Sto} {f : α → Sto → R β} : (R.ok a s).bind f = f a s := rfl
@[simp] theorem R.bind_bad {α β : Type} {f : α → Sto → R β} : (R.bad : R α).bind f = R.bad := rfl
@[simp] theorem R.bind_ex {α β : Type} {e : D} {s : Sto} {f : α → Sto → R β} : (R.ex e s : R α).bind f = R.ex e s := rfl
/-- what an end is to be -/
def R.post {α : Type} (r : R α) (Q : α → Sto → Prop) (E : D → Sto → Prop) : Prop := match r with
  | .ok a s => Q a s
  | .ex e s => E e s
  | .bad => False
theorem R.post_mono {α : Type} {r : R α} {Q Q' : α → Sto → Prop} {E E' : D → Sto → Prop} (h : r.post Q E) (hq : ∀ a s, Q a s → Q' a s) (he : ∀ a s, E a s → E' a s) : r.post Q' E' := by
  cases r with
  | ok a s => exact hq _ _ h
  | ex a s => exact he _ _ h
  | bad => exact h
theorem R.post_bind {α β : Type} {r : R α} {f : α → Sto → R β} {Q : β → Sto → Prop} {E : D → Sto → Prop} : (r.bind f).post Q E ↔ r.post (fun a s => (f a s).post Q E) E := by
  cases r <;> exact Iff.rfl

/-! ### operations on data -/
def lst? (s : Sto) : D → Option (List D)
  | .kl xs => some xs
  | .obj i => match s[i]? with
    | some (.lst xs) => some xs
    | _ => none
  | _ => none
/-- a list or a tuple -/
def seq? (s : Sto) : D → Option (List D)
  | .tup xs => some xs
  | d => lst? s d
def newL (xs : List D) (s : Sto) : R D := .ok (.obj s.length) (s ++ [.lst xs])
def newK (kvs : List (Ky × D)) (s : Sto) : R D := .ok (.obj s.length) (s ++ [.dct kvs])
def setO (i : Nat) (o : MO) (s : Sto) : Sto := s.set i o

def optAll {α β : Type} (f : α → Option β) : List α → Option (List β)
  | [] => some []
  | x :: xs => match f x, optAll f xs with
    | some y, some ys => some (y :: ys)
    | _, _ => none
/-- data as the library's data, lists read in the store -/
def pd (s : Sto) : Nat → D → Option PySem.PyData
  | 0, _ => none
  | n + 1, d => match d with
    | .non => some .none
    | .bl b => some (.bool b)
    | .int i => some (.int i)
    | .str x => some (.str ⟨x.toArray⟩)
    | .tup xs => (optAll (pd s n) xs).map .tuple
    | .kl xs => (optAll (pd s n) xs).map .list
    | .obj i => match s[i]? with
      | some (.lst xs) => (optAll (pd s n) xs).map .list
      | some (.dct kvs) => (optAll (fun kv => (pd s n kv.2).map fun p => ((match kv.1 with | .inl i => PySem.PyData.int i | .inr x => PySem.PyData.str ⟨x.toArray⟩), p)) kvs).map .dict
      | none => none
def fuel : Nat := 40
def line : Nat := 16777216
def big : Int := 18446744073709551616

def eqP (s : Sto) (x y : D) : Option Bool := match pd s fuel x, pd s fuel y with
  | some p, some q => if PySem.SeqAt.shaped p = true ∧ PySem.SeqAt.shaped q = true then some (PySem.PyData.eqv p q) else none
  | _, _ => none
/-- two lists of unlike lengths -/
def lenNe (s : Sto) (x y : D) : Bool := match lst? s x, lst? s y with
  | some a, some b => a.length != b.length
  | _, _ => false
def eqD (s : Sto) (x y : D) : Option Bool := match x, y with
  | .str a, .str b => some (a == b)
  | _, _ => if lenNe s x y = true then some false else eqP s x y
def flatD : D → Bool
  | .non | .bl _ | .int _ | .str _ => true
  | _ => false
def eqF : D → D → Bool
  | .non, .non => true
  | .bl a, .bl b => a == b
  | .bl a, .int b => (if a then 1 else 0) == b
  | .int a, .bl b => a == (if b then 1 else 0)
  | .int a, .int b => a == b
  | .str a, .str b => a == b
  | _, _ => false
def inF (x : D) (xs : List D) : Bool := xs.any fun y => eqF y x
def lookK (kvs : List (Ky × D)) (k : Ky) : Option D := (kvs.find? fun kv => decide (kv.1 = k)).map (·.2)
def putK (kvs : List (Ky × D)) (k : Ky) (v : D) : List (Ky × D) :=
  if kvs.any (fun kv => decide (kv.1 = k)) then kvs.map (fun kv => if kv.1 = k then (kv.1, v) else kv) else kvs ++ [(k, v)]

/-! ### operators -/
inductive Bop where | add | sub | mul | div | mod | pow
deriving DecidableEq
inductive Cop where | eq | ne | lt | le | gt | ge | is | isn | mem | nmem
deriving DecidableEq

def opAdd (x y : D) (s : Sto) : R D := match x, y with
  | .int a, .int b => .ok (.int (a + b)) s
  | .str a, .str b => if a.length + b.length ≤ line then .ok (.str (a ++ b)) s else .bad
  | .tup a, .tup b => if a.length + b.length ≤ line then .ok (.tup (a ++ b)) s else .bad
  | .obj i, .obj j => match s[i]?, s[j]? with
    | some (.lst a), some (.lst b) => if a.length + b.length ≤ line then newL (a ++ b) s else .bad
    | _, _ => .bad
  | _, _ => .bad
def opMul (x y : D) (s : Sto) : R D := match x, y with
  | .int a, .int b => if (-big < a ∧ a < big) ∨ (-big < b ∧ b < big) then .ok (.int (a * b)) s else .bad
  | .tup a, .int k => if a ≠ [] ∧ 2 ≤ k ∧ k ≤ 1000000 ∧ a.length * k.toNat ≤ line then .ok (.tup (List.replicate k.toNat a).flatten) s
    else if (a = [] ∨ k = 1) ∧ -1000000 ≤ k ∧ k ≤ 1000000 then .ok (.tup a) s
    else if a ≠ [] ∧ -1000000 ≤ k ∧ k ≤ 0 then .ok (.tup []) s else .bad
  | .str z, .int k => if z ≠ [] ∧ 2 ≤ k ∧ k ≤ 1000000 ∧ z.length * k.toNat ≤ line then .ok (.str (List.replicate k.toNat z).flatten) s
    else if z = [] ∧ 2 ≤ k ∧ k ≤ 1000000 then .ok (.str []) s else .bad
  | .obj i, .int k => match s[i]? with
    | some (.lst a) => if k ≤ 100000 ∧ a.length * k.toNat ≤ line ∧ -100000 ≤ k then newL (List.replicate k.toNat a).flatten s else .bad
    | _ => .bad
  | _, _ => .bad
def bin (o : Bop) (x y : D) (s : Sto) : R D := match o with
  | .add => opAdd x y s
  | .mul => opMul x y s
  | .sub => match x, y with
    | .int a, .int b => .ok (.int (a - b)) s
    | _, _ => .bad
  | .div => match x, y with
    | .int a, .int b => if 0 < b ∧ b < big then .ok (.int (a / b)) s else .bad
    | _, _ => .bad
  | .mod => match x, y with
    | .int a, .int b => if 0 < b then .ok (.int (a % b)) s else .bad
    | _, _ => .bad
  | .pow => match x, y with
    | .int a, .int b => if 0 ≤ b ∧ b ≤ 1000000 ∧ a.natAbs < 18446744073709551616 then .ok (.int (a ^ b.toNat)) s else .bad
    | _, _ => .bad
def ints? : List D → Option (List Int)
  | [] => some []
  | .int i :: r => (ints? r).map (i :: ·)
  | _ :: _ => none
def strs? : List D → Option (List (List Nat))
  | [] => some []
  | .str i :: r => (strs? r).map (i :: ·)
  | _ :: _ => none
def bls? : List D → Option (List Bool)
  | [] => some []
  | .bl i :: r => (bls? r).map (i :: ·)
  | _ :: _ => none
def opIn (x y : D) (s : Sto) : Option Bool := match y with
  | .str z => match x with
    | .str [c] => some (decide (c ∈ z))
    | _ => none
  | .tup ys => if flatD x = true ∧ ys.all flatD = true then some (inF x ys) else none
  | .kl ys => if flatD x = true ∧ ys.all flatD = true then some (inF x ys) else none
  | .obj i => match s[i]? with
    | some (.lst ys) => if flatD x = true ∧ ys.all flatD = true then some (inF x ys) else none
    | some (.dct kvs) => match x.key with
      | some k => some (lookK kvs k).isSome
      | none => none
    | none => none
  | _ => none
def opLt (f : Int → Int → Bool) (x y : D) : Option Bool := match x, y with
  | .int a, .int b => some (f a b)
  | _, _ => none
def opIs (x y : D) : Option Bool := match y with
  | .non => some (decide (x = .non))
  | .bl b => match x with
    | .bl a => some (decide (a = b))
    | _ => none
  | _ => none
def cmpO (o : Cop) (x y : D) (s : Sto) : Option Bool := match o with
  | .eq => eqD s x y
  | .ne => (eqD s x y).map (!·)
  | .lt => opLt (fun a b => decide (a < b)) x y
  | .le => opLt (fun a b => decide (a ≤ b)) x y
  | .gt => opLt (fun a b => decide (b < a)) x y
  | .ge => opLt (fun a b => decide (b ≤ a)) x y
  | .is => opIs x y
  | .isn => (opIs x y).map (!·)
  | .mem => opIn x y s
  | .nmem => (opIn x y s).map (!·)
def cmp (o : Cop) (x y : D) (s : Sto) : R D := match cmpO o x y s with
  | some b => .ok (.bl b) s
  | none => .bad

/-! ### items and slices -/
def opIx (x y : D) (s : Sto) : R D := match x with
  | .tup xs => match y with
    | .int i => match L2.atI xs i with
      | some d => .ok d s
      | none => .bad
    | _ => .bad
  | .kl xs => match y with
    | .int i => match L2.atI xs i with
      | some d => .ok d s
      | none => .bad
    | _ => .bad
  | .str z => match y with
    | .int i => if z.length ≤ line then (match L2.atI z i with
      | some c => .ok (.str [c]) s
      | none => .bad) else .bad
    | _ => .bad
  | .obj k => match s[k]? with
    | some (.lst xs) => match y with
      | .int i => match L2.atI xs i with
        | some d => .ok d s
        | none => .bad
      | _ => .bad
    | some (.dct kvs) => match y.key with
      | some q => match lookK kvs q with
        | some d => .ok d s
        | none => .bad
      | none => .bad
    | none => .bad
  | _ => .bad
def cut {α : Type} (xs : List α) (lo hi : Option Int) : List α := (xs.drop (HT.sIx xs.length 0 lo)).take (HT.sIx xs.length xs.length hi - HT.sIx xs.length 0 lo)
def opSl (x : D) (lo hi : Option Int) (s : Sto) : R D := match x with
  | .tup xs => .ok (.tup (cut xs lo hi)) s
  | .kl xs => newL (cut xs lo hi) s
  | .str z => if z.length ≤ line then .ok (.str (cut z lo hi)) s else .bad
  | .obj k => match s[k]? with
    | some (.lst xs) => newL (cut xs lo hi) s
    | _ => .bad
  | _ => .bad
/-- x[::-1] -/
def opRev (x : D) (s : Sto) : R D := match x with
  | .tup xs => .ok (.tup xs.reverse) s
  | .kl xs => newL xs.reverse s
  | .obj k => match s[k]? with
    | some (.lst xs) => newL xs.reverse s
    | _ => .bad
  | _ => .bad

/-! ### built-ins -/
inductive Bi where
  | len | abs | int | all | any | list | tuple | divmod | sum | min | max | ord | chr | str | repr | sorted
deriving DecidableEq
/-- the types that isinstance is asked of -/
inductive Ty where
  | int | bool | str | tuple | list | dict
deriving DecidableEq
def isTy (t : Ty) (x : D) (s : Sto) : Option Bool := match x with
  | .non => some false
  | .bl _ => some (t == .bool || t == .int)
  | .int _ => some (t == .int)
  | .str _ => some (t == .str)
  | .tup _ => some (t == .tuple)
  | .kl _ => some (t == .list)
  | .obj i => match s[i]? with
    | some (.lst _) => some (t == .list)
    | some (.dct _) => some (t == .dict)
    | none => none
def bLen (x : D) (s : Sto) : R D := match x with
  | .str z => if z.length ≤ line then .ok (.int z.length) s else .bad
  | .tup xs => .ok (.int xs.length) s
  | .kl xs => .ok (.int xs.length) s
  | .obj i => match s[i]? with
    | some (.lst xs) => .ok (.int xs.length) s
    | _ => .bad
  | _ => .bad
def shownD (x : D) (s : Sto) : Option (List Nat) := match pd s fuel x with
  | some p => if p.showable = true ∧ p.shown.length ≤ line then some p.shown.cps.toList else none
  | none => none
def bi1 (b : Bi) (x : D) (s : Sto) : R D := match b with
  | .len => bLen x s
  | .abs => match x with
    | .int i => .ok (.int (if i < 0 then -i else i)) s
    | _ => .bad
  | .int => match x with
    | .int i => .ok (.int i) s
    | .bl k => .ok (.int (if k then 1 else 0)) s
    | _ => .bad
  | .all => match lst? s x with
    | some xs => match bls? xs with
      | some bs => .ok (.bl (bs.all id)) s
      | none => .bad
    | none => .bad
  | .any => match lst? s x with
    | some xs => match bls? xs with
      | some bs => .ok (.bl (bs.any id)) s
      | none => .bad
    | none => .bad
  | .list => match x with
    | .str z => if z.length ≤ line then newL (z.map fun c => .str [c]) s else .bad
    | _ => match seq? s x with
      | some xs => newL xs s
      | none => .bad
  | .tuple => match seq? s x with
    | some xs => .ok (.tup xs) s
    | none => .bad
  | .sum => match lst? s x with
    | some xs => match ints? xs with
      | some is => .ok (.int is.sum) s
      | none => .bad
    | none => .bad
  | .repr => match shownD x s with
    | some t => .ok (.str t) s
    | none => .bad
  | .str => match x with
    | .int i => if i.natAbs.log2 < 1920 then .ok (.str (toString i : PySem.Str).cps.toList) s else .bad
    | _ => .bad
  | .ord => match x with
    | .str [c] => .ok (.int c) s
    | _ => .bad
  | .chr => match x with
    | .int i => if 0 ≤ i ∧ i ≤ 1114111 then .ok (.str [i.toNat]) s else .bad
    | _ => .bad
  | _ => .bad
def bi2 (b : Bi) (x y : D) (s : Sto) : R D := match b with
  | .divmod => match x, y with
    | .int i, .int j => if 0 < j ∧ j < 1073741824 then .ok (.tup [.int (i / j), .int (i % j)]) s else .bad
    | _, _ => .bad
  | .min => match x, y with
    | .int i, .int j => .ok (.int (if j < i then j else i)) s
    | _, _ => .bad
  | .max => match x, y with
    | .int i, .int j => .ok (.int (if j > i then j else i)) s
    | _, _ => .bad
  | _ => .bad
def biF (b : Bi) (xs : List D) (s : Sto) : R D := match xs with
  | [x] => bi1 b x s
  | [x, y] => bi2 b x y s
  | _ => .bad
inductive Mt where
  | append | reverse | extend | pop | join | upper
deriving DecidableEq
def joinD (sep : List Nat) : List (List Nat) → List Nat
  | [] => []
  | z :: zs => zs.foldl (fun acc p => acc ++ sep ++ p) z
def upA (c : Nat) : Nat := if 97 ≤ c ∧ c ≤ 122 then c - 32 else c
def mth (m : Mt) (o : D) (xs : List D) (s : Sto) : R D := match m with
  | .append => match o, xs with
    | .obj i, [y] => match s[i]? with
      | some (.lst zs) => if zs.length < line then .ok .non (setO i (.lst (zs ++ [y])) s) else .bad
      | _ => .bad
    | _, _ => .bad
  | .reverse => match o, xs with
    | .obj i, [] => match s[i]? with
      | some (.lst zs) => .ok .non (setO i (.lst zs.reverse) s)
      | _ => .bad
    | _, _ => .bad
  | .extend => match o, xs with
    | .obj i, [.obj j] => match s[i]?, s[j]? with
      | some (.lst zs), some (.lst ys) => if zs.length + ys.length ≤ line then .ok .non (setO i (.lst (zs ++ ys)) s) else .bad
      | _, _ => .bad
    | _, _ => .bad
  | .pop => match o, xs with
    | .obj i, [] => match s[i]? with
      | some (.lst zs) => match zs[zs.length - 1]? with
        | some z => .ok z (setO i (.lst zs.dropLast) s)
        | none => .bad
      | _ => .bad
    | _, _ => .bad
  | .join => match o, xs with
    | .str sep, [.obj i] => match s[i]? with
      | some (.lst zs) => match strs? zs with
        | some ys => if (ys.map (·.length)).sum + ys.length * sep.length ≤ line then .ok (.str (joinD sep ys)) s else .bad
        | none => .bad
      | _ => .bad
    | _, _ => .bad
  | .upper => match o, xs with
    | .str z, [] => if z.all (fun c => decide (c < 128)) = true ∧ z.length ≤ 1000000 then .ok (.str (z.map upA)) s else .bad
    | _, _ => .bad
/-- o[i] = v -/
def stIx (o i v : D) (s : Sto) : R Unit := match o with
  | .obj k => match s[k]? with
    | some (.lst xs) => match i with
      | .int n => match L2.ixN xs.length n with
        | some j => .ok () (setO k (.lst (xs.set j v)) s)
        | none => .bad
      | _ => .bad
    | some (.dct kvs) => match i.key with
      | some q => if kvs.length < line then .ok () (setO k (.dct (putK kvs q v)) s) else .bad
      | none => .bad
    | _ => .bad
  | _ => .bad

/-- o[a:c] = v, of a tuple v -/
def stSl (o p q v : D) (s : Sto) : R Unit := match o with
  | .obj k => match s[k]? with
    | some (.lst xs) => match p, q, v with
      | .int a, .int c, .tup ys => if 0 ≤ a ∧ a ≤ c ∧ c ≤ xs.length ∧ xs.length + ys.length ≤ line then .ok () (setO k (.lst (xs.take a.toNat ++ ys ++ xs.drop c.toNat)) s) else .bad
      | _, _, _ => .bad
    | _ => .bad
  | _ => .bad

/-- the numbers of a row, rising, each once -/
def insS (z : Int) : List Int → List Int
  | [] => [z]
  | y :: ys => if z < y then z :: y :: ys else if z = y then y :: ys else y :: insS z ys
def sset (ns : List Int) : List Int := ns.foldr insS []

/-! ### terms -/
inductive Ex where
  | nil | cons (a r : Ex)
  | var (i : Nat) | glb (i : Nat) (d : D)
  | int (i : Int) | str (s : List Nat) | bl (b : Bool) | non
  | bin (o : Bop) (a b : Ex) | neg (a : Ex) | not (a : Ex) | and (a b : Ex) | or (a b : Ex) | one (a : Ex)
  | cmp (o : Cop) (a b : Ex) | cmp2 (o p : Cop) (a b c : Ex)
  | ite (c a b : Ex)
  | tup (es : Ex) | lst (es : Ex) | dct (ks : List Ky) (vs : Ex)
  | ix (a i : Ex) | sl (a lo hi : Ex) | rev (a : Ex)
  | call (f : Nat) (as : Ex) | bi (b : Bi) (as : Ex) | isi (a : Ex) (t : Ty) | mt (m : Mt) (o as : Ex)
  | comp (e : Ex) (tg : Ex) (it : Ex) (c : Ex) (own : List Nat)
  -- list(range(..))
  | lr1 (b : Ex) | lr2 (a b : Ex)
  -- sorted(set(a))
  | sset (a : Ex)
  -- f(a, .., k = v) or f(a, ..), one keyword-only parameter, d its default
  | callK (f : Nat) (as kv : Ex) (d : D)
  -- C[a], C a module's dict of ints
  | gix (i : Nat) (kvs : List (Int × Int)) (a : Ex)
  -- what is walked
  | itS (e : Ex) | itR1 (b : Ex) | itR2 (a b : Ex) | itR3 (a b c : Ex)
  -- [e for tg in it for tg2 in it2]
  | comp2 (e tg it tg2 it2 : Ex) (own own2 : List Nat)
  -- {ek: ev for tg in it if c}
  | compD (ek ev tg it c : Ex) (own : List Nat)
  -- targets
  | tv (i : Nat) | tt (ts : Ex) | tix (o i : Ex) | tsl (o lo hi : Ex)
  -- statements
  | expr (e : Ex) | asg (t e : Ex) | sif (c a b : Ex) | sfor (t it b : Ex) | swh (c b : Ex) | ret (e : Ex) | retN | pass | brk | cnt

inductive Fl where | nx | brk | cnt | ret (d : D)
/-- what is walked: its items, the list that must stay -/
structure Src where
  its : List D
  grd : Option (Nat × MO)
def Src.ok (r : Src) (s : Sto) : Bool := match r.grd with
  | none => true
  | some (i, o) => decide (s[i]? = some o)

structure Sm where
  e : Lo → Sto → R D
  l : Lo → Sto → R (List D)
  w : Lo → Sto → R Src
  /-- targets -/
  t : D → Lo → Sto → R Lo
  ts : List D → Lo → Sto → R Lo
  s : Lo → Sto → R (Fl × Lo)
def Sm.bad : Sm := ⟨fun _ _ => .bad, fun _ _ => .bad, fun _ _ => .bad, fun _ _ _ => .bad, fun _ _ _ => .bad, fun _ _ => .bad⟩
abbrev Cl := Nat → List D → Sto → R D

def asB (d : D) (s : Sto) : R Bool := match d with
  | .bl b => .ok b s
  | _ => .bad
def wipe (l : Lo) : List Nat → Lo
  | [] => l
  | v :: vs => (wipe l vs).set v none
/-- a for's turns -/
def forL (src : Src) (t : D → Lo → Sto → R Lo) (b : Lo → Sto → R (Fl × Lo)) : List D → Lo → Sto → R (Fl × Lo)
  | [], l, s => if src.ok s then .ok (.nx, l) s else .bad
  | d :: ds, l, s => if src.ok s then (t d l s).bind fun l1 s1 => (b l1 s1).bind fun r s2 => (match r.1 with
    | .nx => forL src t b ds r.2 s2
    | .cnt => forL src t b ds r.2 s2
    | .brk => .ok (.nx, r.2) s2
    | .ret v => .ok (.ret v, r.2) s2) else .bad
/-- a comprehension's turns: l the names ahead of each turn, acc what is made -/
def comL (src : Src) (l : Lo) (t : D → Lo → Sto → R Lo) (c : Lo → Sto → R Bool) (e : Lo → Sto → R D) (k : Nat) : List D → List D → Sto → R Unit
  | [], acc, s => if src.ok s ∧ s[k]? = some (.lst acc) then .ok () s else .bad
  | d :: ds, acc, s => if src.ok s ∧ s[k]? = some (.lst acc) then (t d l s).bind fun l1 s1 => (c l1 s1).bind fun b s2 => if b = true then
      (e l1 s2).bind fun y s3 => if s3[k]? = some (.lst acc) ∧ acc.length < line then comL src l t c e k ds (acc ++ [y]) (setO k (.lst (acc ++ [y])) s3) else .bad
    else comL src l t c e k ds acc s2 else .bad
/-- a dict comprehension's turns -/
def comD (src : Src) (l : Lo) (t : D → Lo → Sto → R Lo) (c : Lo → Sto → R Bool) (e1 e2 : Lo → Sto → R D) (k : Nat) : List D → List (Ky × D) → Sto → R Unit
  | [], acc, s => if src.ok s ∧ s[k]? = some (.dct acc) then .ok () s else .bad
  | d :: ds, acc, s => if src.ok s ∧ s[k]? = some (.dct acc) then (t d l s).bind fun l1 s1 => (c l1 s1).bind fun b s2 => if b = true then
      (e1 l1 s2).bind fun x s3 => (e2 l1 s3).bind fun y s4 => (match x.key with
        | some q => if s4[k]? = some (.dct acc) ∧ acc.length < line then comD src l t c e1 e2 k ds (putK acc q y) (setO k (.dct (putK acc q y)) s4) else .bad
        | none => .bad)
    else comD src l t c e1 e2 k ds acc s2 else .bad
/-- the inner for of a comprehension of two: what is made, in the end -/
def comA (src : Src) (l : Lo) (t : D → Lo → Sto → R Lo) (e : Lo → Sto → R D) (k : Nat) : List D → List D → Sto → R (List D)
  | [], acc, s => if src.ok s ∧ s[k]? = some (.lst acc) then .ok acc s else .bad
  | d :: ds, acc, s => if src.ok s ∧ s[k]? = some (.lst acc) then (t d l s).bind fun l1 s1 => (e l1 s1).bind fun y s2 =>
      if s2[k]? = some (.lst acc) ∧ acc.length < line then comA src l t e k ds (acc ++ [y]) (setO k (.lst (acc ++ [y])) s2) else .bad else .bad
/-- the outer one -/
def com2 (src : Src) (l : Lo) (t : D → Lo → Sto → R Lo) (w2 : Lo → Sto → R Src) (own2 : List Nat) (t2 : D → Lo → Sto → R Lo) (e : Lo → Sto → R D) (k : Nat) : List D → List D → Sto → R Unit
  | [], acc, s => if src.ok s ∧ s[k]? = some (.lst acc) then .ok () s else .bad
  | d :: ds, acc, s => if src.ok s ∧ s[k]? = some (.lst acc) then (t d l s).bind fun l1 s1 => (w2 l1 s1).bind fun src2 s2 =>
      (comA src2 (wipe l1 own2) t2 e k src2.its acc s2).bind fun acc2 s3 => com2 src l t w2 own2 t2 e k ds acc2 s3 else .bad
def whL (c : Lo → Sto → R Bool) (b : Lo → Sto → R (Fl × Lo)) : Nat → Lo → Sto → R (Fl × Lo)
  | 0, _, _ => .bad
  | n + 1, l, s => (c l s).bind fun k s1 => if k = true then (b l s1).bind fun r s2 => (match r.1 with
    | .nx => whL c b n r.2 s2
    | .cnt => whL c b n r.2 s2
    | .brk => .ok (.nx, r.2) s2
    | .ret v => .ok (.ret v, r.2) s2) else .ok (.nx, l) s1
def whFuel : Nat := 1000000
def rng (a b : Int) : List D := (List.range (b - a).toNat).map fun i => D.int (a + (i : Nat))
/-- how many: range(a, b, c) -/
def rgN (a b c : Int) : Nat := if a < b then ((b - a - 1) / c + 1).toNat else 0
def rng3 (a b c : Int) : List D := (List.range (rgN a b c)).map fun i => D.int (a + (i : Nat) * c)
def rgOk (a b : Int) : Bool := decide (-1000000000 ≤ a ∧ a ≤ 1000000000 ∧ -1000000000 ≤ b ∧ b ≤ 1000000000)

def oInt (m : Ex) (f : Lo → Sto → R D) (l : Lo) (s : Sto) : R (Option Int) := match m with
  | .nil => .ok none s
  | _ => (f l s).bind fun d s1 => match d with
    | .int i => .ok (some i) s1
    | _ => .bad
def isNil : Ex → Bool
  | .nil => true
  | _ => false
/-- the receiver of a method, ahead of its arguments -/
def mtOk (m : Mt) (x : D) (s : Sto) : Bool := match m with
  | .join => match x with
    | .str _ => true
    | _ => false
  | .upper => match x with
    | .str _ => true
    | _ => false
  | _ => match x with
    | .obj i => match s[i]? with
      | some (.lst _) => true
      | _ => false
    | _ => false
def sem (cl : Cl) : Ex → Sm
  | .nil => { Sm.bad with l := fun _ s => .ok [] s, s := fun l s => .ok (.nx, l) s, ts := fun ds l s => (match ds with | [] => .ok l s | _ => .bad) }
  | .cons a r => { Sm.bad with
      l := fun l s => ((sem cl a).e l s).bind fun x s1 => ((sem cl r).l l s1).bind fun xs s2 => .ok (x :: xs) s2
      ts := fun ds l s => (match ds with
        | d :: ds => ((sem cl a).t d l s).bind fun l1 s1 => (sem cl r).ts ds l1 s1
        | [] => .bad)
      s := fun l s => ((sem cl a).s l s).bind fun r1 s1 => (match r1.1 with
        | .nx => (sem cl r).s r1.2 s1
        | _ => .ok r1 s1) }
  | .var i => { Sm.bad with e := fun l s => (match l[i]? with | some (some d) => .ok d s | _ => .bad) }
  | .glb _ d => { Sm.bad with e := fun _ s => .ok d s }
  | .int i => { Sm.bad with e := fun _ s => .ok (.int i) s }
  | .str x => { Sm.bad with e := fun _ s => .ok (.str x) s }
  | .bl b => { Sm.bad with e := fun _ s => .ok (.bl b) s }
  | .non => { Sm.bad with e := fun _ s => .ok .non s }
  | .bin o a b => { Sm.bad with e := fun l s => ((sem cl a).e l s).bind fun x s1 => ((sem cl b).e l s1).bind fun y s2 => bin o x y s2 }
  | .neg a => { Sm.bad with e := fun l s => ((sem cl a).e l s).bind fun x s1 => (match x with | .int i => .ok (.int (-i)) s1 | _ => .bad) }
  | .not a => { Sm.bad with e := fun l s => (((sem cl a).e l s).bind asB).bind fun b s1 => .ok (.bl (!b)) s1 }
  | .and a b => { Sm.bad with e := fun l s => (((sem cl a).e l s).bind asB).bind fun k s1 => if k = true then (sem cl b).e l s1 else .ok (.bl false) s1 }
  | .or a b => { Sm.bad with e := fun l s => (((sem cl a).e l s).bind asB).bind fun k s1 => if k = true then .ok (.bl true) s1 else (sem cl b).e l s1 }
  | .one a => { Sm.bad with e := (sem cl a).e }
  | .cmp o a b => { Sm.bad with e := fun l s => ((sem cl a).e l s).bind fun x s1 => ((sem cl b).e l s1).bind fun y s2 => cmp o x y s2 }
  | .cmp2 o p a b c => { Sm.bad with e := fun l s => ((sem cl a).e l s).bind fun x s1 => ((sem cl b).e l s1).bind fun y s2 => ((cmp o x y s2).bind asB).bind fun k s3 =>
      if k = true then ((sem cl c).e l s3).bind fun z s4 => cmp p y z s4 else .ok (.bl false) s3 }
  | .ite c a b => { Sm.bad with e := fun l s => (((sem cl c).e l s).bind asB).bind fun k s1 => if k = true then (sem cl a).e l s1 else (sem cl b).e l s1 }
  | .tup es => { Sm.bad with e := fun l s => ((sem cl es).l l s).bind fun xs s1 => if xs.length ≤ line then .ok (.tup xs) s1 else .bad }
  | .lst es => { Sm.bad with e := fun l s => ((sem cl es).l l s).bind fun xs s1 => if xs.length ≤ line then newL xs s1 else .bad }
  | .dct ks vs => { Sm.bad with e := fun l s => ((sem cl vs).l l (s ++ [.dct []])).bind fun ys s2 =>
      if ys.length = ks.length ∧ ks.length ≤ 15 ∧ (s2[s.length]? = some (MO.dct [])) then .ok (.obj s.length) (setO s.length (.dct ((ks.zip ys).foldl (fun acc kv => putK acc kv.1 kv.2) [])) s2) else .bad }
  | .ix a i => { Sm.bad with e := fun l s => ((sem cl a).e l s).bind fun x s1 => ((sem cl i).e l s1).bind fun y s2 => opIx x y s2 }
  | .sl a lo hi => { Sm.bad with e := fun l s => ((sem cl a).e l s).bind fun x s1 => (oInt lo (sem cl lo).e l s1).bind fun p s2 => (oInt hi (sem cl hi).e l s2).bind fun q s3 => opSl x p q s3 }
  | .rev a => { Sm.bad with e := fun l s => ((sem cl a).e l s).bind fun x s1 => opRev x s1 }
  | .call f as => { Sm.bad with e := fun l s => ((sem cl as).l l s).bind fun xs s1 => cl f xs s1 }
  | .bi b as => { Sm.bad with e := fun l s => ((sem cl as).l l s).bind fun xs s1 => biF b xs s1 }
  | .isi a t => { Sm.bad with e := fun l s => ((sem cl a).e l s).bind fun x s1 => (match isTy t x s1 with | some b => .ok (.bl b) s1 | none => .bad) }
  | .mt m o as => { Sm.bad with e := fun l s => ((sem cl o).e l s).bind fun x s1 => if mtOk m x s1 = true then ((sem cl as).l l s1).bind fun xs s2 => mth m x xs s2 else .bad }
  | .comp e tg it c own => { Sm.bad with e := fun l s => ((sem cl it).w l s).bind fun src s1 =>
      (comL src (wipe l own) (sem cl tg).t (if isNil c = true then (fun _ s => R.ok true s) else (fun l s => ((sem cl c).e l s).bind asB)) (sem cl e).e s1.length src.its [] (s1 ++ [.lst []])).noex.bind fun _ s2 => .ok (.obj s1.length) s2 }
  | .callK f as kv d => { Sm.bad with e := fun l s => ((sem cl as).l l s).bind fun xs s1 => ((sem cl kv).l l s1).bind fun ys s2 => (match ys with
      | [] => cl f (xs ++ [d]) s2
      | [y] => cl f (xs ++ [y]) s2
      | _ => .bad) }
  | .gix _ kvs a => { Sm.bad with e := fun l s => ((sem cl a).e l s).bind fun x s1 => (match x with
      | .int z => (match kvs.find? (fun kv => decide (kv.1 = z)) with
        | some kv => .ok (.int kv.2) s1
        | none => .bad)
      | _ => .bad) }
  | .sset a => { Sm.bad with e := fun l s => ((sem cl a).e l s).bind fun x s1 => (match x with
      | .tup xs => (match ints? xs with
        | some ns => if ns.length ≤ 60 then newL ((Z.sset ns).map .int) s1 else .bad
        | none => .bad)
      | _ => .bad) }
  | .comp2 e tg it tg2 it2 own own2 => { Sm.bad with e := fun l s => ((sem cl it).w l s).bind fun src s1 =>
      (com2 src (wipe l own) (sem cl tg).t (sem cl it2).w own2 (sem cl tg2).t (sem cl e).e s1.length src.its [] (s1 ++ [.lst []])).noex.bind fun _ s2 => .ok (.obj s1.length) s2 }
  | .compD ek ev tg it c own => { Sm.bad with e := fun l s => ((sem cl it).w l s).bind fun src s1 =>
      (comD src (wipe l own) (sem cl tg).t (if isNil c = true then (fun _ s => R.ok true s) else (fun l s => ((sem cl c).e l s).bind asB)) (sem cl ek).e (sem cl ev).e s1.length src.its [] (s1 ++ [.dct []])).noex.bind fun _ s2 => .ok (.obj s1.length) s2 }
  | .itR3 a b c => { Sm.bad with w := fun l s => ((sem cl a).e l s).bind fun x s1 => ((sem cl b).e l s1).bind fun y s2 => ((sem cl c).e l s2).bind fun z s3 => (match x, y, z with
      | .int i, .int j, .int k => if rgOk i j = true ∧ 0 < k ∧ k ≤ 1000000 then .ok ⟨rng3 i j k, none⟩ s3 else .bad
      | _, _, _ => .bad) }
  | .lr1 b => { Sm.bad with e := fun l s => ((sem cl b).e l s).bind fun y s1 => (match y with
      | .int j => if rgOk 0 j = true ∧ j ≤ 16777216 then newL (rng 0 j) s1 else .bad
      | _ => .bad) }
  | .lr2 a b => { Sm.bad with e := fun l s => ((sem cl a).e l s).bind fun x s1 => ((sem cl b).e l s1).bind fun y s2 => (match x, y with
      | .int i, .int j => if rgOk i j = true ∧ j - i ≤ 16777216 then newL (rng i j) s2 else .bad
      | _, _ => .bad) }
  | .itS e => { Sm.bad with w := fun l s => ((sem cl e).e l s).bind fun x s1 => (match x with
      | .tup xs => .ok ⟨xs, none⟩ s1
      | .kl xs => .ok ⟨xs, none⟩ s1
      | .str z => .ok ⟨z.map fun c => .str [c], none⟩ s1
      | .obj i => (match s1[i]? with
        | some (.lst xs) => .ok ⟨xs, some (i, .lst xs)⟩ s1
        | _ => .bad)
      | _ => .bad) }
  | .itR1 b => { Sm.bad with w := fun l s => ((sem cl b).e l s).bind fun y s1 => (match y with
      | .int j => if rgOk 0 j then .ok ⟨rng 0 j, none⟩ s1 else .bad
      | _ => .bad) }
  | .itR2 a b => { Sm.bad with w := fun l s => ((sem cl a).e l s).bind fun x s1 => ((sem cl b).e l s1).bind fun y s2 => (match x, y with
      | .int i, .int j => if rgOk i j then .ok ⟨rng i j, none⟩ s2 else .bad
      | _, _ => .bad) }
  | .tv i => { Sm.bad with t := fun d l s => .ok (l.set i (some d)) s }
  | .tt ts => { Sm.bad with t := fun d l s => (match d with | .tup ds => (sem cl ts).ts ds l s | _ => .bad) }
  | .tix o i => { Sm.bad with t := fun d l s => ((sem cl o).e l s).bind fun x s1 => ((sem cl i).e l s1).bind fun y s2 => (stIx x y d s2).bind fun _ s3 => .ok l s3 }
  | .tsl o lo hi => { Sm.bad with t := fun d l s => ((sem cl o).e l s).bind fun x s1 => ((sem cl lo).e l s1).bind fun p s2 => ((sem cl hi).e l s2).bind fun q s3 => (stSl x p q d s3).bind fun _ s4 => .ok l s4 }
  | .expr e => { Sm.bad with s := fun l s => ((sem cl e).e l s).bind fun _ s1 => .ok (.nx, l) s1 }
  | .asg t e => { Sm.bad with s := fun l s => ((sem cl e).e l s).bind fun d s1 => ((sem cl t).t d l s1).bind fun l1 s2 => .ok (.nx, l1) s2 }
  | .sif c a b => { Sm.bad with s := fun l s => (((sem cl c).e l s).bind asB).bind fun k s1 => if k = true then (sem cl a).s l s1 else (sem cl b).s l s1 }
  | .sfor t it b => { Sm.bad with s := fun l s => ((sem cl it).w l s).bind fun src s1 => forL src (sem cl t).t (sem cl b).s src.its l s1 }
  | .swh c b => { Sm.bad with s := fun l s => whL (fun l s => ((sem cl c).e l s).bind asB) (sem cl b).s whFuel l s }
  | .ret e => { Sm.bad with s := fun l s => ((sem cl e).e l s).bind fun d s1 => .ok (.ret d, l) s1 }
  | .retN => { Sm.bad with s := fun l s => .ok (.ret .non, l) s }
  | .pass => { Sm.bad with s := fun l s => .ok (.nx, l) s }
  | .brk => { Sm.bad with s := fun l s => .ok (.brk, l) s }
  | .cnt => { Sm.bad with s := fun l s => .ok (.cnt, l) s }

/-- a def: how many parameters, how many names, its body -/
structure Fn where
  np : Nat
  nn : Nat
  body : Ex
def runFn (cl : Cl) (f : Fn) (as : List D) (s : Sto) : R D :=
  if as.length = f.np then ((sem cl f.body).s (as.map some ++ List.replicate (f.nn - f.np) none) s).bind fun r s1 => (match r.1 with
    | .ret d => .ok d s1
    | .nx => .ok .non s1
    | _ => .bad) else .bad
def callN (fs : List Fn) : Nat → Cl
  | 0 => fun _ _ _ => .bad
  | n + 1 => fun f as s => match fs[f]? with
    | some g => runFn (callN fs n) g as s
    | none => .bad
end Z

/-! ZRel: the data of ZCore over the hand layer's heap. -/
namespace Z
open PySem L2

/-- a list that nobody changes -/
def FL (K : PySem.W.Frag) (H : Hp) (a : Addr) (xs : List V) : Prop := (∃ o, H a = some (.frz o (.lst xs))) ∨
    ∃ (o : Obj) (its : Array Value) (n : Nat), K.lookup a = some o ∧ o.cls = .type "list" ∧ o.dict = none ∧ o.data = .seq its n ∧ its.size ≤ sizeLine ∧ Vals xs its.toList
theorem FL.sq {K : PySem.W.Frag} {H : Hp} {a : Addr} {xs : List V} (h : FL K H a xs) : SqL K H a xs := by
  rcases h with h | h
  · exact .inl (.inr h)
  · exact .inr h
mutual
inductive RD (K : PySem.W.Frag) (ρ : List Addr) (H : Hp) : D → V → Prop
  | non : RD K ρ H .non .non
  | bl (b : Bool) : RD K ρ H (.bl b) (.bl b)
  | int (i : Int) : RD K ρ H (.int i) (.int i)
  | str (x : Str) : RD K ρ H (.str x.cps.toList) (.str x)
  | tup {a : Addr} {ds : List D} {vs : List V} : SqT K H a vs → RDs K ρ H ds vs → RD K ρ H (.tup ds) (.ref a)
  | kl {a : Addr} {ds : List D} {vs : List V} : FL K H a vs → RDs K ρ H ds vs → RD K ρ H (.kl ds) (.ref a)
  | obj {i : Nat} {a : Addr} : ρ[i]? = some a → RD K ρ H (.obj i) (.ref a)
inductive RDs (K : PySem.W.Frag) (ρ : List Addr) (H : Hp) : List D → List V → Prop
  | nil : RDs K ρ H [] []
  | cons {d : D} {v : V} {ds : List D} {vs : List V} : RD K ρ H d v → RDs K ρ H ds vs → RDs K ρ H (d :: ds) (v :: vs)
end
variable {K : PySem.W.Frag} {ρ ρ' ρ1 ρ2 ρ3 : List Addr} {H H' H1 H2 H3 : Hp} {d : D} {ds : List D} {v : V} {vs : List V} {a p : Addr} {i : Nat}

theorem RD.str' {s : List Nat} {x : Str} (h : x.cps.toList = s) : RD K ρ H (.str s) (.str x) := h ▸ .str x
theorem RD.strA (s : List Nat) : RD K ρ H (.str s) (.str ⟨s.toArray⟩) := .str' (by simp)
theorem RD.non_inv (h : RD K ρ H .non v) : v = .non := by cases h; rfl
theorem RD.bl_inv {b : Bool} (h : RD K ρ H (.bl b) v) : v = .bl b := by cases h; rfl
theorem RD.int_inv {b : Int} (h : RD K ρ H (.int b) v) : v = .int b := by cases h; rfl
theorem RD.str_inv {s : List Nat} (h : RD K ρ H (.str s) v) : v = .str ⟨s.toArray⟩ := by cases h; simp
theorem RD.tup_inv (h : RD K ρ H (.tup ds) v) : ∃ a vs, v = .ref a ∧ SqT K H a vs ∧ RDs K ρ H ds vs := by cases h; exact ⟨_, _, rfl, by assumption, by assumption⟩
theorem RD.kl_inv (h : RD K ρ H (.kl ds) v) : ∃ a vs, v = .ref a ∧ FL K H a vs ∧ RDs K ρ H ds vs := by cases h; exact ⟨_, _, rfl, by assumption, by assumption⟩
theorem RD.obj_inv (h : RD K ρ H (.obj i) v) : ∃ a, v = .ref a ∧ ρ[i]? = some a := by cases h; exact ⟨_, rfl, by assumption⟩
theorem RDs.length (h : RDs K ρ H ds vs) : ds.length = vs.length := by
  induction ds generalizing vs with
  | nil => cases h; rfl
  | cons d ds ih =>
    cases h with
    | cons h1 h2 => simp [ih h2]
theorem RDs.append {es : List D} {ws : List V} (h : RDs K ρ H ds vs) (h' : RDs K ρ H es ws) : RDs K ρ H (ds ++ es) (vs ++ ws) := by
  induction ds generalizing vs with
  | nil => cases h; exact h'
  | cons d ds ih =>
    cases h with
    | cons h1 h2 => exact .cons h1 (ih h2)
theorem RDs.drop (n : Nat) (h : RDs K ρ H ds vs) : RDs K ρ H (ds.drop n) (vs.drop n) := by
  induction n generalizing ds vs with
  | zero => exact h
  | succ n ih =>
    cases h with
    | nil => exact .nil
    | cons h1 h2 => exact ih h2
theorem RDs.take (n : Nat) (h : RDs K ρ H ds vs) : RDs K ρ H (ds.take n) (vs.take n) := by
  induction n generalizing ds vs with
  | zero => exact .nil
  | succ n ih =>
    cases h with
    | nil => exact .nil
    | cons h1 h2 => exact .cons h1 (ih h2)
theorem RDs.reverse (h : RDs K ρ H ds vs) : RDs K ρ H ds.reverse vs.reverse := by
  induction ds generalizing vs with
  | nil => cases h; exact .nil
  | cons d ds ih =>
    cases h with
    | cons h1 h2 =>
      rw [List.reverse_cons, List.reverse_cons]
      exact (ih h2).append (.cons h1 .nil)
theorem RDs.get (h : RDs K ρ H ds vs) {n : Nat} (e : ds[n]? = some d) : ∃ v, vs[n]? = some v ∧ RD K ρ H d v := by
  induction n generalizing ds vs with
  | zero =>
    cases h with
    | nil => cases e
    | cons h1 h2 => cases e; exact ⟨_, rfl, h1⟩
  | succ n ih =>
    cases h with
    | nil => cases e
    | cons h1 h2 => exact ih h2 (by simpa using e)
theorem RDs.set (h : RDs K ρ H ds vs) (hd : RD K ρ H d v) (n : Nat) : RDs K ρ H (ds.set n d) (vs.set n v) := by
  induction n generalizing ds vs with
  | zero =>
    cases h with
    | nil => exact .nil
    | cons h1 h2 => exact .cons hd h2
  | succ n ih =>
    cases h with
    | nil => exact .nil
    | cons h1 h2 => exact .cons h1 (ih h2)
theorem RDs.replicate (n : Nat) (h : RDs K ρ H ds vs) : RDs K ρ H (List.replicate n ds).flatten (List.replicate n vs).flatten := by
  induction n with
  | zero => exact .nil
  | succ n ih => rw [List.replicate_succ, List.replicate_succ, List.flatten_cons, List.flatten_cons]; exact h.append ih

/-! ### worlds -/
/-- a later world: places stay, tuples stay -/
structure Wle (K : PySem.W.Frag) (ρ : List Addr) (H : Hp) (ρ' : List Addr) (H' : Hp) : Prop where
  pre : ∀ (i : Nat) a, ρ[i]? = some a → ρ'[i]? = some a
  tup : ∀ a xs, SqT K H a xs → SqT K H' a xs
  fl : ∀ a xs, FL K H a xs → FL K H' a xs
theorem Wle.refl : Wle K ρ H ρ H := ⟨fun _ _ h => h, fun _ _ h => h, fun _ _ h => h⟩
theorem Wle.trans (a : Wle K ρ H ρ1 H1) (b : Wle K ρ1 H1 ρ2 H2) : Wle K ρ H ρ2 H2 := ⟨fun i x h => b.pre i x (a.pre i x h), fun x y h => b.tup x y (a.tup x y h), fun x y h => b.fl x y (a.fl x y h)⟩
mutual
theorem RD.mono (w : Wle K ρ H ρ' H') : ∀ (d : D) (v : V), RD K ρ H d v → RD K ρ' H' d v
  | .non, _, h => by cases h; exact .non
  | .bl _, _, h => by cases h; exact .bl _
  | .int _, _, h => by cases h; exact .int _
  | .str _, _, h => by cases h; exact .str _
  | .obj _, _, h => by cases h with | obj e => exact .obj (w.pre _ _ e)
  | .tup ds, _, h => by cases h with | tup e f => exact .tup (w.tup _ _ e) (RDs.mono w ds _ f)
  | .kl ds, _, h => by cases h with | kl e f => exact .kl (w.fl _ _ e) (RDs.mono w ds _ f)
theorem RDs.mono (w : Wle K ρ H ρ' H') : ∀ (ds : List D) (vs : List V), RDs K ρ H ds vs → RDs K ρ' H' ds vs
  | [], _, h => by cases h; exact .nil
  | d :: ds, _, h => by cases h with | cons e f => exact .cons (RD.mono w d _ e) (RDs.mono w ds _ f)
end
theorem RD.up (h : RD K ρ H d v) (w : Wle K ρ H ρ' H') : RD K ρ' H' d v := RD.mono w d v h
theorem RDs.up (h : RDs K ρ H ds vs) (w : Wle K ρ H ρ' H') : RDs K ρ' H' ds vs := RDs.mono w ds vs h

theorem sqT_upd {o : HO} {xs : List V} (h : SqT K H a xs) (hp : ∀ u, H p = some u → (∀ ys, u ≠ .tup ys) ∧ ∀ ob ys, u ≠ .frz ob (.tup ys)) : SqT K (upd H p o) a xs := by
  rcases h with (h | ⟨ob, h⟩) | h
  · have : a ≠ p := by rintro rfl; exact (hp _ h).1 _ rfl
    exact .inl (.inl (by rw [upd_ne this]; exact h))
  · have : a ≠ p := by rintro rfl; exact (hp _ h).2 _ _ rfl
    exact .inl (.inr ⟨ob, by rw [upd_ne this]; exact h⟩)
  · exact .inr h
theorem fl_upd {o : HO} {xs : List V} (h : FL K H a xs) (hp : ∀ ob u, H p ≠ some (.frz ob u)) : FL K (upd H p o) a xs := by
  rcases h with ⟨ob, h⟩ | h
  · have : a ≠ p := by rintro rfl; exact hp _ _ h
    exact .inl ⟨ob, by rw [upd_ne this]; exact h⟩
  · exact .inr h
theorem sqL_upd {o : HO} {xs : List V} (h : SqL K H a xs) (hp : a ≠ p) : SqL K (upd H p o) a xs := by
  rcases h with (h | ⟨ob, h⟩) | h
  · exact .inl (.inl (by rw [upd_ne hp]; exact h))
  · exact .inl (.inr ⟨ob, by rw [upd_ne hp]; exact h⟩)
  · exact .inr h
theorem sqL_new {o : HO} {xs : List V} (h : SqL K H a xs) (hp : H p = none) : SqL K (upd H p o) a xs := by
  rcases h with (h | ⟨ob, h⟩) | h
  · exact .inl (.inl (by rw [upd_ne (ne_of_none h hp)]; exact h))
  · exact .inl (.inr ⟨ob, by rw [upd_ne (ne_of_none h hp)]; exact h⟩)
  · exact .inr h
theorem Wle.new (hp : H p = none) (o : HO) : Wle K ρ H (ρ ++ [p]) (upd H p o) := by
  refine ⟨fun i a h => ?_, fun a xs h => sqT_upd h fun u e => ?_, fun a xs h => fl_upd h fun ob u e => ?_⟩
  · rw [List.getElem?_append_left (List.getElem?_eq_some_iff.mp h).1]; exact h
  · rw [hp] at e; cases e
  · rw [hp] at e; cases e
theorem Wle.newT (hp : H p = none) (o : HO) : Wle K ρ H ρ (upd H p o) := ⟨fun _ _ h => h, fun a xs h => sqT_upd h fun u e => (by rw [hp] at e; cases e), fun a xs h => fl_upd h fun ob u e => by rw [hp] at e; cases e⟩
theorem Wle.chg {u : HO} (hp : H p = some u) (h1 : ∀ ys, u ≠ .tup ys) (h2 : ∀ ob ys, u ≠ .frz ob ys) (o : HO) : Wle K ρ H ρ (upd H p o) :=
  ⟨fun _ _ h => h, fun a xs h => sqT_upd h fun w e => (by rw [hp] at e; cases e; exact ⟨h1, fun ob ys => h2 ob _⟩), fun a xs h => fl_upd h fun ob w e => by rw [hp] at e; cases e; exact h2 _ _ rfl⟩

/-! ### the store -/
def keyOf : Ky → Key
  | .inl i => .inl i
  | .inr s => .inr ⟨s.toArray⟩
theorem keyOf_inj {k q : Ky} (h : keyOf k = keyOf q) : k = q := by
  cases k <;> cases q
  · exact congrArg Sum.inl (Sum.inl.inj h)
  · exact absurd h (by unfold keyOf; simp)
  · exact absurd h (by unfold keyOf; simp)
  · rename_i a b
    have : (⟨a.toArray⟩ : Str) = ⟨b.toArray⟩ := Sum.inr.inj h
    injection this with e
    exact congrArg Sum.inr (by simpa using congrArg Array.toList e)
inductive RKs (K : PySem.W.Frag) (ρ : List Addr) (H : Hp) : List (Ky × D) → List (Key × V) → Prop
  | nil : RKs K ρ H [] []
  | cons {k : Ky} {d : D} {v : V} {ds : List (Ky × D)} {vs : List (Key × V)} : RD K ρ H d v → RKs K ρ H ds vs → RKs K ρ H ((k, d) :: ds) ((keyOf k, v) :: vs)
theorem RKs.up {ks : List (Ky × D)} {ws : List (Key × V)} (h : RKs K ρ H ks ws) (w : Wle K ρ H ρ' H') : RKs K ρ' H' ks ws := by
  induction h with
  | nil => exact .nil
  | cons h1 _ ih => exact .cons (h1.up w) ih
theorem RKs.length {ks : List (Ky × D)} {ws : List (Key × V)} (h : RKs K ρ H ks ws) : ks.length = ws.length := by
  induction h with
  | nil => rfl
  | cons h1 _ ih => simp [ih]
/-- a store's thing at an address -/
def OR (K : PySem.W.Frag) (ρ : List Addr) (H : Hp) : MO → Addr → Prop
  | .lst xs, a => ∃ vs, H a = some (.lst vs) ∧ RDs K ρ H xs vs
  | .dct kvs, a => ∃ ws, H a = some (.dK ws) ∧ RKs K ρ H kvs ws
theorem OR.isAt {o : MO} (h : OR K ρ H o a) : ∃ u, H a = some u ∧ (∀ ys, u ≠ .tup ys) ∧ ∀ ob ys, u ≠ .frz ob ys := by
  cases o with
  | lst xs => obtain ⟨vs, e, _⟩ := h; exact ⟨_, e, (fun _ q => by cases q), (fun _ _ q => by cases q)⟩
  | dct xs => obtain ⟨vs, e, _⟩ := h; exact ⟨_, e, (fun _ q => by cases q), (fun _ _ q => by cases q)⟩
structure SR (K : PySem.W.Frag) (ρ : List Addr) (st : Sto) (H : Hp) : Prop where
  len : ρ.length = st.length
  nd : ∀ (i j : Nat) (a : Addr), ρ[i]? = some a → ρ[j]? = some a → i = j
  ats : ∀ (i : Nat) (o : MO) (a : Addr), st[i]? = some o → ρ[i]? = some a → OR K ρ H o a
theorem SR.get {st : Sto} {o : MO} (S : SR K ρ st H) (h : st[i]? = some o) : ∃ a, ρ[i]? = some a ∧ OR K ρ H o a := by
  have l : i < ρ.length := by rw [S.len]; exact (List.getElem?_eq_some_iff.mp h).1
  exact ⟨ρ[i], by simp [l], S.ats i o _ h (by simp [l])⟩
theorem SR.st_of {st : Sto} (S : SR K ρ st H) (h : ρ[i]? = some a) : ∃ o, st[i]? = some o ∧ OR K ρ H o a := by
  have l : i < st.length := by rw [← S.len]; exact (List.getElem?_eq_some_iff.mp h).1
  exact ⟨st[i], by simp [l], S.ats i _ _ (by simp [l]) h⟩
theorem SR.ne {st : Sto} (S : SR K ρ st H) (h : ρ[i]? = some a) (hp : H p = none) : a ≠ p := by
  obtain ⟨o, _, q⟩ := S.st_of h
  obtain ⟨u, e, _⟩ := q.isAt
  exact ne_of_none e hp
theorem OR.up {o : MO} (h : OR K ρ H o a) (e : H' a = H a) (w : Wle K ρ H ρ' H') : OR K ρ' H' o a := by
  cases o with
  | lst xs => obtain ⟨vs, q, r⟩ := h; exact ⟨vs, e.trans q, r.up w⟩
  | dct xs => obtain ⟨vs, q, r⟩ := h; exact ⟨vs, e.trans q, r.up w⟩
/-- a tuple is laid -/
theorem SR.newT {st : Sto} (S : SR K ρ st H) (hp : H p = none) (u : HO) : SR K ρ st (upd H p u) :=
  ⟨S.len, S.nd, fun i o a h e => (S.ats i o a h e).up (upd_ne (S.ne e hp)) (Wle.newT hp u)⟩
/-- a thing of the store is laid -/
theorem SR.newO {st : Sto} {o : MO} {u : HO} (S : SR K ρ st H) (hp : H p = none) (h : OR K (ρ ++ [p]) (upd H p u) o p) : SR K (ρ ++ [p]) (st ++ [o]) (upd H p u) := by
  have hl := S.len
  have key : ∀ (i : Nat) a, (ρ ++ [p])[i]? = some a → (ρ[i]? = some a) ∨ (i = ρ.length ∧ a = p) := fun i a e => by
    by_cases hi : i < ρ.length
    · rw [List.getElem?_append_left hi] at e; exact .inl e
    · rw [List.getElem?_append_right (by omega)] at e
      have : i - ρ.length = 0 := by
        have := (List.getElem?_eq_some_iff.mp e).1
        simp at this; omega
      rw [this] at e
      simp at e
      exact .inr ⟨by omega, e.symm⟩
  refine ⟨by simp [hl], fun i j a h1 h2 => ?_, fun i q a h1 h2 => ?_⟩
  · rcases key i a h1 with q1 | ⟨q1, e1⟩ <;> rcases key j a h2 with q2 | ⟨q2, e2⟩
    · exact S.nd i j a q1 q2
    · exact absurd e2 (S.ne q1 hp)
    · exact absurd e1 (S.ne q2 hp)
    · omega
  · rcases key i a h2 with h2 | ⟨q2, rfl⟩
    · have : i < st.length := by rw [← hl]; exact (List.getElem?_eq_some_iff.mp h2).1
      rw [List.getElem?_append_left this] at h1
      exact (S.ats i q a h1 h2).up (upd_ne (S.ne h2 hp)) (Wle.new hp u)
    · subst q2
      rw [List.getElem?_append_right (by omega), hl] at h1
      simp at h1
      subst h1
      exact h
/-- a thing of the store is changed -/
theorem SR.chg {st : Sto} {u' : HO} {o o' : MO} (S : SR K ρ st H) (hi : ρ[i]? = some a) (ho : st[i]? = some o) (h : OR K ρ (upd H a u') o' a) : SR K ρ (setO i o' st) (upd H a u') ∧ Wle K ρ H ρ (upd H a u') := by
  obtain ⟨u, hu, h1, h2⟩ := (S.ats i o a ho hi).isAt
  have w : Wle K ρ H ρ (upd H a u') := Wle.chg hu h1 h2 u'
  have hl : i < st.length := (List.getElem?_eq_some_iff.mp ho).1
  refine ⟨⟨by rw [S.len]; unfold setO; simp, S.nd, fun j q b hj hb => ?_⟩, w⟩
  unfold setO at hj
  by_cases e : i = j
  · subst e
    rw [List.getElem?_set_self hl] at hj
    cases hj
    rw [hi] at hb
    cases hb
    exact h
  · rw [List.getElem?_set_ne e] at hj
    have nb : b ≠ a := by rintro rfl; exact e (S.nd _ _ _ hi hb)
    exact (S.ats j q b hj hb).up (upd_ne nb) w
end Z

/-! ZSem: what a term of ZCore says, as a reading of the hand layer. -/
namespace Z
open PySem L2

/-- what is wished of an exception, from a world on -/
structure XW (K : PySem.W.Frag) where
  p : List Addr → Hp → D → Sto → Prop
  mono : ∀ {ρ H ρ' H' d st}, Wle K ρ H ρ' H' → p ρ H d st → p ρ' H' d st
/-- the names' values -/
structure LR (K : PySem.W.Frag) (ρ : List Addr) (H : Hp) (l : Lo) (σ : L2.St) : Prop where
  len : l.length = σ.length
  at_ : ∀ (i : Nat) (d : D), l[i]? = some (some d) → ∃ v, σ[i]? = some (some v) ∧ RD K ρ H d v
section
variable {K : PySem.W.Frag} {E : XW K} {ρ ρ' ρ1 ρ2 ρ3 : List Addr} {H H' H1 H2 H3 : Hp} {d : D} {ds : List D} {v u : V} {vs : List V} {a p : Addr} {i : Nat} {l : Lo} {σ : L2.St} {st st1 st2 : Sto} {Q : VK}
theorem LR.up (h : LR K ρ H l σ) (w : Wle K ρ H ρ' H') : LR K ρ' H' l σ := ⟨h.len, fun i d e => let ⟨v, q, r⟩ := h.at_ i d e; ⟨v, q, r.up w⟩⟩
theorem LR.set (h : LR K ρ H l σ) (r : RD K ρ H d v) (i : Nat) : LR K ρ H (l.set i (some d)) (σ.set i (some v)) := by
  refine ⟨by simp [h.len], fun j e q => ?_⟩
  by_cases hij : i = j
  · subst hij
    by_cases hl : i < l.length
    · rw [List.getElem?_set_self hl] at q
      cases q
      exact ⟨v, by rw [List.getElem?_set_self (by rw [← h.len]; exact hl)], r⟩
    · rw [List.getElem?_eq_none (by simp; omega)] at q; cases q
  · rw [List.getElem?_set_ne hij] at q ⊢
    exact h.at_ j e q
theorem LR.wipe (h : LR K ρ H l σ) : ∀ vs : List Nat, LR K ρ H (Z.wipe l vs) (L2.wipe σ vs)
  | [] => h
  | x :: vs => by
    have ih := LR.wipe h vs
    refine ⟨by simp [Z.wipe, L2.wipe, ih.len], fun j e q => ?_⟩
    unfold Z.wipe at q
    unfold L2.wipe
    by_cases hij : x = j
    · subst hij
      by_cases hl : x < (Z.wipe l vs).length
      · rw [List.getElem?_set_self hl] at q; cases q
      · rw [List.getElem?_eq_none (by simp; omega)] at q; cases q
    · rw [List.getElem?_set_ne hij] at q ⊢
      exact ih.at_ j e q

/-- what follows -/
def Kont (K : PySem.W.Frag) (ρ : List Addr) (H : Hp) (Q : VK) : D → Sto → Prop := fun d st' => ∀ ρ' H' v, Wle K ρ H ρ' H' → SR K ρ' st' H' → RD K ρ' H' d v → Q v H'
theorem Kont.up (h : Kont K ρ H Q d st) (w : Wle K ρ H ρ' H') : Kont K ρ' H' Q d st := fun ρ2 H2 v w2 => h ρ2 H2 v (w.trans w2)
def eR (E : XW K) (f : Lo → Sto → R D) : TE := fun σ H Q => ∃ ρ l st, LR K ρ H l σ ∧ SR K ρ st H ∧ (f l st).post (Kont K ρ H Q) (E.p ρ H)
def lR (E : XW K) (f : Lo → Sto → R (List D)) : TA := fun σ H Q => ∃ ρ l st, LR K ρ H l σ ∧ SR K ρ st H ∧
  (f l st).post (fun ds st' => ∀ ρ' H' vs, Wle K ρ H ρ' H' → SR K ρ' st' H' → RDs K ρ' H' ds vs → Q vs H') (E.p ρ H)
def bR (E : XW K) (f : Lo → Sto → R Bool) : TT := fun σ H Q => ∃ ρ l st, LR K ρ H l σ ∧ SR K ρ st H ∧
  (f l st).post (fun b st' => ∀ ρ' H', Wle K ρ H ρ' H' → SR K ρ' st' H' → Q b H') (E.p ρ H)
/-- one after the other -/
theorem eR_of {β : Type} {fa : Lo → Sto → R D} {k : D → Sto → R β} {QQ : β → Sto → Prop} (L : LR K ρ H l σ) (S : SR K ρ st H) (h : ((fa l st).bind k).post QQ (E.p ρ H))
    (hQ : ∀ d st1 ρ1 H1 v, Wle K ρ H ρ1 H1 → LR K ρ1 H1 l σ → SR K ρ1 st1 H1 → RD K ρ1 H1 d v → (k d st1).post QQ (E.p ρ1 H1) → Q v H1) : eR E fa σ H Q :=
  ⟨ρ, l, st, L, S, R.post_mono (R.post_bind.mp h) (fun d st1 h1 ρ1 H1 v w1 S1 r1 => hQ d st1 ρ1 H1 v w1 (L.up w1) S1 r1 (R.post_mono h1 (fun _ _ x => x) fun _ _ => E.mono w1)) fun _ _ x => x⟩
theorem lR_of {β : Type} {fa : Lo → Sto → R (List D)} {k : List D → Sto → R β} {QQ : β → Sto → Prop} {Q : List V → Hp → Prop} (L : LR K ρ H l σ) (S : SR K ρ st H) (h : ((fa l st).bind k).post QQ (E.p ρ H))
    (hQ : ∀ d st1 ρ1 H1 v, Wle K ρ H ρ1 H1 → LR K ρ1 H1 l σ → SR K ρ1 st1 H1 → RDs K ρ1 H1 d v → (k d st1).post QQ (E.p ρ1 H1) → Q v H1) : lR E fa σ H Q :=
  ⟨ρ, l, st, L, S, R.post_mono (R.post_bind.mp h) (fun d st1 h1 ρ1 H1 v w1 S1 r1 => hQ d st1 ρ1 H1 v w1 (L.up w1) S1 r1 (R.post_mono h1 (fun _ _ x => x) fun _ _ => E.mono w1)) fun _ _ x => x⟩
theorem bR_of {β : Type} {fa : Lo → Sto → R Bool} {k : Bool → Sto → R β} {QQ : β → Sto → Prop} {Q : Bool → Hp → Prop} (L : LR K ρ H l σ) (S : SR K ρ st H) (h : ((fa l st).bind k).post QQ (E.p ρ H))
    (hQ : ∀ d st1 ρ1 H1, Wle K ρ H ρ1 H1 → LR K ρ1 H1 l σ → SR K ρ1 st1 H1 → (k d st1).post QQ (E.p ρ1 H1) → Q d H1) : bR E fa σ H Q :=
  ⟨ρ, l, st, L, S, R.post_mono (R.post_bind.mp h) (fun d st1 h1 ρ1 H1 w1 S1 => hQ d st1 ρ1 H1 w1 (L.up w1) S1 (R.post_mono h1 (fun _ _ x => x) fun _ _ => E.mono w1)) fun _ _ x => x⟩
/-- the last step -/
theorem eR_last {fa : Lo → Sto → R D} {Q' : VK} (L : LR K ρ H l σ) (S : SR K ρ st H) (h : (fa l st).post (Kont K ρ' H' Q) (E.p ρ H)) (w : Wle K ρ' H' ρ H) (hQ : ∀ v H1, Q v H1 → Q' v H1) : eR E fa σ H Q' :=
  ⟨ρ, l, st, L, S, R.post_mono h (fun d st1 h1 ρ1 H1 v w1 S1 r1 => hQ _ _ (h1 ρ1 H1 v (w.trans w1) S1 r1)) fun _ _ x => x⟩

/-! ### weakening -/
theorem PE.weak {X : Cx} {e : Expr} {t t' : TE} (h : PE X e t) (w : ∀ σ H Q, t' σ H Q → t σ H Q) : PE X e t' := ⟨fun pins s σ H Q I q => h.run pins s σ H Q I (w _ _ _ q)⟩
theorem PT.weak {X : Cx} {e : Expr} {t t' : TT} (h : PT X e t) (w : ∀ σ H Q, t' σ H Q → t σ H Q) : PT X e t' := ⟨fun pins s σ H Q I q => h.run pins s σ H Q I (w _ _ _ q)⟩
theorem PA.weak {X : Cx} {e : List Expr} {t t' : TA} (h : PA X e t) (w : ∀ σ H Q, t' σ H Q → t σ H Q) : PA X e t' := ⟨fun pos pins s σ H Q I q => h.run pos pins s σ H Q I (w _ _ _ q)⟩
theorem PW.weak {X : Cx} {e : Expr} {t t' : TT} (h : PW X e t) (w : ∀ σ H Q, t' σ H Q → t σ H Q) : PW X e t' := ⟨fun wh pins s σ H Q I q => h.run wh pins s σ H Q I (w _ _ _ q)⟩
theorem PS.weak {X : Cx} {e : Stmt} {t t' : TS} (h : PS X e t) (w : ∀ D σ H, t' D σ H → t D σ H) : PS X e t' := ⟨fun pins s σ H Q I q => h.run pins s σ H Q I (w _ _ _ q)⟩
theorem PSs.weak {X : Cx} {e : List Stmt} {t t' : TS} (h : PSs X e t) (w : ∀ D σ H, t' D σ H → t D σ H) : PSs X e t' := ⟨fun pins s σ H Q I q => h.run pins s σ H Q I (w _ _ _ q)⟩

/-! ### two values -/
/-- a step on two values -/
def Two (K : PySem.W.Frag) (k : D → D → Sto → R D) (r : R2) : Prop := ∀ (ρ : List Addr) (H : Hp) (st : Sto) (x y : D) (v u : V) (Q : VK) (F : D → Sto → Prop), (∀ d s, ¬ k x y st = .ex d s) → SR K ρ st H → RD K ρ H x v → RD K ρ H y u → (k x y st).post (Kont K ρ H Q) F → r v u H Q
/-- a step that raises nothing -/
def Calm2 (k : D → D → Sto → R D) : Prop := ∀ x y s d s', ¬ k x y s = .ex d s'
theorem two_op {k : D → D → Sto → R D} {r : R2} {fa fb : Lo → Sto → R D} (hk : Two K k r) (hc : Calm2 k) (h : eR E (fun l s => (fa l s).bind fun x s1 => (fb l s1).bind fun y s2 => k x y s2) σ H Q) : tOp r (eR E fa) (eR E fb) σ H Q := by
  obtain ⟨ρ, l, st, L, S, h⟩ := h
  exact eR_of L S h fun x st1 ρ1 H1 v w1 L1 S1 r1 h1 => eR_of L1 S1 h1 fun y st2 ρ2 H2 u w2 L2 S2 r2 h2 =>
    hk ρ2 H2 st2 x y v u Q _ (hc _ _ _) S2 (r1.up w2) r2 (R.post_mono h2 (fun d s q => q.up (w1.trans w2)) fun _ _ x => x)

/-! ### new things -/
theorem newL_post {F : D → Sto → Prop} {xs : List D} (S : SR K ρ st H) (r : RDs K ρ H xs vs) (h : (newL xs st).post (Kont K ρ H Q) F) (hp : H p = none) : Q (.ref p) (upd H p (.lst vs)) := by
  have w : Wle K ρ H (ρ ++ [p]) (upd H p (.lst vs)) := Wle.new hp _
  exact h _ _ _ w (S.newO hp ⟨vs, upd_same, r.up w⟩) (.obj (by rw [← S.len]; simp))
theorem newT_post {F : D → Sto → Prop} {xs : List D} (S : SR K ρ st H) (r : RDs K ρ H xs vs) (h : (R.ok (.tup xs) st : R D).post (Kont K ρ H Q) F) (hp : H p = none) : Q (.ref p) (upd H p (.tup vs)) := by
  have w : Wle K ρ H ρ (upd H p (.tup vs)) := Wle.newT hp _
  exact h _ _ _ w (S.newT hp _) (.tup (.inl (.inl upd_same)) (r.up w))
theorem line_eq : line = sizeLine := by rw [PySem.sizeLine_eq]; rfl
theorem Str.len_toList {x : Str} : x.length = x.cps.toList.length := by simp [Str.length]

/-! ### + -/
def rAdd (K : PySem.W.Frag) : R2 := fun x y H Q => (rI0 fun i j => .int (i + j)) x y H Q ∨ (∃ i j, x = .str i ∧ y = .str j ∧ i.length + j.length ≤ sizeLine ∧ Q (.str (i ++ j)) H) ∨ rCatA K x y H Q ∨ rCat x y H Q
theorem or_add {X : Cx} : OpR X (binaryOp .Add) (rAdd X.K) := op_add.or (op_add_str.or (op_catA.or op_cat))
theorem two_add : Two K opAdd (rAdd K) := by
  intro ρ H st x y v u Q F _ S rx ry h
  unfold opAdd at h
  split at h
  · cases rx; cases ry
    exact .inl ⟨_, _, rfl, rfl, h _ _ _ Wle.refl S (.int _)⟩
  · cases rx.str_inv; cases ry.str_inv
    split at h
    · rename_i hl
      refine .inr (.inl ⟨_, _, rfl, rfl, ?_, h _ _ _ Wle.refl S (.str' ?_)⟩)
      · rw [← line_eq]; simpa [Str.length] using hl
      · show (Array.toList (_ ++ _)) = _
        simp
    · exact h.elim
  · obtain ⟨a, vs, rfl, ha, ra⟩ := rx.tup_inv
    obtain ⟨b, ws, rfl, hb, rb⟩ := ry.tup_inv
    split at h
    · rename_i hl
      refine .inr (.inr (.inl ⟨a, b, vs, ws, rfl, rfl, ha, hb, by rw [← line_eq, ← ra.length, ← rb.length]; exact hl, ?_⟩))
      refine ⟨fun e => ?_, fun _ e => ?_, fun _ _ p hp => newT_post S (ra.append rb) h hp⟩
      · subst e
        cases ra
        exact h _ _ _ Wle.refl S (.tup hb rb)
      · subst e
        cases rb
        rw [List.append_nil] at h
        exact h _ _ _ Wle.refl S (.tup ha ra)
    · exact h.elim
  · obtain ⟨a, rfl, ea⟩ := rx.obj_inv
    obtain ⟨b, rfl, eb⟩ := ry.obj_inv
    split at h
    · rename_i xs ys hi hj
      obtain ⟨_, ea', vs, ha, ra⟩ := S.get hi
      obtain ⟨_, eb', ws, hb, rb⟩ := S.get hj
      rw [ea] at ea'; cases ea'
      rw [eb] at eb'; cases eb'
      split at h
      · rename_i hl
        exact .inr (.inr (.inr ⟨a, b, vs, ws, rfl, rfl, ha, hb, by rw [← line_eq, ← ra.length, ← rb.length]; exact hl, fun p hp => newL_post S (ra.append rb) h hp⟩))
      · exact h.elim
    · exact h.elim
  · exact h.elim
end
end Z

/-! ZOps: the operators on data are the hand layer's. -/
namespace Z
open PySem L2
section
variable {K : PySem.W.Frag} {E : XW K} {ρ ρ' ρ1 ρ2 ρ3 : List Addr} {H H' H1 H2 H3 : Hp} {d : D} {ds : List D} {v u : V} {vs : List V} {a p : Addr} {i : Nat} {l : Lo} {σ : L2.St} {st st1 st2 : Sto} {Q : VK}

/-! ### *, -, //, %, ** -/
/-- tuple * int, many times -/
def rRepU (K : PySem.W.Frag) : R2 := fun x y H Q => ∃ l k xs, x = .ref l ∧ y = .int k ∧ SqT K H l xs ∧ xs ≠ [] ∧ 2 ≤ k ∧ k ≤ 1000000 ∧ xs.length * k.toNat ≤ sizeLine ∧ ∀ p, H p = none → Q (.ref p) (upd H p (.tup (List.replicate k.toNat xs).flatten))
theorem op_repU {X : Cx} : OpR X (binaryOp .Mult) (rRepU X.K) := by
  intro pins s σ H x y v u Q I rx ry h
  obtain ⟨l, k, xs, rfl, rfl, hT, hne, h1, h2, hz, q⟩ := h
  cases rx
  obtain ⟨t, rfl⟩ := ry
  obtain ⟨its, r, ⟨⟨cls, dd, data, sl⟩, ho, hc, n, hd⟩, hs⟩ := I.tuple hT
  simp only at hc hd
  subst hc hd
  have hle : its.length = xs.length := r.length.symm
  have hi : its.toArray.isEmpty = false := by
    cases its with
    | nil => exact absurd (List.eq_nil_of_length_eq_zero hle.symm) hne
    | cons a b => rfl
  have lk : (List.replicate k.toNat xs).flatten.length = k.toNat * xs.length := by rw [PyProof.Rows.lm_len_rep_flat]
  have li : (List.replicate k.toNat its).flatten.length = k.toNat * xs.length := by rw [PyProof.Rows.lm_len_rep_flat, hle]
  have hz2 : k.toNat * xs.length ≤ 16777216 := by rw [Nat.mul_comm, ← sizeLine_eq]; exact hz
  have hm : ((its.toArray.size : Nat) : Int) * k ≤ 16777216 := by
    have e : ((its.toArray.size : Nat) : Int) * k = ((k.toNat * xs.length : Nat) : Int) := by
      rw [List.size_toArray, hle, Int.natCast_mul, Int.mul_comm]
      congr 1
      omega
    rw [e]; omega
  have d0 : (decide (k < -(2 ^ 63)) || decide (k ≥ 2 ^ 63)) = false := by
    simp only [Bool.or_eq_false_iff, decide_eq_false_iff_not]; omega
  have d1 : (its.toArray.isEmpty || k == 1) = false := by
    rw [hi, Bool.false_or]; exact beq_eq_false_iff_ne.mpr (by omega)
  have d2 : (decide (k ≤ 0) || its.toArray.isEmpty) = false := by
    rw [hi, Bool.or_false]; exact decide_eq_false (by omega)
  have d4 : Builtin.Tuple.tupleTooMany (((its.toArray.size : Nat) : Int) * k) = false := by
    unfold Builtin.Tuple.tupleTooMany
    rw [sizeLine_eq]; exact decide_eq_false (by omega)
  have made := tuple_mulW l its.toArray n dd sl k t d0 d1 d2 (by omega) d4 (by rw [size_rep, List.size_toArray, li, sizeLine_eq]; exact hz2)
  refine wpAny_binaryOp_repeat_ref (T := "tuple") (U := "int") (by decide) ⟨_, ho, rfl⟩ (fun s' => typeIs_int s' k t) noFill_tuple_mul PySem.F.fills_int_mul PySem.F.slot_int_rmul repeat_tuple PySem.F.slot_int_index.lookup
    (call_meets PySem.F.slot_int_rmul (typeIs_int s k t) PySem.F.entry_int_rmul (PySem.F.args_int_rmul_2 _ _) (int_rmul_tuple k t l its.toArray n dd sl) ⟨ho, rfl, ⟨_, ho, rfl⟩, call_meets PySem.F.slot_tuple_mul ⟨_, ho, rfl⟩ PySem.F.entry_tuple_mul (PySem.F.args_tuple_mul_2 _ _) made ⟨ho, ?_⟩⟩)
  rw [size_rep]
  have ok : ObjOk X.prog X.w H (s.heap.push { cls := .type "tuple", data := .seq (List.replicate k.toNat its).flatten.toArray }) s.heap.objs.size (.tup (List.replicate k.toNat xs).flatten) :=
    ⟨by rw [lk, sizeLine_eq]; exact hz2, _, r.rep k.toNat, PyProof.Rows.IsTup.new _ _⟩
  exact ⟨.ref s.heap.objs.size, _, I.laid (t' := s.toks) (o := .tup (List.replicate k.toNat xs).flatten) (fun b ob q => Heap.get?_push_of_some _ q) (Nat.le_refl _) ok, rfl, q _ (I.hok.fresh (Nat.le_refl _))⟩
theorem fold_arr {α : Type} (a : Array α) : ∀ (n : Nat) (b : Array α), ((List.replicate n a).foldl (fun x y => x ++ y) b).toList = b.toList ++ (List.replicate n a.toList).flatten
  | 0, b => by simp
  | n + 1, b => by
    rw [List.replicate_succ, List.foldl_cons, fold_arr a n, List.replicate_succ, List.flatten_cons]
    simp
theorem txt_mul {z : Str} {k : Int} (h : z.length ≠ 0) (h2 : 2 ≤ k) : (Txt.mul z k).cps.toList = (List.replicate k.toNat z.cps.toList).flatten := by
  unfold Txt.mul
  rw [if_neg (by omega), if_neg]
  · have := fold_arr z.cps k.toNat #[]
    simpa using this
  · have e1 : (k == 1) = false := beq_eq_false_iff_ne.mpr (by omega)
    have e2 : (z.length == 0) = false := beq_eq_false_iff_ne.mpr h
    rw [e1, e2]
    decide
def rRepS : R2 := fun x y H Q => ∃ (z : Str) (k : Int), x = .str z ∧ y = .int k ∧ z.length ≠ 0 ∧ 2 ≤ k ∧ k ≤ 1000000 ∧ z.length * k.toNat ≤ sizeLine ∧ Q (.str (Txt.mul z k)) H
theorem op_repS {X : Cx} : OpR X (binaryOp .Mult) rRepS := by
  intro pins s σ H x y v u Q I rx ry h
  obtain ⟨z, k, rfl, rfl, h0, h1, h2, hz, q⟩ := h
  obtain ⟨t, rfl⟩ := rx
  obtain ⟨t2, rfl⟩ := ry
  have hz2 : z.length * k.toNat ≤ 16777216 := by rw [← sizeLine_eq]; exact hz
  have hm : ((z.length : Nat) : Int) * k ≤ 16777216 := by
    have e : ((z.length : Nat) : Int) * k = ((z.length * k.toNat : Nat) : Int) := by
      rw [Int.natCast_mul]
      congr 1
      omega
    rw [e]; omega
  refine PySem.SB.mul ⟨?_, fun _ _ => ?_, fun _ _ => ?_⟩ fun t' tk => ⟨.str _, H, I.tok _, ⟨t', rfl⟩, q⟩
  · simp only [Bool.or_eq_false_iff, decide_eq_false_iff_not]; omega
  · have : ((z.length : Nat) : Int) ≤ (2 ^ 63 - 1) / k := by
      rw [Int.le_ediv_iff_mul_le (by omega)]
      omega
    omega
  · unfold Builtin.Str.tooLong
    exact decide_eq_false (by rw [sizeLine_eq]; omega)
theorem tuple_mul1 (l : Addr) (items : Array Value) (n : Nat) (sl : Array (Option Value)) (dd : Option Addr) (x : Int) (u : Tok) (c0 : (decide (x < -(2 ^ 63)) || decide (x ≥ 2 ^ 63)) = false) (c1 : (items.isEmpty || x == 1) = true) :
    Meets (Builtin.«tuple.__mul__» ⟨[.ref l, .int x u], []⟩) (fun _ R s => s.heap.get? l = some { cls := .type "tuple", dict := dd, data := .seq items n, slots := sl } ∧ R (.ok (.ret (Value.ref l))) s) :=
  .of_wp fun prog w A R s h => by
    obtain ⟨hp, g, d, tk, os⟩ := s
    obtain ⟨hl, h⟩ := h
    have f1 := AutoSeq1.idx_int
    wp_walk using wpAny_loadPart' hl
    repeat (first
      | (refine wpAny_ite_false (decide_eq_false (by rw [c0]; exact Bool.false_ne_true)) ?_; wp_walk using wpAny_loadPart' hl)
      | (refine wpAny_ite_true (decide_eq_true c1) ?_; wp_walk using wpAny_loadPart' hl))
    exact ⟨_, rfl, h⟩
theorem tuple_mul0 (l : Addr) (items : Array Value) (n : Nat) (sl : Array (Option Value)) (dd : Option Addr) (x : Int) (u : Tok) (c0 : (decide (x < -(2 ^ 63)) || decide (x ≥ 2 ^ 63)) = false) (c1 : (items.isEmpty || x == 1) = false) (c2 : (decide (x ≤ 0) || items.isEmpty) = true) :
    Meets (Builtin.«tuple.__mul__» ⟨[.ref l, .int x u], []⟩) (fun _ R s => s.heap.get? l = some { cls := .type "tuple", dict := dd, data := .seq items n, slots := sl } ∧
      R (.ok (.ret (Value.ref s.heap.objs.size))) { s with heap := s.heap.push { cls := Value.type "tuple", data := Data.seq #[] }, toks := s.toks }) :=
  .of_wp fun prog w A R s h => by
    obtain ⟨hp, g, d, tk, os⟩ := s
    obtain ⟨hl, h⟩ := h
    have f1 := AutoSeq1.idx_int
    wp_walk using wpAny_loadPart' hl
    repeat (first
      | (refine wpAny_ite_false (decide_eq_false (by rw [c0]; exact Bool.false_ne_true)) ?_; wp_walk using wpAny_loadPart' hl)
      | (refine wpAny_ite_false (decide_eq_false (by rw [c1]; exact Bool.false_ne_true)) ?_; wp_walk using wpAny_loadPart' hl)
      | (refine wpAny_ite_true (decide_eq_true c2) ?_; wp_walk using wpAny_loadPart' hl))
    exact ⟨_, rfl, h⟩
/-- tuple * int: the same one, or none -/
def rRepN (K : PySem.W.Frag) : R2 := fun x y H Q => ∃ l k xs, x = .ref l ∧ y = .int k ∧ SqT K H l xs ∧ -1000000 ≤ k ∧ k ≤ 1000000 ∧ ((xs = [] ∨ k = 1) ∧ Q (.ref l) H ∨ xs ≠ [] ∧ k ≤ 0 ∧ ∀ p, H p = none → Q (.ref p) (upd H p (.tup [])))
theorem op_repN {X : Cx} : OpR X (binaryOp .Mult) (rRepN X.K) := by
  intro pins s σ H x y v u Q I rx ry h
  obtain ⟨l, k, xs, rfl, rfl, hT, h1, h2, hq⟩ := h
  cases rx
  obtain ⟨t, rfl⟩ := ry
  obtain ⟨its, r, ⟨⟨cls, dd, data, sl⟩, ho, hc, n, hd⟩, hs⟩ := I.tuple hT
  simp only at hc hd
  subst hc hd
  have hle : its.length = xs.length := r.length.symm
  have d0 : (decide (k < -(2 ^ 63)) || decide (k ≥ 2 ^ 63)) = false := by
    simp only [Bool.or_eq_false_iff, decide_eq_false_iff_not]; omega
  have go : ∀ {Q' : Value → Shared → Prop}, wpAny (model X.prog X.w) X.A (call (.builtin "tuple.__mul__") [.ref l, .int k t]) Q' X.xe s → True := fun _ => trivial
  rcases hq with ⟨hc, q⟩ | ⟨hne, hk, q⟩
  · have d1 : (its.toArray.isEmpty || k == 1) = true := by
      rcases hc with rfl | rfl
      · have : its = [] := List.eq_nil_of_length_eq_zero (by simpa using hle)
        subst this
        rfl
      · simp
    refine wpAny_binaryOp_repeat_ref (T := "tuple") (U := "int") (by decide) ⟨_, ho, rfl⟩ (fun s' => typeIs_int s' k t) noFill_tuple_mul PySem.F.fills_int_mul PySem.F.slot_int_rmul repeat_tuple PySem.F.slot_int_index.lookup
      (call_meets PySem.F.slot_int_rmul (typeIs_int s k t) PySem.F.entry_int_rmul (PySem.F.args_int_rmul_2 _ _) (int_rmul_tuple k t l its.toArray n dd sl) ⟨ho, rfl, ⟨_, ho, rfl⟩, call_meets PySem.F.slot_tuple_mul ⟨_, ho, rfl⟩ PySem.F.entry_tuple_mul (PySem.F.args_tuple_mul_2 _ _) (tuple_mul1 l its.toArray n sl dd k t d0 d1) ⟨ho, ?_⟩⟩)
    exact ⟨.ref l, H, I, rfl, q⟩
  · have hi : its.toArray.isEmpty = false := by
      cases its with
      | nil => exact absurd (List.eq_nil_of_length_eq_zero hle.symm) hne
      | cons a b => rfl
    have d1 : (its.toArray.isEmpty || k == 1) = false := by
      rw [hi, Bool.false_or]; exact beq_eq_false_iff_ne.mpr (by omega)
    have d2 : (decide (k ≤ 0) || its.toArray.isEmpty) = true := by
      rw [decide_eq_true hk]; rfl
    refine wpAny_binaryOp_repeat_ref (T := "tuple") (U := "int") (by decide) ⟨_, ho, rfl⟩ (fun s' => typeIs_int s' k t) noFill_tuple_mul PySem.F.fills_int_mul PySem.F.slot_int_rmul repeat_tuple PySem.F.slot_int_index.lookup
      (call_meets PySem.F.slot_int_rmul (typeIs_int s k t) PySem.F.entry_int_rmul (PySem.F.args_int_rmul_2 _ _) (int_rmul_tuple k t l its.toArray n dd sl) ⟨ho, rfl, ⟨_, ho, rfl⟩, call_meets PySem.F.slot_tuple_mul ⟨_, ho, rfl⟩ PySem.F.entry_tuple_mul (PySem.F.args_tuple_mul_2 _ _) (tuple_mul0 l its.toArray n sl dd k t d0 d1 d2) ⟨ho, ?_⟩⟩)
    have ok : ObjOk X.prog X.w H (s.heap.push { cls := .type "tuple", data := .seq #[] }) s.heap.objs.size (.tup []) :=
      ⟨Nat.zero_le _, [], .nil, PyProof.Rows.IsTup.new _ _⟩
    exact ⟨.ref s.heap.objs.size, _, I.laid (t' := s.toks) (o := .tup []) (fun b ob q => Heap.get?_push_of_some _ q) (Nat.le_refl _) ok, rfl, q _ (I.hok.fresh (Nat.le_refl _))⟩
/-- "" * int -/
def rRepE : R2 := fun x y H Q => ∃ (z : Str) (k : Int), x = .str z ∧ y = .int k ∧ z.length = 0 ∧ 2 ≤ k ∧ k ≤ 1000000 ∧ Q (.str z) H
theorem op_repE {X : Cx} : OpR X (binaryOp .Mult) rRepE := by
  intro pins s σ H x y v u Q I rx ry h
  obtain ⟨z, k, rfl, rfl, h0, h1, h2, q⟩ := h
  obtain ⟨t, rfl⟩ := rx
  obtain ⟨t2, rfl⟩ := ry
  have e2 : (z.length == 0) = true := by rw [h0]; rfl
  refine PySem.SB.mul ⟨?_, fun _ h => ?_, fun _ h => ?_⟩ fun t' tk => ⟨.str _, H, I.tok _, ⟨t', rfl⟩, ?_⟩
  · simp only [Bool.or_eq_false_iff, decide_eq_false_iff_not]; omega
  · rw [e2, Bool.or_true] at h; cases h
  · rw [e2, Bool.or_true] at h; cases h
  · unfold Txt.mul
    rw [if_neg (by omega), if_pos (by rw [e2, Bool.or_true])]
    exact q
def rMul (K : PySem.W.Frag) : R2 := fun x y H Q => (rI CMul fun i j => .int (i * j)) x y H Q ∨ rRepU K x y H Q ∨ rRepS x y H Q ∨ rRep x y H Q ∨ rRepN K x y H Q ∨ rRepE x y H Q
theorem or_mul {X : Cx} : OpR X (binaryOp .Mult) (rMul X.K) := op_mul.or (op_repU.or (op_repS.or (op_rep.or (op_repN.or op_repE))))
theorem big_eq : (2 : Int) ^ 64 = big := by decide
theorem two_mul : Two K opMul (rMul K) := by
  intro ρ H st x y v u Q F _ S rx ry h
  unfold opMul at h
  split at h
  · cases rx; cases ry
    split at h
    · rename_i hc
      refine .inl ⟨_, _, rfl, rfl, ?_, h _ _ _ Wle.refl S (.int _)⟩
      unfold CMul
      rw [big_eq]
      exact hc
    · exact h.elim
  · obtain ⟨a, vs, rfl, ha, ra⟩ := rx.tup_inv
    cases ry
    split at h
    · rename_i hc
      have hl := ra.length
      refine .inr (.inl ⟨a, _, vs, rfl, rfl, ha, ?_, hc.2.1, hc.2.2.1, by rw [← hl, ← line_eq]; exact hc.2.2.2, fun p hp => newT_post S (ra.replicate _) h hp⟩)
      intro e
      subst e
      exact hc.1 (List.length_eq_zero_iff.mp hl)
    · split at h
      · rename_i hc
        have hl := ra.length
        refine .inr (.inr (.inr (.inr (.inl ⟨a, _, vs, rfl, rfl, ha, hc.2.1, hc.2.2, .inl ⟨?_, h _ _ _ Wle.refl S (.tup ha ra)⟩⟩))))
        rcases hc.1 with e | e
        · subst e; exact .inl (List.length_eq_zero_iff.mp hl.symm)
        · exact .inr e
      · split at h
        · rename_i hc
          have hl := ra.length
          refine .inr (.inr (.inr (.inr (.inl ⟨a, _, vs, rfl, rfl, ha, hc.2.1, by omega, .inr ⟨?_, hc.2.2, fun p hp => newT_post S .nil h hp⟩⟩))))
          intro e
          subst e
          exact hc.1 (List.length_eq_zero_iff.mp hl)
        · exact h.elim
  · cases rx.str_inv
    cases ry
    split at h
    · rename_i z k _ hc
      have hl : (⟨z.toArray⟩ : Str).length = z.length := by simp [Str.length]
      have h0 : (⟨z.toArray⟩ : Str).length ≠ 0 := by
        rw [hl]
        exact fun e => hc.1 (List.eq_nil_of_length_eq_zero e)
      refine .inr (.inr (.inl ⟨_, _, rfl, rfl, h0, hc.2.1, hc.2.2.1, by rw [hl, ← line_eq]; exact hc.2.2.2, h _ _ _ Wle.refl S (.str' ?_)⟩))
      rw [txt_mul h0 hc.2.1]
    · split at h
      · rename_i hc
        obtain ⟨rfl, h2, h3⟩ := hc
        exact .inr (.inr (.inr (.inr (.inr ⟨_, _, rfl, rfl, rfl, h2, h3, h _ _ _ Wle.refl S (.str' rfl)⟩))))
      · exact h.elim
  · obtain ⟨a, rfl, ea⟩ := rx.obj_inv
    cases ry
    split at h
    · rename_i xs hi
      obtain ⟨_, ea', vs, ha, ra⟩ := S.get hi
      rw [ea] at ea'; cases ea'
      split at h
      · rename_i hl
        refine .inr (.inr (.inr (.inl ⟨a, _, vs, rfl, rfl, ha, by omega, by omega, by rw [← line_eq, ← ra.length]; exact hl.2.1, fun p hp => newL_post S (ra.replicate _) h hp⟩)))
      · exact h.elim
    · exact h.elim
  · exact h.elim
def kSub : D → D → Sto → R D := bin .sub
theorem two_sub : Two K (bin .sub) (rI0 fun i j => .int (i - j)) := by
  intro ρ H st x y v u Q F _ S rx ry h
  show ∃ i j, _
  simp only [bin] at h
  split at h
  · cases rx; cases ry
    exact ⟨_, _, rfl, rfl, h _ _ _ Wle.refl S (.int _)⟩
  · exact h.elim
theorem two_div : Two K (bin .div) (rI CDivW fun i j => .int (i / j)) := by
  intro ρ H st x y v u Q F _ S rx ry h
  simp only [bin] at h
  split at h
  · cases rx; cases ry
    split at h
    · rename_i hc
      refine ⟨_, _, rfl, rfl, ?_, h _ _ _ Wle.refl S (.int _)⟩
      refine wide_div (b := 64) hc.1 ?_ (by decide) (by decide)
      have := hc.2
      unfold big at this
      omega
    · exact h.elim
  · exact h.elim
theorem two_mod : Two K (bin .mod) (rI (fun _ j => 0 < j) fun i j => .int (i % j)) := by
  intro ρ H st x y v u Q F _ S rx ry h
  simp only [bin] at h
  split at h
  · cases rx; cases ry
    split at h
    · rename_i hc
      exact ⟨_, _, rfl, rfl, hc, h _ _ _ Wle.refl S (.int _)⟩
    · exact h.elim
  · exact h.elim
theorem two_pow : Two K (bin .pow) (rI CPow fun i j => .int (i ^ j.toNat)) := by
  intro ρ H st x y v u Q F _ S rx ry h
  simp only [bin] at h
  split at h
  · cases rx; cases ry
    split at h
    · rename_i hc
      refine ⟨_, _, rfl, rfl, ⟨hc.1, hc.2.1, ?_⟩, h _ _ _ Wle.refl S (.int _)⟩
      have := hc.2.2
      omega
    · exact h.elim
  · exact h.elim

/-! ### comparisons -/
theorem pd_Dp (S : SR K ρ st H) : ∀ (n : Nat) (d : D) (v : V) (q : PyData), RD K ρ H d v → pd st n d = some q → SeqAt.shaped q = true → Dp K H v q := by
  have strk : ∀ (q : PyData), SeqAt.shaped q = true → PyData.canLay0 q = true := fun q h => by
    unfold SeqAt.shaped at h
    simp only [Bool.and_eq_true] at h
    exact h.1
  suffices hh : ∀ (n : Nat) (d : D) (v : V) (q : PyData), RD K ρ H d v → pd st n d = some q → PyData.canLay0 q = true → Dp K H v q from fun n d v q r e s => hh n d v q r e (strk q s)
  intro n
  induction n with
  | zero => intro d v q r e; cases e
  | succ n ih =>
    have all : ∀ (ds : List D) (vs : List V) (qs : List PyData), RDs K ρ H ds vs → optAll (pd st n) ds = some qs → PyData.canLayAll0 qs = true → DpAll K H vs qs := by
      intro ds
      induction ds with
      | nil => intro vs qs r e _; cases r; cases e; exact .nil
      | cons d ds ihs =>
        intro vs qs r e hl
        cases r with
        | cons r1 r2 =>
          unfold optAll at e
          split at e
          · rename_i y ys e1 e2
            cases e
            simp only [PyData.canLayAll0, Bool.and_eq_true] at hl
            exact .cons (ih d _ y r1 e1 hl.1) (ihs _ ys r2 e2 hl.2)
          · cases e
    intro d v q r e hl
    unfold pd at e
    cases d with
    | non => cases r; cases e; exact .non
    | bl b => cases r; cases e; exact .bl _
    | int b => cases r; cases e; exact .int _
    | str b => cases r.str_inv; cases e; exact .str _
    | tup xs =>
      obtain ⟨a, vs, rfl, ha, ra⟩ := r.tup_inv
      simp only [Option.map_eq_some_iff] at e
      obtain ⟨qs, e, rfl⟩ := e
      exact .tup ha (all xs vs qs ra e (by simpa [PyData.canLay0] using hl))
    | kl xs =>
      obtain ⟨a, vs, rfl, ha, ra⟩ := r.kl_inv
      simp only [Option.map_eq_some_iff] at e
      obtain ⟨qs, e, rfl⟩ := e
      exact .lst ha.sq (all xs vs qs ra e (by simpa [PyData.canLay0] using hl))
    | obj i =>
      obtain ⟨a, rfl, ea⟩ := r.obj_inv
      simp only at e
      split at e
      · rename_i xs hi
        obtain ⟨_, ea', vs, ha, ra⟩ := S.get hi
        rw [ea] at ea'; cases ea'
        simp only [Option.map_eq_some_iff] at e
        obtain ⟨qs, e, rfl⟩ := e
        exact .lst (SqL.of ha) (all xs vs qs ra e (by simpa [PyData.canLay0] using hl))
      · simp only [Option.map_eq_some_iff] at e
        obtain ⟨qs, e, rfl⟩ := e
        simp [PyData.canLay0] at hl
      · cases e
/-- a comparison's answer -/
def TwoB (K : PySem.W.Frag) (f : D → D → Sto → Option Bool) (r : R2) : Prop := ∀ (ρ : List Addr) (H : Hp) (st : Sto) (x y : D) (v u : V) (Q : VK) (b : Bool), SR K ρ st H → RD K ρ H x v → RD K ρ H y u → f x y st = some b → Q (.bl b) H → r v u H Q
theorem two_cmp {o : Cop} {r : R2} (h : TwoB K (fun x y s => cmpO o x y s) r) : Two K (cmp o) r := by
  intro ρ H st x y v u Q F _ S rx ry hq
  unfold cmp at hq
  split at hq
  · rename_i b e
    exact h ρ H st x y v u Q b S rx ry e (hq _ _ _ Wle.refl S (.bl _))
  · exact hq.elim
/-- '==', '!=': strs by their signs, other data by what they are -/
def rEqS : R2 := fun x y H Q => ∃ i j : Str, x = .str i ∧ y = .str j ∧ Q (.bl (i.cps.toList == j.cps.toList)) H
def rNeS : R2 := fun x y H Q => ∃ i j : Str, x = .str i ∧ y = .str j ∧ Q (.bl (!(i.cps.toList == j.cps.toList))) H
theorem op_eqStr {X : Cx} : OpR X (compareOp .Eq) rEqS := by
  rintro pins s σ H x y v u Q I rx ry ⟨i, j, rfl, rfl, q⟩
  obtain ⟨t, rfl⟩ := rx
  obtain ⟨t', rfl⟩ := ry
  exact P.eq_str ⟨.bl _, H, I, rfl, q⟩
theorem op_neStr {X : Cx} : OpR X (compareOp .NotEq) rNeS := by
  rintro pins s σ H x y v u Q I rx ry ⟨i, j, rfl, rfl, q⟩
  obtain ⟨t, rfl⟩ := rx
  obtain ⟨t', rfl⟩ := ry
  exact P.ne_str ⟨.bl _, H, I, rfl, q⟩
/-- lists of unlike lengths -/
def rLen (K : PySem.W.Frag) (b : Bool) : R2 := fun x y H Q => ∃ l r xs ys, x = .ref l ∧ y = .ref r ∧ SqL K H l xs ∧ SqL K H r ys ∧ xs.length ≠ ys.length ∧ Q (.bl b) H
theorem op_eqLen {X : Cx} (hu : X.A.units < cLine) : OpR X (compareOp .Eq) (rLen X.K false) := by
  intro pins s σ H x y v u Q I rx ry h
  obtain ⟨a, b, xs, ys, rfl, rfl, ha, hb, hl, q⟩ := h
  cases rx; cases ry
  obtain ⟨us, r1, p1, _⟩ := I.list ha
  obtain ⟨ws, r2, p2, _⟩ := I.list hb
  refine SeqAt.eq_list_lengthsAt p1.isList p2.isList ?_ hu ⟨.bl _, H, I, rfl, q⟩
  rw [List.size_toArray, List.size_toArray, ← r1.length, ← r2.length]
  exact bne_iff_ne.mpr hl
theorem op_neLen {X : Cx} (hu : X.A.units < cLine) : OpR X (compareOp .NotEq) (rLen X.K true) := by
  intro pins s σ H x y v u Q I rx ry h
  obtain ⟨a, b, xs, ys, rfl, rfl, ha, hb, hl, q⟩ := h
  cases rx; cases ry
  obtain ⟨us, r1, p1, _⟩ := I.list ha
  obtain ⟨ws, r2, p2, _⟩ := I.list hb
  have hsz : (us.toArray.size != ws.toArray.size) = true := by
    rw [List.size_toArray, List.size_toArray, ← r1.length, ← r2.length]
    exact bne_iff_ne.mpr hl
  obtain ⟨⟨cls, dd, data, sl⟩, ho, hc, n, hd⟩ := id p1.isList
  obtain ⟨⟨cls2, dd2, data2, sl2⟩, ho2, hc2, n2, hd2⟩ := id p2.isList
  simp only at hc hd hc2 hd2
  subst hc hd hc2 hd2
  exact richCompare_meets_room (op := .NotEq) ⟨_, ho, rfl⟩ ⟨_, ho2, rfl⟩ PySem.F.slot_list_ne PySem.F.entry_list_ne (PySem.F.args_list_ne_2 _ _) (SeqAt.list_ne_lengthsAt a b _ _ n n2 dd dd2 sl sl2 hsz)
    ⟨ho, ho2, show Value.bool true ≠ Value.notImplemented ∧ _ from ⟨(fun x => nomatch x), ⟨.bl _, H, I, rfl, q⟩⟩⟩ hu
def rEqZ (K : PySem.W.Frag) : R2 := fun x y H Q => rEqS x y H Q ∨ rLen K false x y H Q ∨ rEqD K x y H Q
def rNeZ (K : PySem.W.Frag) : R2 := fun x y H Q => rNeS x y H Q ∨ rLen K true x y H Q ∨ rNeD K x y H Q
theorem op_eqZ {X : Cx} (hu : X.A.units + 64 < cLine) : OpR X (compareOp .Eq) (rEqZ X.K) := op_eqStr.or ((op_eqLen (by omega)).or (op_eqD hu))
theorem op_neZ {X : Cx} (hu : X.A.units + 64 < cLine) : OpR X (compareOp .NotEq) (rNeZ X.K) := op_neStr.or ((op_neLen (by omega)).or (op_neD hu))
theorem lst_SqL {st : Sto} (S : SR K ρ st H) {x : D} {xs : List D} {v : V} (r : RD K ρ H x v) (h : lst? st x = some xs) : ∃ a vs, v = .ref a ∧ SqL K H a vs ∧ xs.length = vs.length := by
  unfold lst? at h
  split at h
  · cases h
    obtain ⟨a, vs, rfl, ha, ra⟩ := r.kl_inv
    exact ⟨a, vs, rfl, ha.sq, ra.length⟩
  · obtain ⟨a, rfl, ea⟩ := r.obj_inv
    split at h
    · rename_i hi
      cases h
      obtain ⟨_, ea', vs, ha, ra⟩ := S.get hi
      rw [ea] at ea'; cases ea'
      exact ⟨a, vs, rfl, SqL.of ha, ra.length⟩
    · cases h
  · cases h
theorem lenNe_SqL {st : Sto} (S : SR K ρ st H) {x y : D} {v u : V} (rx : RD K ρ H x v) (ry : RD K ρ H y u) (h : lenNe st x y = true) : ∃ l r xs ys, v = .ref l ∧ u = .ref r ∧ SqL K H l xs ∧ SqL K H r ys ∧ xs.length ≠ ys.length := by
  unfold lenNe at h
  split at h
  · rename_i e1 e2
    obtain ⟨a, vs, rfl, ha, la⟩ := lst_SqL S rx e1
    obtain ⟨b, ws, rfl, hb, lb⟩ := lst_SqL S ry e2
    exact ⟨a, b, vs, ws, rfl, rfl, ha, hb, by rw [← la, ← lb]; exact bne_iff_ne.mp h⟩
  · cases h
theorem b_eq : TwoB K (fun x y s => cmpO .eq x y s) (rEqZ K) := by
  intro ρ H st x y v u Q b S rx ry e q
  simp only [cmpO, eqD] at e
  split at e
  · cases rx; cases ry; cases e
    exact Or.inl ⟨_, _, rfl, rfl, q⟩
  · split at e
    · rename_i hln
      cases e
      obtain ⟨l, r, xs, ys, rfl, rfl, h1, h2, h3⟩ := lenNe_SqL S rx ry hln
      exact Or.inr (Or.inl ⟨l, r, xs, ys, rfl, rfl, h1, h2, h3, q⟩)
    · unfold eqP at e
      split at e
      · rename_i p1 p2 e1 e2
        split at e
        · rename_i hs
          cases e
          exact Or.inr (Or.inr ⟨p1, p2, pd_Dp S _ _ _ _ rx e1 hs.1, pd_Dp S _ _ _ _ ry e2 hs.2, hs.1, hs.2, q⟩)
        · cases e
      · cases e
theorem b_ne : TwoB K (fun x y s => cmpO .ne x y s) (rNeZ K) := by
  intro ρ H st x y v u Q b S rx ry e q
  simp only [cmpO, eqD, Option.map_eq_some_iff] at e
  obtain ⟨c, e, rfl⟩ := e
  split at e
  · cases rx; cases ry; cases e
    exact Or.inl ⟨_, _, rfl, rfl, q⟩
  · split at e
    · rename_i hln
      cases e
      obtain ⟨l, r, xs, ys, rfl, rfl, h1, h2, h3⟩ := lenNe_SqL S rx ry hln
      exact Or.inr (Or.inl ⟨l, r, xs, ys, rfl, rfl, h1, h2, h3, q⟩)
    · unfold eqP at e
      split at e
      · rename_i p1 p2 e1 e2
        split at e
        · rename_i hs
          cases e
          exact Or.inr (Or.inr ⟨p1, p2, pd_Dp S _ _ _ _ rx e1 hs.1, pd_Dp S _ _ _ _ ry e2 hs.2, hs.1, hs.2, q⟩)
        · cases e
      · cases e
theorem b_lt {f : Int → Int → Bool} {o : Cop} (ho : ∀ x y s, cmpO o x y s = opLt f x y) : TwoB K (fun x y s => cmpO o x y s) (rI0 fun i j => .bl (f i j)) := by
  intro ρ H st x y v u Q b S rx ry e q
  simp only [ho] at e
  unfold opLt at e
  split at e
  · cases rx; cases ry; cases e
    exact ⟨_, _, rfl, rfl, q⟩
  · cases e

/-! ### in -/
theorem flat_of {x : D} (r : RD K ρ H d v) (h : flatD d = true) : flatV v = true := by
  cases r <;> first | rfl | (simp [flatD] at h)
theorem flat_all (r : RDs K ρ H ds vs) (h : ds.all flatD = true) : vs.all flatV = true := by
  induction ds generalizing vs with
  | nil => cases r; rfl
  | cons d ds ih =>
    cases r with
    | cons r1 r2 =>
      simp only [List.all_cons, Bool.and_eq_true] at h ⊢
      exact ⟨flat_of (x := d) r1 h.1, ih r2 h.2⟩
theorem str_beq (a b : List Nat) : ((⟨a.toArray⟩ : Str) == ⟨b.toArray⟩) = (a == b) := by
  rw [Bool.eq_iff_iff, beq_iff_eq, beq_iff_eq]
  constructor
  · intro h; injection h with h; simpa using congrArg Array.toList h
  · rintro rfl; rfl
theorem eqF_V {e : D} (r : RD K ρ H d v) (q : RD K ρ H e u) (h : flatD d = true) (h' : flatD e = true) : eqV v u = eqF d e := by
  cases d <;> simp [flatD] at h <;> cases e <;> simp [flatD] at h' <;>
    first
    | (cases r.str_inv; cases q.str_inv; exact str_beq _ _)
    | (cases r; cases q; rfl)
theorem inF_V (r : RD K ρ H d v) (q : RDs K ρ H ds vs) (h : flatD d = true) (h' : ds.all flatD = true) : inV v vs = inF d ds := by
  unfold inV inF
  induction ds generalizing vs with
  | nil => cases q; rfl
  | cons e ds ih =>
    cases q with
    | cons q1 q2 =>
      simp only [List.all_cons, Bool.and_eq_true] at h'
      simp only [List.any_cons]
      rw [ih q2 h'.2, eqF_V q1 r h'.1 h]
theorem key_V {x : D} {k : Ky} (r : RD K ρ H x v) (h : x.key = some k) : v = kV (keyOf k) := by
  cases x <;> simp [D.key] at h <;> subst h
  · cases r; rfl
  · cases r.str_inv; rfl
theorem look_V {kvs : List (Ky × D)} {ws : List (Key × V)} (r : RKs K ρ H kvs ws) (k : Ky) : (∀ d, lookK kvs k = some d → ∃ v, valV ws (keyOf k) = some v ∧ RD K ρ H d v) ∧ (lookK kvs k = none → valV ws (keyOf k) = none) := by
  induction r with
  | nil => exact ⟨fun d e => (by cases e), fun _ => rfl⟩
  | @cons k2 d v ds vs r1 r2 ih =>
    by_cases e : k2 = k
    · subst e
      have a1 : lookK ((k2, d) :: ds) k2 = some d := by simp [lookK]
      refine ⟨fun d' h => ?_, fun h => ?_⟩
      · rw [a1] at h; cases h
        exact ⟨v, valV_pos rfl, r1⟩
      · rw [a1] at h; cases h
    · have e' : ¬ keyOf k2 = keyOf k := fun q => e (keyOf_inj q)
      have a1 : lookK ((k2, d) :: ds) k = lookK ds k := by simp [lookK, List.find?_cons, e]
      rw [a1, valV_neg e']
      exact ih
def kk : ∀ k : Ky, Key := keyOf
/-- in, of all kinds; n: not -/
def rInA (K : PySem.W.Frag) (n : Bool) : R2 := fun x y H Q => rIn K n x y H Q ∨ (∃ (c : Nat) (z : Str), x = .str ⟨#[c]⟩ ∧ y = .str z ∧ Q (.bl (if n then !decide (c ∈ z.cps.toList) else decide (c ∈ z.cps.toList))) H) ∨
  (∃ a o, y = .ref a ∧ DGet H a x o ∧ Q (.bl (if n then !o.isSome else o.isSome)) H)
theorem op_din {X : Cx} (hu : X.A.units + 1 < cLine) : OpR X (compareOp .In) (fun x y H Q => ∃ a o, y = .ref a ∧ DGet H a x o ∧ Q (.bl o.isSome) H) := by
  intro pins s σ H x y v u Q I rx ry h
  obtain ⟨a, o, rfl, g, q⟩ := h
  cases ry
  exact d_in hu I g rx fun s' I' => ⟨.bl _, H, I', rfl, q⟩
theorem op_dnotin {X : Cx} (hu : X.A.units + 1 < cLine) : OpR X (compareOp .NotIn) (fun x y H Q => ∃ a o, y = .ref a ∧ DGet H a x o ∧ Q (.bl (!o.isSome)) H) := by
  intro pins s σ H x y v u Q I rx ry h
  obtain ⟨a, o, rfl, g, q⟩ := h
  cases ry
  exact d_notIn hu I g rx fun s' I' => ⟨.bl _, H, I', rfl, q⟩
theorem or_in {X : Cx} (hu : X.A.units + 1 < cLine) : OpR X (compareOp .In) (rInA X.K false) := op_in_seq.or (op_in_sign.or (op_din hu))
theorem or_nin {X : Cx} (hu : X.A.units + 1 < cLine) : OpR X (compareOp .NotIn) (rInA X.K true) := op_notIn_seq.or (op_notIn_sign.or (op_dnotin hu))
theorem in_any {x y : D} {b n : Bool} (S : SR K ρ st H) (rx : RD K ρ H x v) (ry : RD K ρ H y u) (e : opIn x y st = some b) (q : Q (.bl (if n then !b else b)) H) : rInA K n v u H Q := by
  unfold opIn at e
  split at e
  · split at e
    · rename_i c
      cases rx.str_inv; cases ry.str_inv
      cases e
      exact .inr (.inl ⟨_, _, rfl, rfl, by simpa using q⟩)
    · cases e
  · obtain ⟨a, vs, rfl, ha, ra⟩ := ry.tup_inv
    split at e
    · rename_i hf
      cases e
      exact .inl ⟨a, vs, rfl, .inr ha, flat_of (x := x) rx hf.1, flat_all ra hf.2, by rw [inF_V rx ra hf.1 hf.2]; exact q⟩
    · cases e
  · obtain ⟨a, vs, rfl, ha, ra⟩ := ry.kl_inv
    split at e
    · rename_i hf
      cases e
      exact .inl ⟨a, vs, rfl, .inl ha.sq, flat_of (x := x) rx hf.1, flat_all ra hf.2, by rw [inF_V rx ra hf.1 hf.2]; exact q⟩
    · cases e
  · obtain ⟨a, rfl, ea⟩ := ry.obj_inv
    split at e
    · rename_i ys hi
      obtain ⟨_, ea', vs, ha, ra⟩ := S.get hi
      rw [ea] at ea'; cases ea'
      split at e
      · rename_i hf
        cases e
        exact .inl ⟨a, vs, rfl, .inl (SqL.of ha), flat_of (x := x) rx hf.1, flat_all ra hf.2, by rw [inF_V rx ra hf.1 hf.2]; exact q⟩
      · cases e
    · rename_i kvs hi
      obtain ⟨_, ea', ws, ha, ra⟩ := S.get hi
      rw [ea] at ea'; cases ea'
      split at e
      · rename_i k hk
        cases e
        obtain ⟨g1, g2⟩ := look_V ra k
        cases key_V rx hk
        refine .inr (.inr ⟨a, valV ws (keyOf k), rfl, DGet.k ha, ?_⟩)
        cases hl : lookK kvs k with
        | none => rw [g2 hl]; rw [hl] at q; exact q
        | some d => obtain ⟨w, e1, _⟩ := g1 d hl; rw [e1]; rw [hl] at q; exact q
      · cases e
    · cases e
  · cases e
theorem b_in : TwoB K (fun x y s => cmpO .mem x y s) (rInA K false) := by
  intro ρ H st x y v u Q b S rx ry e q
  exact in_any S rx ry e q
theorem b_nin : TwoB K (fun x y s => cmpO .nmem x y s) (rInA K true) := by
  intro ρ H st x y v u Q b S rx ry e q
  simp only [cmpO, Option.map_eq_some_iff] at e
  obtain ⟨c, e, rfl⟩ := e
  exact in_any S rx ry e q
/-! ### is -/
def rIs (n : Bool) : R2 := fun x y H Q => (y = .non ∧ Q (.bl (if n then !decide (x = .non) else decide (x = .non))) H) ∨ ∃ a b : Bool, x = .bl a ∧ y = .bl b ∧ Q (.bl (if n then !decide (a = b) else decide (a = b))) H
theorem or_is {X : Cx} : OpR X (compareOp .Is) (rIs false) := op_isN.or op_isBl
theorem or_isn {X : Cx} : OpR X (compareOp .IsNot) (rIs true) := op_notN.or op_notBl
theorem is_any {x y : D} {b n : Bool} (rx : RD K ρ H x v) (ry : RD K ρ H y u) (e : opIs x y = some b) (q : Q (.bl (if n then !b else b)) H) : rIs n v u H Q := by
  unfold opIs at e
  split at e
  · cases ry; cases e
    refine .inl ⟨rfl, ?_⟩
    have : decide (v = .non) = decide (x = D.non) := by
      cases rx <;> simp
    rw [this]; exact q
  · split at e
    · cases rx; cases ry; cases e
      exact .inr ⟨_, _, rfl, rfl, q⟩
    · cases e
  · cases e
theorem b_is : TwoB K (fun x y s => cmpO .is x y s) (rIs false) := fun ρ H st x y v u Q b S rx ry e q => is_any rx ry e q
theorem b_isn : TwoB K (fun x y s => cmpO .isn x y s) (rIs true) := by
  intro ρ H st x y v u Q b S rx ry e q
  simp only [cmpO, Option.map_eq_some_iff] at e
  obtain ⟨c, e, rfl⟩ := e
  exact is_any rx ry e q
end
end Z

/-! ZFn: what a def promises, no repr running around; calls of such. -/
namespace Z
open PySem L2 PySem.Spec PyProof.Rows

/-- as the layer's promise of a def, where no guard runs -/
structure FnG (P : Program) (w : World) (K : PySem.W.Frag) (mg : Str → Option Value) (base : Heap) (CX : CXT) (k : Nat) (f : Addr) (fd : FuncData) (n : Nat) (ps : List Str) (sp : Sp) : Prop where
  len : ∀ vs H Q E, sp vs H Q E → vs.length = ps.length
  go : ∀ (A : Around) (outer : List Env) (s : Shared) (H : Hp) (args : Args) (us : List Value) (vs : List V) (Q : VK) (E : XK), Room k A → A.guards = some [] →
    Env0 P w K mg base A outer s H → BindsTo s fd args (ps.zip us) → Vals vs us → sp vs H Q E → codeAny (model P w) A (.call (.ref f) args) (CR CX outer P w H s Q E) s

section
variable {P : Program} {w : World} {K : PySem.W.Frag} {mg : Str → Option Value} {base : Heap} {CX : CXT} {k n : Nat} {f : Addr} {sp : Sp} {N ps : List Str} {qual name : Str}
/-- a def by its body -/
theorem fnG_of {params : Arguments} {body : List Stmt} {scope : Scope} {dV kV doc pm cdv ct oc : Value} {an od : Option Addr} {osl : Array (Option Value)}
    (lk : K.lookup f = some ⟨oc, od, .func (PySem.W.fnOf name qual params body scope dV kV doc pm an cdv ct), osl⟩) (hcd : PySem.W.codeIn K cdv qual = true) (S : FnScope N ps scope)
    (len : ∀ vs H Q E, sp vs H Q E → vs.length = ps.length)
    (body_ok : ∀ (A : Around) (outer : List Env) (s : Shared) (H : Hp) (vs : List V) (Q : VK) (E : XK), Room k (A.deeper (envOfC qual scope s.heap.objs.size f cdv)) → A.guards = some [] → sp vs H Q E →
      ∃ t, PSs (cxOf CX P w K mg base N qual scope f cdv A outer s H E) body t ∧ t { nx := fun _ H' => Q .non H', rt := Q } (start N vs) H) :
    FnG P w K mg base CX (k + 1) f (PySem.W.fnOf name qual params body scope dV kV doc pm an cdv ct) n ps sp := by
  constructor
  · exact len
  · intro A outer s H args us vs Q E room gd en bd vals prom
    have ln := len _ _ _ _ prom
    have keep0 : ∀ b o, base.get? b = some o → s.heap.get? b = some o := fun b o e => (en.bs b o e).1
    have inK : K.In s.heap := en.mod.kin.keeps keep0
    have par : ∀ y ∈ ps.zip us, scope.names.lookup y.1 = some .local ∨ (scope.names.lookup y.1 = some .cell ∧ ((cellsFrom (s.heap.objs.size + 1) scope.names []).lookup y.1).isSome = true) := by
      rintro ⟨n, v⟩ hy
      cases S.par n (List.of_mem_zip hy).1 with
      | inl q => exact .inl q
      | inr q => exact .inr ⟨q, PySem.W.cellsFrom_some _ _ _ (.inl q)⟩
    apply codeAny_call_function room.depth (inK _ _ lk) rfl S.co S.gen rfl (PySem.W.codeRec_of inK hcd)
    apply bd
    apply wpAny_newFunctionEnv_cells S.kind par
    intro env henv s1 inc
    subst henv
    constructor
    · exact (en.mod.nolimit.keeps keep0).keeps inc.toInCall.keep
    · apply codeAny_func
      obtain ⟨t, ht, hq⟩ := body_ok A outer s H vs Q E (room.deeper _) gd prom
      have I := inv_start (CX := CX) (cd := cdv) (qual := qual) (E := E) S room.hd en ln vals inc
      refine wpAny_mono (ht.run [] s1 (start N vs) H _ I hq) ?_ fun e s' hs => hs
      intro fl s' hs
      cases fl with
      | next => obtain ⟨σ', H', J, q⟩ := hs; exact ⟨.non, H', J.os, J.bare, J.base, J.hok, rfl, q⟩
      | brk => obtain ⟨_, _, _, q⟩ := hs; exact q.elim
      | cont => obtain ⟨_, _, _, q⟩ := hs; exact q.elim
      | ret u => obtain ⟨v, σ', H', J, rv, q⟩ := hs; exact ⟨v, H', J.os, J.bare, J.base, J.hok, rv, q⟩

variable {X : Cx} {fd : FuncData} {dvs : List V} {ds : List Value} {E : XK} {x : Str} {p pos : Pos} {e : Expr} {es : List Expr} {t : TA}
/-- the callee runs, its arguments bound as told -/
theorem runG {pins : List (Addr × Obj)} {σ : L2.St} {H : Hp} {s : Shared} {Q : VK} {as : Args} {us : List Value} {vs : List V} (F : FnG X.prog X.w X.K X.mg X.base CX k f fd n ps sp) (hr : Room k X.A) (hg : X.A.guards = some [])
    (hb : BindsTo s fd as (ps.zip us)) (hx : Passes CX X E) (I : Inv X pins σ H s) (r : Vals vs us) (h : sp vs H Q E) : codeAny (model X.prog X.w) X.A (.call (.ref f) as) (fun r s' => match r with
      | .ok (.ret u) => EP X pins σ Q u s'
      | .ok _ => False
      | .error e => X.xe e s') s := by
  refine codeAny_mono (F.go X.A X.stack s H as us vs Q E hr hg I.env0 hb r h) ?_
  intro r s' hq
  match r, hq with
  | .error e, hq => exact hx pins σ H s e s' I hq
  | .ok (.ret u), hq => exact I.after hq
  | .ok .next, hq => exact hq.elim
  | .ok .brk, hq => exact hq.elim
  | .ok .cont, hq => exact hq.elim
theorem runG_call {pins : List (Addr × Obj)} {σ : L2.St} {H : Hp} {s : Shared} {Q : VK} {us : List Value} {vs : List V} (F : FnG X.prog X.w X.K X.mg X.base CX k f fd n ps sp) (hr : Room k X.A) (hg : X.A.guards = some [])
    (hb : Binds X.K fd ps []) (hx : Passes CX X E) (I : Inv X pins σ H s) (r : Vals vs us) (h : sp vs H Q E) : wpAny (model X.prog X.w) X.A (call (.ref f) us) (EP X pins σ Q) X.xe s := by
  have hl : us.length = ps.length := by rw [← r.length]; exact F.len _ _ _ _ h
  have b0 : BindsTo s fd ⟨us, []⟩ (ps.zip us) := by
    have := hb s us I.kIn (by rw [List.append_nil]; exact hl)
    rwa [List.append_nil] at this
  refine wpAny_call (codeAny_mono (runG F hr hg b0 hx I r h) ?_)
  intro r s' hq
  match r, hq with
  | .error e, hq => exact hq
  | .ok (.ret u), hq => exact hq
  | .ok .next, hq => exact hq.elim
  | .ok .brk, hq => exact hq.elim
  | .ok .cont, hq => exact hq.elim
/-- f(e, ..) -/
theorem peG_call (F : FnG X.prog X.w X.K X.mg X.base CX k f fd n ps sp) (hr : Room k X.A) (hgd : X.A.guards = some []) (hg : Gl X x) (hm : X.mg x = some (.ref f)) (hk : PySem.W.keepIn X.K (.ref f) = true) (hb : Binds X.K fd ps []) (hx : Passes CX X E)
    (ha : PA X (e :: es) t) (hdb : (x == ("__debug__" : Str)) = false) (he : starEach (e :: es) X.env = (false, eval e X.env) :: starEach es X.env) (hpl : (backTo pos (starEach es X.env)).any (·.1) = false) :
    PE X (.Call (.Name x p) (e :: es) [] pos) (tCall sp [] E t) := by
  constructor
  intro pins s σ H Q I h
  apply wpAny_Call_Name_kw
  apply ld_glob I hg hm _ hdb
  refine PySem.W.callWith_K (h₀ := X.base) I.ok.mod.kin hk (thn (ha.run pos pins s σ H _ I h) ?_) he hpl
  rintro us s1 ⟨vs, H1, I1, r, q⟩
  rw [List.append_nil] at q
  exact ⟨I1.kIn, runG_call F hr hgd hb hx I1 r q⟩
/-- f(e, .., k = v, ..): what it binds is told behind the arguments -/
theorem peG_callK {ks : List Str} {kws : List Keyword} {tk : TA} (F : FnG X.prog X.w X.K X.mg X.base CX k f fd n ps sp) (hr : Room k X.A) (hgd : X.A.guards = some []) (hg : Gl X x) (hm : X.mg x = some (.ref f)) (hk : PySem.W.keepIn X.K (.ref f) = true) (hx : Passes CX X E)
    (ha : PA X (e :: es) t) (hkw : PK X kws tk) (hall : (backToKw pos (keywordEach kws X.env)).all (·.1.isSome) = true) (hks : (backToKw pos (keywordEach kws X.env)).filterMap (·.1) = ks)
    (hdb : (x == ("__debug__" : Str)) = false) (he : starEach (e :: es) X.env = (false, eval e X.env) :: starEach es X.env) (hpl : ((backTo pos (starEach (e :: es) X.env)).any (·.1) || (backToKw pos (keywordEach kws X.env)).any (·.1.isNone)) = false) :
    PE X (.Call (.Name x p) (e :: es) kws pos) (fun σ H Q => t σ H fun vs H1 => tk σ H1 fun zs H2 => ∃ vs2, (∀ (s : Shared) (us ws : List Value), X.K.In s.heap → Vals vs us → Vals zs ws → ∃ us2, Vals vs2 us2 ∧ BindsTo s fd ⟨us, ks.zip ws⟩ (ps.zip us2)) ∧ sp vs2 H2 Q E) := by
  constructor
  intro pins s σ H Q I h
  refine wpAny_Call_Name_kw (ld_glob I hg hm ?_ hdb)
  refine PySem.W.callWith_KW (h₀ := X.base) I.ok.mod.kin hk hall (thn (ha.run pos pins s σ H _ I h) fun us s1 ⟨vs, H1, I1, r, q⟩ => ?_) hpl he
  refine thn (hkw.run pos pins s1 σ H1 _ I1 q) fun ws s2 ⟨zs, H2, I2, rz, vs2, B, q2⟩ => ⟨I2.kIn, ?_⟩
  rw [hks]
  obtain ⟨us2, r2, b⟩ := B s2 us ws I2.kIn r rz
  refine wpAny_call (codeAny_mono (runG F hr hgd b hx I2 r2 q2) ?_)
  intro r s' hq
  match r, hq with
  | .error e, hq => exact hq
  | .ok (.ret u), hq => exact hq
  | .ok .next, hq => exact hq.elim
  | .ok .brk, hq => exact hq.elim
  | .ok .cont, hq => exact hq.elim
/-- f() -/
theorem peG_call0 (F : FnG X.prog X.w X.K X.mg X.base CX k f fd n ps sp) (hr : Room k X.A) (hgd : X.A.guards = some []) (hg : Gl X x) (hm : X.mg x = some (.ref f)) (hk : PySem.W.keepIn X.K (.ref f) = true) (hb : Binds X.K fd ps []) (hx : Passes CX X E)
    (hdb : (x == ("__debug__" : Str)) = false) : PE X (.Call (.Name x p) [] [] pos) (tCall sp [] E tNil) := by
  constructor
  intro pins s σ H Q I h
  apply wpAny_Call_Name_kw
  apply ld_glob I hg hm _ hdb
  exact PySem.W.callWith_K0 I.kIn hk (runG_call (us := []) F hr hgd hb hx I .nil h)
end

/-- the law's own call -/
theorem lawG {P : Program} {w : World} {K : PySem.W.Frag} {mg mb : Str → Option Value} {CX : CXT} {k n : Nat} {fa a : Addr} {fd : FuncData} {x : Str} {sp : Sp} {s₁ : Shared} {vs : List Value} {ns : List Int}
    (KX : K.In s₁.heap) (hns : s₁.heap.Ns mainGlobals mg) (hb : s₁.heap.Ns builtinsNs mb) (hbb : ∀ x : Str, x ≠ "__name__" → mb x = bootBuiltins x) (hlim : s₁.heap.NoLimit) (hgn : s₁.gens = #[])
    (ha : s₁.heap.get? a = some { cls := .type "list", data := .seq vs.toArray }) (hi : IntsAre vs ns) (hl : ns.length ≤ sizeLine) (hr : Room k callerA)
    (F : ∀ base : Heap, K.In base → base.Ns mainGlobals mg → FnG P w K mg base CX k fa fd n [x] sp) (hbind : ∀ (s : Shared) (u : Value), BindsTo s fd ⟨[u], []⟩ [(x, u)])
    (hsp : ∀ H : Hp, FL K H a (ns.map V.int) → sp [.ref a] H (fun v _ => v = .bl true) fun _ _ _ => False)
    (hCX : ∀ H e s', CX [] H s₁ (fun _ _ _ => False) e s' → False) :
    codeAny (model P w) callerA (.call (.ref fa) ⟨[.ref a], []⟩) (fun r s' => r = .ok (.ret (.bool true)) ∧ OldK s₁.heap s'.heap ∧ s'.os = s₁.os ∧ AllBare s'.gens) s₁ := by
  have rv := vals_ints hi
  have lenV := hi.length
  -- the script alone, or nothing, is tracked
  have main : ∀ H : Hp, (∀ b, H b = none ∨ ∃ o xs, H b = some (.frz o (.lst xs))) → FL K H a (ns.map V.int) → HOk P w H s₁.heap → (∀ b, H b ≠ none → b = a) → (H a ≠ none → K.lookup a = none) →
      codeAny (model P w) callerA (.call (.ref fa) ⟨[.ref a], []⟩) (fun r s' => r = .ok (.ret (.bool true)) ∧ OldK s₁.heap s'.heap ∧ s'.os = s₁.os ∧ AllBare s'.gens) s₁ := by
    intro H only fl hok only_a notK
    have free : ∀ {b : Addr} {o : Obj} {es : Array DictEntry} {ep : Nat}, s₁.heap.get? b = some o → o.data = .dict es ep → H b = none := by
      intro b o es ep e d
      by_cases q : H b = none
      · exact q
      · have := only_a b q
        subst this
        rw [ha] at e
        cases e
        cases (show Data.seq vs.toArray _ = Data.dict es ep from d)
    have ns' : ∀ {b : Addr} {m : Str → Option Value}, s₁.heap.Ns b m → (hidT s₁.heap H).Ns b m := by
      rintro b m ⟨o, es, ep, e, d, r⟩
      exact ⟨o, es, ep, hidT_get e (free e d), d, r⟩
    have inb : K.In (hidT s₁.heap H) := by
      intro b o e
      refine hidT_get (KX b o e) ?_
      by_cases q : H b = none
      · exact q
      · have := only_a b q
        subst this
        rw [notK q] at e
        cases e
    obtain ⟨mc, c1, c2⟩ := hlim
    have mod : Mod K mg (hidT s₁.heap H) := ⟨inb, ns' hns, ⟨mb, ns' hb, hbb⟩, ⟨mc, ns' c1, c2⟩⟩
    have env0 : Env0 P w K mg (hidT s₁.heap H) callerA [] s₁ H := ⟨rfl, mod, fun b o e => of_hidT e, Nat.le_of_eq (hidT_size _ _), trivial, (fun b hb => by cases hb), hok, .of_eq hgn⟩
    have run := (F _ inb (ns' hns)).go callerA [] s₁ H ⟨[.ref a], []⟩ [.ref a] [.ref a] _ _ hr rfl env0 (hbind s₁ (.ref a)) (.cons rfl .nil) (hsp H fl)
    refine codeAny_mono run ?_
    intro r s' h
    match r, h with
    | .error e, h => exact (hCX H e s' h).elim
    | .ok .next, h => exact h.elim
    | .ok .brk, h => exact h.elim
    | .ok .cont, h => exact h.elim
    | .ok (.ret u), ⟨v, H', os, bare, un, hok', r', q⟩ =>
      subst q
      cases (show u = Value.bool true from r')
      refine ⟨rfl, OldK.of_keep ?_, os, bare⟩
      intro b o e
      rcases only b with z | ⟨ob, xs, z⟩
      · exact un.keep b o e z (by intro y; cases y) (by simp)
      · obtain ⟨e1, _⟩ := hok b _ z
        obtain ⟨e2, _⟩ := hok' b _ (un.frzs b ob _ z)
        rw [e] at e1
        cases e1
        exact e2
  by_cases hk : K.lookup a = none
  · refine main (fun b => if b = a then some (.frz { cls := .type "list", data := .seq vs.toArray } (.lst (ns.map V.int))) else none) ?_ (.inl ⟨{ cls := .type "list", data := .seq vs.toArray }, by simp⟩) ?_ ?_ fun _ => hk
    · intro b
      by_cases h : b = a
      · exact .inr ⟨_, _, if_pos h⟩
      · exact .inl (by simp [h])
    · intro b u z
      by_cases h : b = a
      · subst h
        simp at z
        subst z
        exact ⟨ha, by rw [List.length_map]; exact hl, vs, _, rv, ha⟩
      · simp [h] at z
    · intro b z
      by_cases h : b = a
      · exact h
      · simp [h] at z
  · obtain ⟨o, ho⟩ := Option.ne_none_iff_exists'.mp hk
    have e := KX a o ho
    rw [ha] at e
    cases e
    refine main (fun _ => none) (fun _ => .inl rfl) (.inr ⟨_, vs.toArray, _, ho, rfl, rfl, rfl, by rw [List.size_toArray, lenV]; exact hl, by simpa using rv⟩) ?_ (fun b z => absurd rfl z) fun z => absurd rfl z
    intro b u z
    cases z
/-- the goal that the head leaves -/
theorem walkG {l : PySem.W.OpenLaw} {k m : Nat} {q : Program} {loose : List Str} {XP : (Str → Option Value) → Heap → Prop} {YP : World → Heap → Prop} {d : DefRec} {K : Params → PySem.W.Frag} {CX : World → CXT} {sp : World → Sp} {x : Str}
    (hn : l.most = some 63) (hdf : d.params.defaults = []) (hr : Room k callerA) (hY : ∀ (w : World) (h : Heap), YP w h → (K w.params).In h)
    (F : ∀ (w : World) (mg : Str → Option Value) (fa : Addr) (h : Heap), (K w.params).In h → h.Ns mainGlobals mg → mg d.name = some (.ref fa) →
      ∃ fd : FuncData, (∀ (s : Shared) (u : Value), BindsTo s fd ⟨[u], []⟩ [(x, u)]) ∧ ∀ base : Heap, (K w.params).In base → base.Ns mainGlobals mg → FnG l.prog w (K w.params) mg base (CX w) k fa fd m [x] (sp w))
    (hsp : ∀ (w : World) (H : Hp) (a : Addr) (ns : List Int), ns.length ≤ 63 → (∀ z ∈ ns, Builtin.Int.intBits z ≤ 1048576) → FL (K w.params) H a (ns.map V.int) → sp w [.ref a] H (fun v _ => v = .bl true) fun _ _ _ => False)
    (hCX : ∀ (w : World) (H : Hp) (s : Shared) (e : Value) (s' : Shared), CX w [] H s (fun _ _ _ => False) e s' → False) :
    PySem.W.WalkO q loose XP YP l.row.toRowW d [] (fun f vs => PySem.call f vs) := by
  apply Att.attach_callB hn hdf
  intro w s₀ s₁ mg mb fa o pm cd doc a vs ns G Y ho hd hcd hmg hobj hints hlen hbits hg
  have KX := hY w _ Y
  obtain ⟨fd, hb, hF⟩ := F w mg fa _ KX G.T.g hmg
  exact lawG KX G.T.g G.T.b G.T.builtins G.T.nolimit hg hobj hints (Nat.le_trans hlen (by decide)) hr hF hb (fun H fl => hsp w H a ns hlen hbits fl) fun H e s' => hCX w H s₁ e s'
end Z

/-! ZBi: items, slices, built-ins and methods on data are the hand layer's. -/
namespace Z
open PySem L2 PySem.Spec PyProof.Rows
section
variable {K : PySem.W.Frag} {E : XW K} {ρ ρ' ρ1 ρ2 ρ3 : List Addr} {H H' H1 H2 H3 : Hp} {d : D} {ds : List D} {v u : V} {vs : List V} {a p : Addr} {i : Nat} {l : Lo} {σ : L2.St} {st st1 st2 : Sto} {Q : VK}

theorem atI_of {xs : List D} {n : Int} (r : RDs K ρ H xs vs) (h : atI xs n = some d) : ∃ v, atI vs n = some v ∧ RD K ρ H d v := by
  unfold atI at h ⊢
  rw [r.length] at h
  cases e : ixN vs.length n with
  | none => rw [e] at h; cases h
  | some j => rw [e] at h; exact r.get h
theorem lst_of {x : D} {xs : List D} (S : SR K ρ st H) (r : RD K ρ H x v) (h : lst? st x = some xs) : ∃ a vs, v = .ref a ∧ SqL K H a vs ∧ RDs K ρ H xs vs := by
  unfold lst? at h
  split at h
  · cases h
    obtain ⟨a, vs, rfl, ha, ra⟩ := r.kl_inv
    exact ⟨a, vs, rfl, ha.sq, ra⟩
  · split at h
    · rename_i hi
      cases h
      obtain ⟨a, rfl, ea⟩ := r.obj_inv
      obtain ⟨_, ea', vs, ha, ra⟩ := S.get hi
      rw [ea] at ea'; cases ea'
      exact ⟨a, vs, rfl, SqL.of ha, ra⟩
    · cases h
  · cases h
theorem seq_of {x : D} {xs : List D} (S : SR K ρ st H) (r : RD K ρ H x v) (h : seq? st x = some xs) : ∃ a vs, v = .ref a ∧ (SqL K H a vs ∨ (SqT K H a vs ∧ x = .tup xs)) ∧ RDs K ρ H xs vs := by
  unfold seq? at h
  split at h
  · cases h
    obtain ⟨a, vs, rfl, ha, ra⟩ := r.tup_inv
    exact ⟨a, vs, rfl, .inr ⟨ha, rfl⟩, ra⟩
  · obtain ⟨a, vs, e, ha, ra⟩ := lst_of S r h
    exact ⟨a, vs, e, .inl ha, ra⟩

/-! ### items -/
def rIxA (K : PySem.W.Frag) : R2 := fun x y H Q => rIx K x y H Q ∨ ∃ a v, x = .ref a ∧ DGet H a y (some v) ∧ Q v H
theorem ix_dict {X : Cx} (hu : X.A.units + 1 < cLine) : IxR X (fun x y H Q => ∃ a v, x = .ref a ∧ DGet H a y (some v) ∧ Q v H) := by
  intro value slice pins s σ H x y v u Q I rx ry h hs
  obtain ⟨a, z, rfl, g, q⟩ := h
  cases rx
  have hT := dict_typeIs I g
  unfold subscriptTail
  refine wpAny_bind ?_
  rw [getitemInPython_of_ne hT.not_modules]
  refine wpAny_bind (wpAny_specialOf hT PySem.F.slot_dict_getitem.lookup ?_)
  have fin : wpAny (model X.prog X.w) X.A (subscripted slice false (.ref a) u) (fun r s₃ => wpAny (model X.prog X.w) X.A (letTemporaryGo value (.ref a) r >>= fun _ => pure r) (EP X pins σ Q) X.xe s₃) X.xe s := by
    rw [hs]
    refine wpAny_operating (d_getItem hu I g ry fun w' s' I' rw' => ?_)
    exact wpAny_bind (wpAny_letTemporaryGo (wpAny_pure ⟨z, H, I', rw', q⟩))
  first
    | exact wpAny_pure (wpAny_bind fin)
    | exact wpAny_bind (wpAny_pure (wpAny_bind fin))
    | exact wpAny_bind fin
theorem or_ix {X : Cx} (hu : X.A.units + 1 < cLine) : IxR X (rIxA X.K) := ix_seq.or (ix_dict hu)
theorem two_ix : Two K opIx (rIxA K) := by
  intro ρ H st x y v u Q F _ S rx ry h
  unfold opIx at h
  split at h
  · obtain ⟨a, vs, rfl, ha, ra⟩ := rx.tup_inv
    split at h
    · cases ry
      split at h
      · rename_i e
        obtain ⟨w, e1, r1⟩ := atI_of ra e
        exact .inl (.inr (.inl ⟨a, vs, _, w, rfl, rfl, ha, e1, h _ _ _ Wle.refl S r1⟩))
      · exact h.elim
    · exact h.elim
  · obtain ⟨a, vs, rfl, ha, ra⟩ := rx.kl_inv
    split at h
    · cases ry
      split at h
      · rename_i e
        obtain ⟨w, e1, r1⟩ := atI_of ra e
        exact .inl (.inl ⟨a, vs, _, w, rfl, rfl, ha.sq, e1, h _ _ _ Wle.refl S r1⟩)
      · exact h.elim
    · exact h.elim
  · cases rx.str_inv
    split at h
    · cases ry
      split at h
      · rename_i hl
        split at h
        · rename_i c e
          refine .inl (.inr (.inr ⟨_, _, c, rfl, rfl, by rw [← line_eq]; simpa [Str.length] using hl, e, h _ _ _ Wle.refl S (.str' rfl)⟩))
        · exact h.elim
      · exact h.elim
    · exact h.elim
  · obtain ⟨a, rfl, ea⟩ := rx.obj_inv
    split at h
    · rename_i xs hi
      obtain ⟨_, ea', vs, ha, ra⟩ := S.get hi
      rw [ea] at ea'; cases ea'
      split at h
      · cases ry
        split at h
        · rename_i e
          obtain ⟨w, e1, r1⟩ := atI_of ra e
          exact .inl (.inl ⟨a, vs, _, w, rfl, rfl, SqL.of ha, e1, h _ _ _ Wle.refl S r1⟩)
        · exact h.elim
      · exact h.elim
    · rename_i kvs hi
      obtain ⟨_, ea', ws, ha, ra⟩ := S.get hi
      rw [ea] at ea'; cases ea'
      split at h
      · rename_i k hk
        split at h
        · rename_i e
          obtain ⟨w, e1, r1⟩ := (look_V ra k).1 _ e
          cases key_V ry hk
          exact .inr ⟨a, w, rfl, by rw [← e1]; exact DGet.k ha, h _ _ _ Wle.refl S r1⟩
        · exact h.elim
      · exact h.elim
    · exact h.elim
  · exact h.elim

/-! ### slices -/
def rSl (K : PySem.W.Frag) : V → Option Int → Option Int → Hp → VK → Prop := fun x lo hi H Q => rSlA K x lo hi H Q ∨ rSlL K x lo hi H Q ∨ rSlS x lo hi H Q
theorem or_sl {X : Cx} : SlR X (rSl X.K) := sl_tupA.or (sl_list.or sl_str)
theorem RDs.cut {xs : List D} (r : RDs K ρ H xs vs) (lo hi : Option Int) : RDs K ρ H (cut xs lo hi) (cutV vs lo hi) := by
  unfold Z.cut cutV
  rw [r.length]
  exact (r.drop _).take _
theorem sl_any {x : D} {lo hi : Option Int} {F : D → Sto → Prop} (S : SR K ρ st H) (rx : RD K ρ H x v) (h : (opSl x lo hi st).post (Kont K ρ H Q) F) : rSl K v lo hi H Q := by
  unfold opSl at h
  split at h
  · rename_i xs
    obtain ⟨a, vs, rfl, ha, ra⟩ := rx.tup_inv
    refine .inl ⟨a, vs, rfl, ha, fun e => ?_, fun _ p hp => newT_post S (ra.cut lo hi) h hp⟩
    have : cut xs lo hi = xs := by
      unfold cut
      rw [ra.length, e.1, e.2, List.drop_zero, Nat.sub_zero, ← ra.length, List.take_length]
    rw [this] at h
    exact h _ _ _ Wle.refl S (.tup ha ra)
  · obtain ⟨a, vs, rfl, ha, ra⟩ := rx.kl_inv
    exact .inr (.inl ⟨a, vs, rfl, ha.sq, fun p hp => newL_post S (ra.cut lo hi) h hp⟩)
  · cases rx.str_inv
    split at h
    · rename_i hl
      refine .inr (.inr ⟨_, rfl, by rw [← line_eq]; simpa [Str.length] using hl, h _ _ _ Wle.refl S (.str' ?_)⟩)
      unfold cutS cut
      simp [Str.length]
    · exact h.elim
  · obtain ⟨a, rfl, ea⟩ := rx.obj_inv
    split at h
    · rename_i xs hi
      obtain ⟨_, ea', vs, ha, ra⟩ := S.get hi
      rw [ea] at ea'; cases ea'
      exact .inr (.inl ⟨a, vs, rfl, SqL.of ha, fun p hp => newL_post S (ra.cut lo _) h hp⟩)
    · exact h.elim
  · exact h.elim
end
end Z

/-! ZRev: x[::-1] of a tuple or a list. -/
namespace HT
open PySem PySem.Spec PyProof.Rows
section
variable {prog : Program} {w : World} {A : Around} {E : Value → Shared → Prop} {s : Shared}
theorem zAdjust (n : Nat) : Builtin.Slice.sliceAdjust none none (-1) (n : Int) = ((n : Int) - 1, -1) := by
  simp [Builtin.Slice.sliceAdjust]
theorem zPlaces (n : Nat) : Builtin.Slice.slicePlaces ((n : Int) - 1) (-1) (-1) = n := by
  unfold Builtin.Slice.slicePlaces
  rw [if_neg (by decide)]
  by_cases h : (n : Int) - 1 > -1
  · rw [if_pos h]
    have : ((n : Int) - 1 - -1 - 1) / (- -1) + 1 = (n : Int) := by
      rw [show (- -1 : Int) = 1 by decide, Int.ediv_one]
      omega
    rw [this, Int.toNat_natCast]
  · rw [if_neg h]
    omega
theorem zApplied {sl : Addr} {t : Tok} {n : Nat} {Q : Int × Int × Nat → Shared → Prop} (hs : s.heap.IsSliceOf sl .none .none (.int (-1) t)) (h : Q ((n : Int) - 1, -1, n) s) :
    wpAny (model prog w) A (Builtin.Slice.sliceApplied (.ref sl) (pure (n : Int))) Q E s := by
  obtain ⟨os, hos, hcs, hds⟩ := id hs
  unfold Builtin.Slice.sliceApplied Builtin.Slice.sliceFields
  refine wpAny_bind (wpAny_bind (wpAny_field hos hds (x := .none) rfl ?_))
  refine wpAny_bind (wpAny_field hos hds (x := .none) rfl ?_)
  refine wpAny_bind (wpAny_field hos hds (x := .int (-1) t) rfl (wpAny_pure ?_))
  refine wpAny_bind (slicePart_int ?_)
  show wpAny _ _ (if ((-1 : Int) == 0) = true then _ else _) _ _ s
  rw [if_neg (by decide)]
  refine wpAny_bind (slicePart_none (wpAny_bind (slicePart_none (wpAny_bind (wpAny_pure ?_)))))
  show wpAny _ _ (match Builtin.Slice.sliceAdjust none none (-1) (n : Int) with | (lo, hi) => pure (lo, (-1 : Int), Builtin.Slice.slicePlaces lo hi (-1))) _ _ s
  rw [zAdjust]
  show wpAny _ _ (pure ((n : Int) - 1, (-1 : Int), Builtin.Slice.slicePlaces ((n : Int) - 1) (-1) (-1))) _ _ s
  rw [zPlaces]
  exact wpAny_pure h
theorem zPick (xs : Array Value) : ((List.range xs.size).filterMap fun (m : Nat) => xs[(((xs.size : Int) - 1) + (m : Int) * (-1)).toNat]?).toArray = xs.toList.reverse.toArray := by
  congr 1
  have e : ∀ m ∈ List.range xs.size, xs[(((xs.size : Int) - 1) + (m : Int) * (-1)).toNat]? = xs.toList.reverse[m]? := by
    intro m hm
    have hm := List.mem_range.mp hm
    rw [List.getElem?_reverse (by simpa using hm)]
    have : (((xs.size : Int) - 1) + (m : Int) * (-1)).toNat = xs.toList.length - 1 - m := by
      rw [Array.length_toList]
      omega
    rw [this]
    simp
  have cong : ∀ (l : List Nat) (f g : Nat → Option Value), (∀ m ∈ l, f m = g m) → l.filterMap f = l.filterMap g := by
    intro l f g
    induction l with
    | nil => intro _; rfl
    | cons x l ih =>
      intro h
      rw [List.filterMap_cons, List.filterMap_cons, h x (by simp), ih fun m hm => h m (by simp [hm])]
  rw [cong _ _ _ e]
  have := PySem.W.krv_all xs.toList.reverse.toArray
  simpa using this
theorem getItem_tuple_rev {t sl : Addr} {items : Array Value} {tk : Tok} {Q : Value → Shared → Prop} (ht : IsTup s.heap t items) (hs : s.heap.IsSliceOf sl .none .none (.int (-1) tk))
    (h : Q (.ref s.heap.objs.size) { s with heap := s.heap.push { cls := .type "tuple", data := .seq items.toList.reverse.toArray } })
    (hsz : items.size ≤ sizeLine) : wpAny (model prog w) A (getItem (.ref t) (.ref sl)) Q E s := by
  have hz : sizeOk (.seq items.toList.reverse.toArray) := by
    show items.toList.reverse.toArray.size ≤ sizeLine
    simpa using hsz
  obtain ⟨os, hos, hcs, hds⟩ := id hs
  have hTs : s.TypeIs (.ref sl) "slice" := ⟨os, hos, hcs⟩
  unfold getItem
  try with_reducible refine wpAny_holding ?_
  first | refine wpAny_bind (wpAny_pure ?_) | skip
  refine wpAny_bind (wpAny_sequenceKey ht.typeIs (by decide) ?_)
  refine wpAny_bind (wpAny_callSpecial?_slot (name := Str.ofString "__getitem__") ht.typeIs PyProof.Rows.slot_tuple_getitem ?_)
  refine wpAny_call_entry PyProof.Rows.slot_tuple_getitem ht.typeIs entry_tuple_getitem ?_ (args_tuple_getitem _ _)
  show wpAny _ _ (Builtin.Tuple.tupleItemsOf (.ref t) >>= _) _ _ s
  refine wpAny_bind (tupleItemsOf_ ht ?_)
  refine wpAny_bind (wpAny_typeOf hTs ?_)
  rw [if_pos (by decide)]
  refine wpAny_bind (zApplied hs ?_)
  show wpAny _ _ (if (((items.size : Int) - 1) == 0 && (-1 : Int) == 1 && items.size == items.size) = true then _ else _) _ _ s
  rw [if_neg (by simp), zPick]
  first
    | exact wpAny_bind (m := Builtin.Tuple.tupleExact _) (wpAny_newObj_type (wpAny_pure ⟨_, rfl, wpAny_pure h⟩) hz)
    | exact wpAny_bind (wpAny_bind (m := Builtin.Tuple.tupleExact _) (wpAny_newObj_type (wpAny_pure (wpAny_pure ⟨_, rfl, wpAny_pure h⟩)) hz))
    | exact wpAny_bind (m := Builtin.Tuple.tupleExact _) (wpAny_newObj_type (wpAny_bind (wpAny_pure (wpAny_pure ⟨_, rfl, wpAny_pure h⟩))) hz)
    | exact wpAny_bind (wpAny_bind (m := Builtin.Tuple.tupleExact _) (wpAny_newObj_type (wpAny_pure ⟨_, rfl, wpAny_pure h⟩) hz))
end
end HT
namespace Z
open PySem L2 PySem.Spec PyProof.Rows
section
variable {X : Cx}
/-- x[::-1], of a list or a tuple -/
def tRev (K : PySem.W.Frag) (te : TE) : TE := fun σ H Q => te σ H fun x H1 => ∃ a xs, x = .ref a ∧ ((SqL K H1 a xs ∧ ∀ p, H1 p = none → Q (.ref p) (upd H1 p (.lst xs.reverse))) ∨ (SqT K H1 a xs ∧ ∀ p, H1 p = none → Q (.ref p) (upd H1 p (.tup xs.reverse))))
theorem pe_rev {e : Expr} {te : TE} {k : Nat} {p1 p2 p3 pos : Pos} (he : PE X e te) : PE X (.Subscript e (.Slice none none (some (.UnaryOp .USub (.Constant (.int 1) k p1) p2)) p3) pos) (tRev X.K te) := by
  constructor
  intro pins s σ H Q I h
  refine Subscript_ (thn (he.run pins s σ H _ I h) ?_)
  rintro v s1 ⟨x, H1, I1, r1, a, xs, ex, q⟩
  subst ex
  cases r1
  have step : PO X (some (.UnaryOp .USub (.Constant (.int 1) k p1) p2)) (tPart (tUn (rU fun i => .int (-i)) (tC (.int 1)))) := po_some (pe_un un_neg pe_int)
  refine wpAny_Slice (thn (po_none.run pins s1 σ H1 (fun o H2 => o = none ∧ H2 = H1) I1 ⟨rfl, rfl⟩) ?_)
  rintro vl s2 ⟨l, H2, I2, pl, el, e2⟩
  subst el e2
  refine thn (po_none.run pins s2 σ H2 (fun o H3 => o = none ∧ H3 = H2) I2 ⟨rfl, rfl⟩) ?_
  rintro vu s3 ⟨u, H3, I3, pu, eu, e3⟩
  subst eu e3
  refine thn (step.run pins s3 σ H3 (fun o H4 => o = some (-1) ∧ H4 = H3) I3 ⟨1, rfl, -1, rfl, rfl, rfl⟩) ?_
  rintro vs s4 ⟨o, H4, I4, ps, eo, e4⟩
  subst eo e4
  have I5 : Inv X pins σ H4 { s4 with heap := s4.heap.push { cls := .type "slice", data := .fields #[vl, vu, vs] } } := I4.kept (t' := s4.toks) fun b ob q => Heap.get?_push_of_some _ q
  show wpAny (model X.prog X.w) X.A (subscriptTail e (.Slice none none (some (.UnaryOp .USub (.Constant (.int 1) k p1) p2)) p3) (.ref a) (.ref s4.heap.objs.size)) (EP X pins σ Q) X.xe { s4 with heap := s4.heap.push { cls := .type "slice", data := .fields #[vl, vu, vs] } }
  rcases q with ⟨hx, q⟩ | ⟨hx, q⟩
  · obtain ⟨its, r, ht, hz⟩ := I5.list hx
    have hlen := r.length
    refine tail_any (ops := [.ref a, .ref s4.heap.objs.size]) ht.isList.typeIs (PySem.slot_list_getitem.lookup) ?_ (by with_unfolding_all rfl)
    refine wpAny_getItem_list_slice ht.isList (Heap.IsSliceOf.new _ vl vu vs) pl pu ps (by decide) ?_ (by rw [List.size_toArray]; omega)
    rw [PySem.W.krv_pick]
    refine ⟨.ref _, _, I5.laid (t' := s4.toks) (o := .lst xs.reverse) (fun b ob q => Heap.get?_push_of_some _ q) (Nat.le_refl _) ?_, rfl, q _ (I5.hok.fresh (Nat.le_refl _))⟩
    exact ⟨by rw [List.length_reverse]; exact hz, _, 0, r.reverse, Heap.get?_push_size _ rfl⟩
  · obtain ⟨its, r, ht, hz⟩ := I5.tuple hx
    have hlen := r.length
    refine tail_any (ops := [.ref a, .ref s4.heap.objs.size]) ht.typeIs slot_tuple_getitem.lookup ?_ (by with_unfolding_all rfl)
    cases pl
    cases pu
    generalize hv : (some (-1) : Option Int) = w at ps
    cases ps with
    | none => cases hv
    | int i t =>
      cases hv
      refine HT.getItem_tuple_rev ht (Heap.IsSliceOf.new _ _ _ _) ?_ (by rw [List.size_toArray]; omega)
      refine ⟨.ref _, _, I5.laid (t' := s4.toks) (o := .tup xs.reverse) (fun b ob q => Heap.get?_push_of_some _ q) (Nat.le_refl _) ?_, rfl, q _ (I5.hok.fresh (Nat.le_refl _))⟩
      exact ⟨by rw [List.length_reverse]; exact hz, _, r.reverse, ⟨_, Heap.get?_push_size _ rfl, rfl, _, rfl⟩⟩
end
end Z

/-! ZBj: built-ins and methods. -/
namespace Z
open PySem L2 PySem.Spec PyProof.Rows
section
variable {K : PySem.W.Frag} {E : XW K} {ρ ρ' ρ1 ρ2 ρ3 : List Addr} {H H' H1 H2 H3 : Hp} {d : D} {ds : List D} {v u : V} {vs : List V} {a p : Addr} {i : Nat} {l : Lo} {σ : L2.St} {st st1 st2 : Sto} {Q : VK}
abbrev RC := List V → Hp → VK → Prop
/-- a built-in on data -/
def Cal (K : PySem.W.Frag) (k : List D → Sto → R D) (r : RC) : Prop := ∀ (ρ : List Addr) (H : Hp) (st : Sto) (xs : List D) (vs : List V) (Q : VK) (F : D → Sto → Prop), SR K ρ st H → RDs K ρ H xs vs → (k xs st).post (Kont K ρ H Q) F → r vs H Q
/-- of one argument -/
theorem cal1 {b : Bi} {r : RC} (h : ∀ (ρ : List Addr) (H : Hp) (st : Sto) (x : D) (v : V) (Q : VK) (F : D → Sto → Prop), SR K ρ st H → RD K ρ H x v → (bi1 b x st).post (Kont K ρ H Q) F → r [v] H Q) (h2 : ∀ x y s, bi2 b x y s = .bad) : Cal K (biF b) r := by
  intro ρ H st xs vs Q F S rs hq
  unfold biF at hq
  split at hq
  · cases rs with | cons r1 r2 => cases r2; exact h ρ H st _ _ Q F S r1 hq
  · rw [h2] at hq; exact hq.elim
  · exact hq.elim
theorem cal2 {b : Bi} {r : RC} (h : ∀ (ρ : List Addr) (H : Hp) (st : Sto) (x y : D) (v u : V) (Q : VK) (F : D → Sto → Prop), SR K ρ st H → RD K ρ H x v → RD K ρ H y u → (bi2 b x y st).post (Kont K ρ H Q) F → r [v, u] H Q) (h2 : ∀ x s, bi1 b x s = .bad) : Cal K (biF b) r := by
  intro ρ H st xs vs Q F S rs hq
  unfold biF at hq
  split at hq
  · rw [h2] at hq; exact hq.elim
  · cases rs with | cons r1 r2 => cases r2 with | cons r2 r3 => cases r3; exact h ρ H st _ _ _ _ Q F S r1 r2 hq
  · exact hq.elim
theorem cal_len : Cal K (biF .len) (fun xs H Q => ∃ x n, xs = [x] ∧ LenV K x H n ∧ Q (.int n) H) := by
  refine cal1 (fun ρ H st x v Q F S r h => ?_) fun _ _ _ => rfl
  simp only [bi1, bLen] at h
  split at h
  · cases r.str_inv
    split at h
    · rename_i hl
      exact ⟨_, _, rfl, ⟨by rw [← line_eq]; simpa [Str.length] using hl, rfl⟩, by have := h _ _ _ Wle.refl S (.int _); simpa [Str.length] using this⟩
    · exact h.elim
  · obtain ⟨a, vs, rfl, ha, ra⟩ := r.tup_inv
    exact ⟨_, vs.length, rfl, .inr ⟨vs, ha, rfl⟩, by rw [← ra.length]; exact h _ _ _ Wle.refl S (.int _)⟩
  · obtain ⟨a, vs, rfl, ha, ra⟩ := r.kl_inv
    exact ⟨_, vs.length, rfl, .inl ⟨vs, ha.sq, rfl⟩, by rw [← ra.length]; exact h _ _ _ Wle.refl S (.int _)⟩
  · obtain ⟨a, rfl, ea⟩ := r.obj_inv
    split at h
    · rename_i xs hi
      obtain ⟨_, ea', vs, ha, ra⟩ := S.get hi
      rw [ea] at ea'; cases ea'
      exact ⟨_, vs.length, rfl, .inl ⟨vs, SqL.of ha, rfl⟩, by rw [← ra.length]; exact h _ _ _ Wle.refl S (.int _)⟩
    · exact h.elim
  · exact h.elim
theorem cal_abs : Cal K (biF .abs) (fun xs H Q => ∃ i, xs = [.int i] ∧ Q (.int (if i < 0 then -i else i)) H) := by
  refine cal1 (fun ρ H st x v Q F S r h => ?_) fun _ _ _ => rfl
  simp only [bi1] at h
  split at h
  · cases r; exact ⟨_, rfl, h _ _ _ Wle.refl S (.int _)⟩
  · exact h.elim
theorem cal_int : Cal K (biF .int) (fun xs H Q => (∃ i, xs = [.int i] ∧ Q (.int i) H) ∨ ∃ k, xs = [.bl k] ∧ Q (.int (if k then 1 else 0)) H) := by
  refine cal1 (fun ρ H st x v Q F S r h => ?_) fun _ _ _ => rfl
  simp only [bi1] at h
  split at h
  · cases r; exact .inl ⟨_, rfl, h _ _ _ Wle.refl S (.int _)⟩
  · cases r; exact .inr ⟨_, rfl, h _ _ _ Wle.refl S (.int _)⟩
  · exact h.elim
theorem bls_of : ∀ {xs : List D} {vs : List V} {bs : List Bool}, RDs K ρ H xs vs → bls? xs = some bs → vs = bs.map V.bl
  | [], _, _, r, e => by cases r; cases e; rfl
  | .bl b :: xs, _, bs, r, e => by
    cases r with
    | cons r1 r2 =>
      simp only [bls?, Option.map_eq_some_iff] at e
      obtain ⟨cs, e, rfl⟩ := e
      cases r1
      rw [bls_of r2 e]
      rfl
  | .non :: _, _, _, _, e => by cases e
  | .int _ :: _, _, _, _, e => by cases e
  | .str _ :: _, _, _, _, e => by cases e
  | .tup _ :: _, _, _, _, e => by cases e
  | .kl _ :: _, _, _, _, e => by cases e
  | .obj _ :: _, _, _, _, e => by cases e
theorem ints_of : ∀ {xs : List D} {vs : List V} {bs : List Int}, RDs K ρ H xs vs → ints? xs = some bs → vs = bs.map V.int
  | [], _, _, r, e => by cases r; cases e; rfl
  | .int b :: xs, _, bs, r, e => by
    cases r with
    | cons r1 r2 =>
      simp only [ints?, Option.map_eq_some_iff] at e
      obtain ⟨cs, e, rfl⟩ := e
      cases r1
      rw [ints_of r2 e]
      rfl
  | .non :: _, _, _, _, e => by cases e
  | .bl _ :: _, _, _, _, e => by cases e
  | .str _ :: _, _, _, _, e => by cases e
  | .tup _ :: _, _, _, _, e => by cases e
  | .kl _ :: _, _, _, _, e => by cases e
  | .obj _ :: _, _, _, _, e => by cases e
theorem cal_all : Cal K (biF .all) (rAll K) := by
  refine cal1 (fun ρ H st x v Q F S r h => ?_) fun _ _ _ => rfl
  simp only [bi1] at h
  split at h
  · rename_i xs e
    obtain ⟨a, vs, rfl, ha, ra⟩ := lst_of S r e
    split at h
    · rename_i bs e2
      cases bls_of ra e2
      exact ⟨a, bs, rfl, ha, h _ _ _ Wle.refl S (.bl _)⟩
    · exact h.elim
  · exact h.elim
theorem cal_any : Cal K (biF .any) (rAny K) := by
  refine cal1 (fun ρ H st x v Q F S r h => ?_) fun _ _ _ => rfl
  simp only [bi1] at h
  split at h
  · rename_i xs e
    obtain ⟨a, vs, rfl, ha, ra⟩ := lst_of S r e
    split at h
    · rename_i bs e2
      cases bls_of ra e2
      exact ⟨a, bs, rfl, ha, h _ _ _ Wle.refl S (.bl _)⟩
    · exact h.elim
  · exact h.elim
theorem cal_sum : Cal K (biF .sum) (rSum K) := by
  refine cal1 (fun ρ H st x v Q F S r h => ?_) fun _ _ _ => rfl
  simp only [bi1] at h
  split at h
  · rename_i xs e
    obtain ⟨a, vs, rfl, ha, ra⟩ := lst_of S r e
    split at h
    · rename_i bs e2
      cases ints_of ra e2
      exact ⟨a, bs, rfl, ha, h _ _ _ Wle.refl S (.int _)⟩
    · exact h.elim
  · exact h.elim
theorem vals_signs : ∀ {zs : List Nat} {us : List Value}, us.length = zs.length → (∀ (j : Nat) v, us[j]? = some v → ∃ c u, zs[j]? = some c ∧ v = Value.str ⟨#[c]⟩ u) → Vals (zs.map fun c => V.str ⟨#[c]⟩) us
  | [], [], _, _ => .nil
  | [], _ :: _, h, _ => by simp at h
  | _ :: _, [], h, _ => by simp at h
  | c :: zs, v :: us, h, g => by
    obtain ⟨c', u, e1, e2⟩ := g 0 v rfl
    cases e1
    subst e2
    exact .cons ⟨u, rfl⟩ (vals_signs (by simpa using h) fun j v e => g (j + 1) v e)
def rListS : RC := fun xs H Q => ∃ z : Str, xs = [.str z] ∧ z.length ≤ sizeLine ∧ ∀ l, H l = none → Q (.ref l) (upd H l (.lst (z.cps.toList.map fun c => V.str ⟨#[c]⟩)))
theorem call_listS {X : Cx} (hc : X.calm = true) : CallR X (.type "list") rListS := by
  intro pins s σ H xs us Q I r h
  obtain ⟨z, rfl, hz, q⟩ := h
  cases r with
  | cons r1 r2 =>
    cases r2
    obtain ⟨t, rfl⟩ := r1
    refine call_list_str (I.ok.hd hc) z t (fun h' tk acc' c' kp e hit => ?_) hz
    have hv : Vals (z.cps.toList.map fun c => V.str ⟨#[c]⟩) acc'.toList := vals_signs (by simpa using hit.1) fun j v hj => by
      obtain ⟨c, u, e1, e2⟩ := hit.2 j v (by simpa using hj)
      exact ⟨c, u, by simpa using e1, e2⟩
    have e' : h'.get? s.heap.objs.size = some { cls := .type "list", dict := none, data := .seq acc'.toList.toArray c', slots := #[] } := by simpa using e
    have hz2 : (z.cps.toList.map fun c => V.str ⟨#[c]⟩).length ≤ sizeLine := by rw [List.length_map]; simpa [Str.length] using hz
    exact ⟨.ref s.heap.objs.size, _, I.laid (t' := tk) kp (Nat.le_refl _) (show ObjOk X.prog X.w _ h' _ (.lst _) from ⟨hz2, acc'.toList, c', hv, e'⟩), rfl, q _ (I.hok.fresh (Nat.le_refl _))⟩
theorem rds_signs : ∀ z : List Nat, RDs K ρ H (z.map fun c => D.str [c]) (z.map fun c => V.str ⟨#[c]⟩)
  | [] => .nil
  | c :: z => .cons (.str' rfl) (rds_signs z)
theorem cal_list : Cal K (biF .list) (fun xs H Q => (∃ p ys, xs = [.ref p] ∧ (SqL K H p ys ∨ SqT K H p ys) ∧ ∀ l, H l = none → Q (.ref l) (upd H l (.lst ys))) ∨ rListS xs H Q) := by
  refine cal1 (fun ρ H st x v Q F S r h => ?_) fun _ _ _ => rfl
  simp only [bi1] at h
  split at h
  · cases r.str_inv
    split at h
    · rename_i hl
      refine .inr ⟨_, rfl, by rw [← line_eq]; simpa [Str.length] using hl, fun l hl => ?_⟩
      have := newL_post S (rds_signs _) h hl
      simpa using this
    · exact h.elim
  · split at h
    · rename_i xs e
      obtain ⟨a, vs, rfl, ha, ra⟩ := seq_of S r e
      exact .inl ⟨a, vs, rfl, ha.imp id (·.1), fun l hl => newL_post S ra h hl⟩
    · exact h.elim
theorem cal_tuple : Cal K (biF .tuple) (fun xs H Q => ∃ p ys, xs = [.ref p] ∧ ((SqL K H p ys ∧ ∀ l, H l = none → Q (.ref l) (upd H l (.tup ys))) ∨ (SqT K H p ys ∧ Q (.ref p) H))) := by
  refine cal1 (fun ρ H st x v Q F S r h => ?_) fun _ _ _ => rfl
  simp only [bi1] at h
  split at h
  · rename_i xs e
    obtain ⟨a, vs, rfl, ha, ra⟩ := seq_of S r e
    rcases ha with ha | ⟨ha, rfl⟩
    · exact ⟨a, vs, rfl, .inl ⟨ha, fun p hp => newT_post S ra h hp⟩⟩
    · exact ⟨a, vs, rfl, .inr ⟨ha, h _ _ _ Wle.refl S (.tup ha ra)⟩⟩
  · exact h.elim
theorem cal_ord : Cal K (biF .ord) (fun xs H Q => ∃ x, xs = [.str x] ∧ x.length = 1 ∧ Q (.int (x.cps.getD 0 0 : Nat)) H) := by
  refine cal1 (fun ρ H st x v Q F S r h => ?_) fun _ _ _ => rfl
  simp only [bi1] at h
  split at h
  · cases r.str_inv; exact ⟨_, rfl, rfl, h _ _ _ Wle.refl S (.int _)⟩
  · exact h.elim
theorem cal_chr : Cal K (biF .chr) (fun xs H Q => ∃ i, xs = [.int i] ∧ 0 ≤ i ∧ i ≤ 1114111 ∧ Q (.str ⟨#[i.toNat]⟩) H) := by
  refine cal1 (fun ρ H st x v Q F S r h => ?_) fun _ _ _ => rfl
  simp only [bi1] at h
  split at h
  · cases r
    split at h
    · rename_i hc
      exact ⟨_, rfl, hc.1, hc.2, h _ _ _ Wle.refl S (.str' rfl)⟩
    · exact h.elim
  · exact h.elim
theorem cal_str : Cal K (biF .str) (fun xs H Q => ∃ i, xs = [.int i] ∧ i.natAbs.log2 < 1920 ∧ Q (.str (toString i)) H) := by
  refine cal1 (fun ρ H st x v Q F S r h => ?_) fun _ _ _ => rfl
  simp only [bi1] at h
  split at h
  · cases r
    split at h
    · rename_i hc
      exact ⟨_, rfl, hc, h _ _ _ Wle.refl S (.str _)⟩
    · exact h.elim
  · exact h.elim
theorem cal_divmod : Cal K (biF .divmod) (fun xs H Q => ∃ i j, xs = [.int i, .int j] ∧ CDiv i j ∧ ∀ p, H p = none → Q (.ref p) (upd H p (.tup [.int (i / j), .int (i % j)]))) := by
  refine cal2 (fun ρ H st x y v u Q F S r r2 h => ?_) fun _ _ => rfl
  simp only [bi2] at h
  split at h
  · cases r; cases r2
    split at h
    · rename_i hc
      exact ⟨_, _, rfl, hc, fun p hp => newT_post S (.cons (.int _) (.cons (.int _) .nil)) h hp⟩
    · exact h.elim
  · exact h.elim
theorem cal_min : Cal K (biF .min) (fun xs H Q => ∃ i j, xs = [.int i, .int j] ∧ Q (.int (if j < i then j else i)) H) := by
  refine cal2 (fun ρ H st x y v u Q F S r r2 h => ?_) fun _ _ => rfl
  simp only [bi2] at h
  split at h
  · cases r; cases r2
    exact ⟨_, _, rfl, h _ _ _ Wle.refl S (.int _)⟩
  · exact h.elim
theorem cal_max : Cal K (biF .max) (fun xs H Q => ∃ i j, xs = [.int i, .int j] ∧ Q (.int (if j > i then j else i)) H) := by
  refine cal2 (fun ρ H st x y v u Q F S r r2 h => ?_) fun _ _ => rfl
  simp only [bi2] at h
  split at h
  · cases r; cases r2
    exact ⟨_, _, rfl, h _ _ _ Wle.refl S (.int _)⟩
  · exact h.elim

end
/-! ### repr -/
mutual
/-- what is read, dicts elsewhere than the modules' own -/
inductive RS (h : Heap) : Value → PyData → Prop
  | none : RS h .none .none
  | bool (b : Bool) : RS h (.bool b) (.bool b)
  | int (i : Int) (t : Tok) : RS h (.int i t) (.int i)
  | str (x : Str) (t : Tok) : RS h (.str x t) (.str x)
  | list {a : Addr} {o : Obj} {vs : Array Value} {n : Nat} {xs : List PyData} : h.get? a = some o → o.cls = .type "list" → o.data = .seq vs n → RSs h vs.toList xs → RS h (.ref a) (.list xs)
  | tuple {a : Addr} {o : Obj} {vs : Array Value} {n : Nat} {xs : List PyData} : h.get? a = some o → o.cls = .type "tuple" → o.data = .seq vs n → RSs h vs.toList xs → RS h (.ref a) (.tuple xs)
  | dict {a : Addr} {o : Obj} {es : Array DictEntry} {n : Nat} {kvs : List (PyData × PyData)} : h.get? a = some o → o.cls = .type "dict" → o.data = .dict es n → (a == sysModules) = false → RSs h (es.toList.map (·.key)) (kvs.map (·.1)) → RSs h (es.toList.map (·.val)) (kvs.map (·.2)) → RS h (.ref a) (.dict kvs)
inductive RSs (h : Heap) : List Value → List PyData → Prop
  | nil : RSs h [] []
  | cons {v : Value} {vs : List Value} {d : PyData} {ds : List PyData} : RS h v d → RSs h vs ds → RSs h (v :: vs) (d :: ds)
end
mutual
theorem RS.reads {h : Heap} : ∀ {v : Value} {d : PyData}, RS h v d → ∃ as, Reads h v d as
  | _, _, .none => ⟨_, .none⟩
  | _, _, .bool b => ⟨_, .bool b⟩
  | _, _, .int i t => ⟨_, .int i t⟩
  | _, _, .str x t => ⟨_, .str x t⟩
  | _, _, .list h1 h2 h3 h4 => let ⟨_, r⟩ := RSs.reads h4; ⟨_, .list h1 h2 h3 r⟩
  | _, _, .tuple h1 h2 h3 h4 => let ⟨_, r⟩ := RSs.reads h4; ⟨_, .tuple h1 h2 h3 r⟩
  | _, _, .dict h1 h2 h3 _ h4 h5 => let ⟨_, r⟩ := RSs.reads h4; let ⟨_, q⟩ := RSs.reads h5; ⟨_, .dict h1 h2 h3 r q⟩
theorem RSs.reads {h : Heap} : ∀ {vs : List Value} {ds : List PyData}, RSs h vs ds → ∃ as, ReadsAll h vs ds as
  | _, _, .nil => ⟨_, .nil⟩
  | _, _, .cons a b => let ⟨_, r⟩ := RS.reads a; let ⟨_, q⟩ := RSs.reads b; ⟨_, .cons r q⟩
end
section
variable {prog : Program} {w : World} {h : Heap}
mutual
theorem RS.rp : ∀ {v : Value} {d : PyData}, RS h v d → d.showable = true → d.shown.length ≤ sizeLine → ∃ bs, ReadAtMost h d.depth bs ∧ ReprK prog w bs h d.depth v d.shown
  | _, _, .none, _, _ => ⟨[], (fun _ z => nomatch z), by simp only [PyData.shown]; exact .of_is ReprIs.none _ _ _⟩
  | _, _, .bool b, _, _ => ⟨[], (fun _ z => nomatch z), by simp only [PyData.shown]; exact .of_is (ReprIs.bool b) _ _ _⟩
  | _, _, .int i t, hs, _ => ⟨[], (fun _ z => nomatch z), by simp only [PyData.shown]; exact .of_is (ReprIs.int t (by simpa [PyData.showable] using hs)) _ _ _⟩
  | _, _, .str x t, _, hz => ⟨[], (fun _ z => nomatch z), by simp only [PyData.shown]; exact .of_is (ReprIs.str x t (by simpa only [PyData.shown] using hz)) _ _ _⟩
  | _, _, .list (a := a) (vs := vs) (xs := xs) h1 h2 h3 h4, hs, hz => by
    have z : (listText (PyData.shownAll xs)).length ≤ sizeLine := by simpa only [PyData.shown] using hz
    obtain ⟨bs, hb, hk⟩ := RSs.rp h4 (by simpa [PyData.showable] using hs) fun t ht => Nat.le_trans (listText_mem_le ht) z
    obtain ⟨as, r⟩ := RS.reads (.list h1 h2 h3 h4)
    have na : a ∉ bs := not_mem_of_deeper r (by simp only [PyData.depth]; omega) hb
    refine ⟨a :: bs, ReadAtMost.cons r (by simp only [PyData.depth]; omega) hb, ?_⟩
    simp only [PyData.depth, PyData.shown]
    obtain ⟨l⟩ := vs
    cases l with
    | nil =>
      have h5 : RSs h [] xs := h4
      cases h5
      simp only [PyData.shownAll, listText_nil]
      exact ReprK.listEmpty h1 h2 h3
    | cons x l => exact ReprK.list h1 h2 h3 na (by simpa using hk.length_eq) fun i y e => hk.item i y (by simpa using e)
  | _, _, .tuple (a := a) (xs := xs) h1 h2 h3 h4, hs, hz => by
    have z : (tupleText (PyData.shownAll xs)).length ≤ sizeLine := by simpa only [PyData.shown] using hz
    obtain ⟨bs, hb, hk⟩ := RSs.rp h4 (by simpa [PyData.showable] using hs) fun t ht => Nat.le_trans (tupleText_mem_le ht) z
    obtain ⟨as, r⟩ := RS.reads (.tuple h1 h2 h3 h4)
    have na : a ∉ bs := not_mem_of_deeper r (by simp only [PyData.depth]; omega) hb
    refine ⟨a :: bs, ReadAtMost.cons r (by simp only [PyData.depth]; omega) hb, ?_⟩
    simp only [PyData.depth, PyData.shown]
    exact ReprK.tuple h1 h2 h3 na hk
  | _, _, .dict (a := a) (es := es) (kvs := kvs) h1 h2 h3 hsys h4 h5, hs, hz => by
    have z : (dictText (PyData.shownKv kvs)).length ≤ sizeLine := by simpa only [PyData.shown] using hz
    obtain ⟨s1, s2⟩ := PyData.showableKv_split kvs (by simpa [PyData.showable] using hs)
    obtain ⟨b1, m1, k1⟩ := RSs.rp h4 s1 fun t ht => let ⟨p, hp, hl⟩ := PyData.shownKv_key_le kvs t ht; Nat.le_trans hl (Nat.le_trans (dictText_mem_le hp) z)
    obtain ⟨b2, m2, k2⟩ := RSs.rp h5 s2 fun t ht => let ⟨p, hp, hl⟩ := PyData.shownKv_val_le kvs t ht; Nat.le_trans hl (Nat.le_trans (dictText_mem_le hp) z)
    obtain ⟨as, r⟩ := RS.reads (.dict h1 h2 h3 hsys h4 h5)
    have hb : ReadAtMost h (PyData.depthKv kvs) (b1 ++ b2) := (m1.mono (PyData.depthAll_keys_le kvs)).append (m2.mono (PyData.depthAll_vals_le kvs))
    have na : a ∉ b1 ++ b2 := not_mem_of_deeper r (by simp only [PyData.depth]; omega) hb
    refine ⟨a :: (b1 ++ b2), ReadAtMost.cons r (by simp only [PyData.depth]; omega) hb, ?_⟩
    simp only [PyData.depth, PyData.shown, PyData.shownKv_eq]
    exact ReprK.dict h1 h2 h3 hsys na (ReprEntriesK.of_two es.toList _ _ (k1.more_le (fun b hb => List.mem_append_left _ hb) (PyData.depthAll_keys_le kvs)) (k2.more_le (fun b hb => List.mem_append_right _ hb) (PyData.depthAll_vals_le kvs)))
theorem RSs.rp : ∀ {vs : List Value} {ds : List PyData}, RSs h vs ds → PyData.showableAll ds = true → (∀ t ∈ PyData.shownAll ds, t.length ≤ sizeLine) → ∃ bs, ReadAtMost h (PyData.depthAll ds) bs ∧ ReprAllK prog w bs h (PyData.depthAll ds) vs (PyData.shownAll ds)
  | _, _, .nil, _, _ => ⟨[], (fun _ z => nomatch z), by simp only [PyData.shownAll]; exact .nil⟩
  | _, _, .cons (d := d) (ds := ds) r rs, hs, hz => by
    have s' : d.showable = true ∧ PyData.showableAll ds = true := by simpa [PyData.showableAll] using hs
    obtain ⟨b1, m1, k1⟩ := RS.rp r s'.1 (hz _ (by simp only [PyData.shownAll]; exact List.mem_cons_self ..))
    obtain ⟨b2, m2, k2⟩ := RSs.rp rs s'.2 fun t ht => hz t (by simp only [PyData.shownAll]; exact List.mem_cons_of_mem _ ht)
    refine ⟨b1 ++ b2, ?_, ?_⟩
    · simp only [PyData.depthAll]
      exact (m1.mono (Nat.le_max_left _ _)).append (m2.mono (Nat.le_max_right _ _))
    · simp only [PyData.depthAll, PyData.shownAll]
      exact .cons ((k1.more fun b hb => List.mem_append_left _ hb).level_le (Nat.le_max_left _ _)) (k2.more_le (fun b hb => List.mem_append_right _ hb) (Nat.le_max_right _ _))
end
theorem RS.ent {a : Addr} {o : Obj} {es : Array DictEntry} {n : Nat} {kvs : List (PyData × PyData)} (h1 : h.get? a = some o) (h2 : o.cls = .type "dict") (h3 : o.data = .dict es n) (hsys : (a == sysModules) = false) (h4 : RSs h (es.toList.map (·.key)) (kvs.map (·.1))) (h5 : RSs h (es.toList.map (·.val)) (kvs.map (·.2)))
    (hs : (PyData.dict kvs).showable = true) (hz : (PyData.dict kvs).shown.length ≤ sizeLine) : ∃ bs, ReadAtMost h (PyData.depthKv kvs) bs ∧ a ∉ bs ∧ ReprEntriesK prog w bs h (PyData.depthKv kvs) es.toList (List.zipWith (fun k v : Str => k ++ ": " ++ v) (PyData.shownAll (kvs.map (·.1))) (PyData.shownAll (kvs.map (·.2)))) := by
  have z : (dictText (PyData.shownKv kvs)).length ≤ sizeLine := by simpa only [PyData.shown] using hz
  obtain ⟨s1, s2⟩ := PyData.showableKv_split kvs (by simpa [PyData.showable] using hs)
  obtain ⟨b1, m1, k1⟩ := RSs.rp (prog := prog) (w := w) h4 s1 fun t ht => let ⟨p, hp, hl⟩ := PyData.shownKv_key_le kvs t ht; Nat.le_trans hl (Nat.le_trans (dictText_mem_le hp) z)
  obtain ⟨b2, m2, k2⟩ := RSs.rp (prog := prog) (w := w) h5 s2 fun t ht => let ⟨p, hp, hl⟩ := PyData.shownKv_val_le kvs t ht; Nat.le_trans hl (Nat.le_trans (dictText_mem_le hp) z)
  obtain ⟨as, r⟩ := RSs.reads h4
  obtain ⟨cs, q⟩ := RSs.reads h5
  have hb : ReadAtMost h (PyData.depthKv kvs) (b1 ++ b2) := (m1.mono (PyData.depthAll_keys_le kvs)).append (m2.mono (PyData.depthAll_vals_le kvs))
  exact ⟨b1 ++ b2, hb, not_mem_of_deeper (.dict h1 h2 h3 r q) (by simp only [PyData.depth]; omega) hb,
    ReprEntriesK.of_two es.toList _ _ (k1.more_le (fun b hb => List.mem_append_left _ hb) (PyData.depthAll_keys_le kvs)) (k2.more_le (fun b hb => List.mem_append_right _ hb) (PyData.depthAll_vals_le kvs))⟩
theorem RS.shows {a : Addr} {d : PyData} (r : RS h (.ref a) d) (hs : d.showable = true) (hz : d.shown.length ≤ sizeLine) : ∃ T idr, ShowsBy prog w h a d T idr := by
  cases r with
  | list h1 h2 h3 h4 =>
    rename_i o vs n xs
    have z : (listText (PyData.shownAll xs)).length ≤ sizeLine := by simpa only [PyData.shown] using hz
    obtain ⟨bs, hb, hk⟩ := RSs.rp (prog := prog) (w := w) h4 (by simpa [PyData.showable] using hs) fun t ht => Nat.le_trans (listText_mem_le ht) z
    obtain ⟨as, r⟩ := RS.reads (.list h1 h2 h3 h4)
    have na : a ∉ bs := not_mem_of_deeper r (by simp only [PyData.depth]; omega) hb
    refine ⟨"list", "list.__repr__", F.slot_list_repr.toG, F.slot_list_str, F.slot_list_format, fun s hk0 => ⟨o, hk0 _ _ h1, h2⟩, fun A E s Q hg hu hk0 hQ => ?_⟩
    simp only [PyData.depth] at hu
    simp only [PyData.shown] at hQ
    obtain ⟨l⟩ := vs
    cases l with
    | nil =>
      have h5 : RSs h [] xs := h4
      cases h5
      simp only [PyData.shownAll, listText_nil] at hQ
      exact call_list_repr_empty ⟨o, hk0 _ _ h1, h2⟩ (hk0 _ _ h1) h3 (hQ s.heap _ _ fun _ _ e => e)
    | cons x l => exact call_list_reprK h1 h2 h3 na (by simpa using hk.length_eq) (fun i y e => hk.item i y (by simpa using e)) hg (fun b _ => Clear.nil b) hu hk0 hQ z
  | tuple h1 h2 h3 h4 =>
    rename_i o vs n xs
    have z : (tupleText (PyData.shownAll xs)).length ≤ sizeLine := by simpa only [PyData.shown] using hz
    obtain ⟨bs, hb, hk⟩ := RSs.rp (prog := prog) (w := w) h4 (by simpa [PyData.showable] using hs) fun t ht => Nat.le_trans (tupleText_mem_le ht) z
    obtain ⟨as, r⟩ := RS.reads (.tuple h1 h2 h3 h4)
    have na : a ∉ bs := not_mem_of_deeper r (by simp only [PyData.depth]; omega) hb
    refine ⟨"tuple", "tuple.__repr__", F.slot_tuple_repr, F.slot_tuple_str, F.slot_tuple_format, fun s hk0 => ⟨o, hk0 _ _ h1, h2⟩, fun A E s Q hg hu hk0 hQ => ?_⟩
    simp only [PyData.depth] at hu
    simp only [PyData.shown] at hQ
    exact call_tuple_reprK h1 h2 h3 na hk hg (fun b _ => Clear.nil b) hu hk0 hQ z
  | dict h1 h2 h3 hsys h4 h5 =>
    rename_i o es n kvs
    obtain ⟨bs, hb, na, hE⟩ := RS.ent (prog := prog) (w := w) h1 h2 h3 hsys h4 h5 hs hz
    refine ⟨"dict", "dict.__repr__", F.slot_dict_repr, F.slot_dict_str, F.slot_dict_format, fun s hk0 => ⟨o, hk0 _ _ h1, h2⟩, fun A E s Q hg hu hk0 hQ => ?_⟩
    simp only [PyData.depth] at hu
    simp only [PyData.shown, PyData.shownKv_eq] at hQ
    exact call_dict_reprK h1 h2 h3 hsys na hE hg (fun b _ => Clear.nil b) hu hk0 hQ (by rw [← PyData.shownKv_eq]; simpa only [PyData.shown] using hz)
theorem repr_of_rs {A : Around} {E : Value → Shared → Prop} {s : Shared} {Q : Value → Shared → Prop} {a : Addr} {d : PyData} (r : RS h (.ref a) d) (hs : d.showable = true) (hg : A.guards = some []) (hu : A.units + (d.depth + 1) < cLine) (hk0 : ∀ b o, h.get? b = some o → s.heap.get? b = some o)
    (hQ : ∀ h' u tk, (∀ b o, s.heap.get? b = some o → h'.get? b = some o) → Q (.str d.shown u) { s with heap := h', toks := tk }) (hz : d.shown.length ≤ sizeLine) : wpAny (model prog w) A (call (.builtin "repr") [.ref a]) Q E s := by
  obtain ⟨T, idr, S⟩ := RS.shows (prog := prog) (w := w) r hs hz
  exact call_repr_slot (by omega) (S.typeIs s hk0) S.slotRepr (S.call A.in1 E s _ hg (by show A.units + 1 + d.depth < cLine; omega) hk0 fun h' u tk hk => ⟨_, _, rfl, hQ h' u tk hk⟩)
end
section
variable {K : PySem.W.Frag} {ρ : List Addr} {H : Hp} {st : Sto} {σ : L2.St}
def kyP : Ky → PyData
  | .inl i => .int i
  | .inr x => .str ⟨x.toArray⟩
theorem pd_rs {X : Cx} {pins : List (Addr × Obj)} {s : Shared} (I : Inv X pins σ H s) (S : SR X.K ρ st H) : ∀ (n : Nat) (d : D) (v : V) (u : Value) (q : PyData), RD X.K ρ H d v → RelV v u → pd st n d = some q → RS s.heap u q := by
  intro n
  induction n with
  | zero => intro d v u q _ _ e; cases e
  | succ n ih =>
    have all : ∀ (ds : List D) (vs : List V) (us : List Value) (qs : List PyData), RDs X.K ρ H ds vs → Vals vs us → optAll (pd st n) ds = some qs → RSs s.heap us qs := by
      intro ds
      induction ds with
      | nil => intro vs us qs r rv e; cases r; cases rv; cases e; exact .nil
      | cons d ds ihs =>
        intro vs us qs r rv e
        cases r with
        | cons r1 r2 =>
          cases rv with
          | cons q1 q2 =>
            unfold optAll at e
            split at e
            · rename_i y ys e1 e2
              cases e
              exact .cons (ih d _ _ y r1 q1 e1) (ihs _ _ ys r2 q2 e2)
            · cases e
    have kvs_ : ∀ (ks : List (Ky × D)) (ws : List (Key × V)) (vs : List (Key × Value)) (es : List DictEntry) (ps : List (PyData × PyData)), RKs X.K ρ H ks ws → KV ws vs → Pairs (mixKind X.prog X.w) es vs →
        optAll (fun kv : Ky × D => (pd st n kv.2).map fun p => ((match kv.1 with | .inl i => PySem.PyData.int i | .inr x => PySem.PyData.str ⟨x.toArray⟩), p)) ks = some ps → RSs s.heap (es.map (·.key)) (ps.map (·.1)) ∧ RSs s.heap (es.map (·.val)) (ps.map (·.2)) := by
      intro ks
      induction ks with
      | nil => intro ws vs es ps r rv pr e; cases r; cases rv; cases pr; cases e; exact ⟨.nil, .nil⟩
      | cons kd ks ihs =>
        intro ws vs es ps r rv pr e
        cases r with
        | @cons k d v ds vs0 r1 r2 =>
          cases rv with
          | @cons a0 b0 l1 l2 q1 q2 =>
            cases pr with
            | @cons e' kv' es' kvs' p1 p2 p3 =>
              unfold optAll at e
              split at e
              · rename_i y ys e1 e2
                cases e
                simp only [Option.map_eq_some_iff] at e1
                obtain ⟨p, e1, rfl⟩ := e1
                obtain ⟨h1, h2⟩ := ihs _ _ _ ys r2 q2 p3 e2
                refine ⟨.cons ?_ h1, .cons ?_ h2⟩
                · show RS s.heap e'.key _
                  have p1' : keyIs b0.1 e'.key = true := p1
                  rw [← q1.1] at p1'
                  rcases keyIs_shape p1' with ⟨i, t, a1, a2⟩ | ⟨x, t, a1, a2⟩
                  · cases k with
                    | inl j =>
                      unfold keyOf at a1
                      cases a1
                      rw [a2]
                      exact .int _ _
                    | inr j => unfold keyOf at a1; cases a1
                  · cases k with
                    | inl j => unfold keyOf at a1; cases a1
                    | inr j =>
                      unfold keyOf at a1
                      cases a1
                      rw [a2]
                      exact .str _ _
                · show RS s.heap e'.val p
                  rw [p2]
                  exact ih _ _ _ p r1 q1.2 e1
              · cases e
    intro d v u q r rv e
    unfold pd at e
    cases d with
    | non => cases r; cases e; cases rv; exact .none
    | bl b => cases r; cases e; cases rv; exact .bool _
    | int b => cases r; cases e; obtain ⟨t, rfl⟩ := rv; exact .int _ _
    | str b => cases r.str_inv; cases e; obtain ⟨t, rfl⟩ := rv; exact .str _ _
    | tup xs =>
      obtain ⟨a, vs, rfl, ha, ra⟩ := r.tup_inv
      cases rv
      simp only [Option.map_eq_some_iff] at e
      obtain ⟨qs, e, rfl⟩ := e
      obtain ⟨its, ri, ⟨o, ho, hc, m, hd⟩, _⟩ := I.tuple ha
      exact .tuple ho hc hd (all xs vs its qs ra ri e)
    | kl xs =>
      obtain ⟨a, vs, rfl, ha, ra⟩ := r.kl_inv
      cases rv
      simp only [Option.map_eq_some_iff] at e
      obtain ⟨qs, e, rfl⟩ := e
      obtain ⟨its, ri, ⟨o, m, ho, hc, _, hd⟩, _⟩ := I.list ha.sq
      exact .list ho hc hd (all xs vs its qs ra ri e)
    | obj i =>
      obtain ⟨a, rfl, ea⟩ := r.obj_inv
      cases rv
      simp only at e
      split at e
      · rename_i xs hi
        obtain ⟨_, ea', vs, ha, ra⟩ := S.get hi
        rw [ea] at ea'; cases ea'
        simp only [Option.map_eq_some_iff] at e
        obtain ⟨qs, e, rfl⟩ := e
        obtain ⟨its, ri, ⟨o, m, ho, hc, _, hd⟩, _⟩ := I.list (SqL.of ha)
        exact .list ho hc hd (all xs vs its qs ra ri e)
      · rename_i ks hi
        obtain ⟨_, ea', ws, ha, ra⟩ := S.get hi
        rw [ea] at ea'; cases ea'
        simp only [Option.map_eq_some_iff] at e
        obtain ⟨qs, e, rfl⟩ := e
        obtain ⟨_, hsys, vs, rel, o, es, ep, ho, hx, hd, _, pr, _⟩ := dk_of I.hok ha
        obtain ⟨h1, h2⟩ := kvs_ ks ws vs es.toList qs ra rel pr e
        exact .dict ho hx.1 hd hsys h1 h2
      · cases e
theorem pd_depth : ∀ (n : Nat) (d : D) (q : PyData), pd st n d = some q → q.depth ≤ n := by
  intro n
  induction n with
  | zero => intro d q e; cases e
  | succ n ih =>
    have all : ∀ (ds : List D) (qs : List PyData), optAll (pd st n) ds = some qs → PyData.depthAll qs ≤ n := by
      intro ds
      induction ds with
      | nil => intro qs e; cases e; simp [PyData.depthAll]
      | cons d ds ihs =>
        intro qs e
        unfold optAll at e
        split at e
        · rename_i y ys e1 e2
          cases e
          have h1 := ih d y e1
          have h2 := ihs ys e2
          simp only [PyData.depthAll]
          omega
        · cases e
    have kvs_ : ∀ (ks : List (Ky × D)) (ps : List (PyData × PyData)), optAll (fun kv : Ky × D => (pd st n kv.2).map fun p => ((match kv.1 with | .inl i => PySem.PyData.int i | .inr x => PySem.PyData.str ⟨x.toArray⟩), p)) ks = some ps → PyData.depthKv ps ≤ n := by
      intro ks
      induction ks with
      | nil => intro ps e; cases e; simp [PyData.depthKv]
      | cons kd ks ihs =>
        intro ps e
        unfold optAll at e
        split at e
        · rename_i y ys e1 e2
          cases e
          simp only [Option.map_eq_some_iff] at e1
          obtain ⟨p, e1, rfl⟩ := e1
          have h1 := ih _ p e1
          have h2 := ihs ys e2
          have h3 : (match kd.1 with | .inl i => PySem.PyData.int i | .inr x => PySem.PyData.str ⟨x.toArray⟩).depth = 0 := by
            cases kd.1 <;> rfl
          simp only [PyData.depthKv, h3]
          omega
        · cases e
    intro d q e
    unfold pd at e
    cases d with
    | non => cases e; simp [PyData.depth]
    | bl b => cases e; simp [PyData.depth]
    | int b => cases e; simp [PyData.depth]
    | str b => cases e; simp [PyData.depth]
    | tup xs =>
      simp only [Option.map_eq_some_iff] at e
      obtain ⟨qs, e, rfl⟩ := e
      have := all xs qs e
      simp only [PyData.depth]; omega
    | kl xs =>
      simp only [Option.map_eq_some_iff] at e
      obtain ⟨qs, e, rfl⟩ := e
      have := all xs qs e
      simp only [PyData.depth]; omega
    | obj i =>
      simp only at e
      split at e
      · simp only [Option.map_eq_some_iff] at e
        obtain ⟨qs, e, rfl⟩ := e
        have := all _ qs e
        simp only [PyData.depth]; omega
      · simp only [Option.map_eq_some_iff] at e
        obtain ⟨qs, e, rfl⟩ := e
        have := kvs_ _ qs e
        simp only [PyData.depth]; omega
      · cases e
end
section
variable {K : PySem.W.Frag} {E : XW K} {ρ ρ' ρ1 ρ2 ρ3 : List Addr} {H H' H1 H2 H3 : Hp} {d : D} {ds : List D} {v u : V} {vs : List V} {a p : Addr} {i : Nat} {l : Lo} {σ : L2.St} {st st1 st2 : Sto} {Q : VK}
/-- repr(x): by what it reads as -/
def rRepr (K : PySem.W.Frag) : RC := fun xs H Q => ∃ (x : V) (d : D) (ρ : List Addr) (st : Sto) (q : PyData), xs = [x] ∧ SR K ρ st H ∧ RD K ρ H d x ∧ pd st fuel d = some q ∧ q.showable = true ∧ q.shown.length ≤ sizeLine ∧ Q (.str q.shown) H
theorem or_repr {X : Cx} (hg : X.A.guards = some []) (hu : X.A.units + 64 < cLine) : CallR X (.builtin "repr") (rRepr X.K) := by
  intro pins s σ H xs us Q I r h
  obtain ⟨x, d, ρ, st, q, rfl, S, rd, e, hs, hl, hq⟩ := h
  cases r with
  | cons r1 r2 =>
    cases r2
    have hr := pd_rs I S _ _ _ _ _ rd r1 e
    have dep := pd_depth _ _ _ e
    have top : ∀ a, RS s.heap (.ref a) q → wpAny (model X.prog X.w) X.A (call (.builtin "repr") [.ref a]) (EP X pins σ Q) X.xe s := fun a hr =>
      repr_of_rs (h := s.heap) hr hs hg (by unfold fuel at dep; omega) (fun _ _ x => x) (fun h' u tk kp => ⟨.str _, H, I.kept (t' := tk) kp, ⟨_, rfl⟩, hq⟩) hl
    cases hr with
    | none => exact PySem.P.repr_of_none ⟨.str _, H, I.tok _, ⟨_, rfl⟩, hq⟩
    | bool b =>
      refine PySem.P.repr_of_bool ⟨.str _, H, I.tok _, ⟨_, rfl⟩, ?_⟩
      cases b <;> exact hq
    | int i t => exact PySem.P.repr_of_int (by simpa [PyData.showable] using hs) ⟨.str _, H, I.tok _, ⟨_, rfl⟩, hq⟩
    | str x t => exact PySem.P.repr_of_str ⟨.str _, H, I.tok _, ⟨_, rfl⟩, hq⟩ (by simpa only [PyData.shown] using hl)
    | list h1 h2 h3 h4 => exact top _ (.list h1 h2 h3 h4)
    | tuple h1 h2 h3 h4 => exact top _ (.tuple h1 h2 h3 h4)
    | dict h1 h2 h3 h4 h5 h6 => exact top _ (.dict h1 h2 h3 h4 h5 h6)
theorem cal_repr : Cal K (biF .repr) (rRepr K) := by
  refine cal1 (fun ρ H st x v Q F S r h => ?_) fun _ _ _ => rfl
  simp only [bi1, shownD] at h
  split at h
  · rename_i t e
    split at e
    · rename_i q eq
      split at e
      · rename_i hc
        cases e
        exact ⟨v, x, ρ, st, q, rfl, S, r, eq, hc.1, by rw [← line_eq]; exact hc.2, h _ _ _ Wle.refl S (.str _)⟩
      · cases e
    · cases e
  · exact h.elim
end
end Z

/-! ZChk: whether a term of ZCore is what a Python text says. -/
namespace Z
open PySem L2
def strB (x : Str) (s : List Nat) : Bool := decide (x.cps.toList = s)
/-- the module's names -/
structure Gt where
  cs : List (Str × D)
  fs : List Str
  /-- of each def: its keyword-only parameter and the default -/
  kf : List (Option (Str × D)) := []
  /-- dicts of ints -/
  ds : List (Str × List (Int × Int)) := []
def Gt.kw (G : Gt) (f : Nat) : Option (Str × D) := G.kf.getD f none
def biNames : List Str := ["len", "abs", "int", "all", "any", "list", "tuple", "divmod", "sum", "min", "max", "ord", "chr", "str", "repr", "sorted", "isinstance", "range", "bool", "dict", "set", "enumerate", "zip", "reversed"]
def biName : Bi → Str
  | .len => "len" | .abs => "abs" | .int => "int" | .all => "all" | .any => "any" | .list => "list" | .tuple => "tuple" | .divmod => "divmod" | .sum => "sum"
  | .min => "min" | .max => "max" | .ord => "ord" | .chr => "chr" | .str => "str" | .repr => "repr" | .sorted => "sorted"
def tyName : Ty → Str
  | .int => "int" | .bool => "bool" | .str => "str" | .tuple => "tuple" | .list => "list" | .dict => "dict"
def mtName : Mt → Str
  | .append => "append" | .reverse => "reverse" | .extend => "extend" | .pop => "pop" | .join => "join" | .upper => "upper"
def bopOf : Bop → Operator
  | .add => .Add | .sub => .Sub | .mul => .Mult | .div => .FloorDiv | .mod => .Mod | .pow => .Pow
def copOf : Cop → CmpOp
  | .eq => .Eq | .ne => .NotEq | .lt => .Lt | .le => .LtE | .gt => .Gt | .ge => .GtE | .is => .Is | .isn => .IsNot | .mem => .In | .nmem => .NotIn
def glB (sc : Scope) (x : Str) : Bool := decide (sc.names.lookup x = some .globalImplicit)
def okN (x : Str) : Bool := !(x == ("__debug__" : Str)) && !(x == ("__classdict__" : Str)) && !(x == ("__name__" : Str))
def visB (sc : Scope) (x : Str) : Bool := decide (sc.names.lookup x = some .local) || decide (sc.names.lookup x = some .cell) || decide (sc.names.lookup x = some .free)
def locB (sc : Scope) (x : Str) : Bool := decide (sc.names.lookup x = some .local) || decide (sc.names.lookup x = some .cell)
def lclB (sc : Scope) (x : Str) : Bool := decide (sc.names.lookup x = some .local)
/-- no display whose order is looked at -/
def notSet : Expr → Bool
  | .Set _ _ _ => false
  | _ => true
def noComp : Expr → Bool
  | .ListComp .. | .SetComp .. | .DictComp .. => false
  | _ => true
def noTup : Expr → Bool
  | .Tuple .. | .List .. => false
  | _ => true
def noStar : Expr → Bool
  | .Starred _ _ => false
  | _ => true
/-- not 'super()' -/
def noSuper : Expr → Bool
  | .Call (.Name _ _) [] [] _ => false
  | _ => true
def keyConst (k : Ky) : Option Expr → Bool
  | some (.Constant (.int i) _ _) => decide (k = .inl i)
  | some (.Constant (.str x) _ _) => match k with
    | .inr s => strB x s
    | _ => false
  | _ => false
def keysB : List Ky → List (Option Expr) → Bool
  | [], [] => true
  | k :: ks, e :: es => keyConst k e && keysB ks es
  | _, _ => false

/-- the keywords told, of the one keyword-only parameter -/
def kwB (o : Option (Str × D)) (kws : List Keyword) (d : D) : Bool := match o with
  | some (k, d') => decide (d' = d) && (match kws with
    | [] => true
    | [w] => decide (w.arg = some k)
    | _ => false)
  | none => false
def celB (sc : Scope) (x : Str) : Bool := decide (sc.names.lookup x = some .cell)
def isComp : Ex → Bool
  | .comp .. => true
  | _ => false
def isCompD : Ex → Bool
  | .compD .. => true
  | _ => false
structure Ck where
  e : Scope → Expr → Bool
  l : Scope → List Expr → Bool
  /-- a walk; whether the target is a tuple -/
  w : Scope → Expr → Bool
  /-- a target; fn: its cells were made at the block's start -/
  t : (Str → Bool) → Scope → Expr → Bool
  ts : (Str → Bool) → Scope → List Expr → Bool
  s : Scope → Stmt → Bool
  b : Scope → List Stmt → Bool
def Ck.no : Ck := ⟨fun _ _ => false, fun _ _ => false, fun _ _ => false, fun _ _ _ => false, fun _ _ _ => false, fun _ _ => false, fun _ _ => false⟩
def fnAll : Str → Bool := fun _ => true
def fnOf (sc : Scope) : Str → Bool := fun x => sc.names.lookup x == some .cell
/-- name = [..] stores while the comprehension's frame is there -/
def swB (sc : Scope) (x : Str) (csc : Scope) : Bool := !(csc.names.any fun nk => nk.1 == x && (nk.2 == .local || nk.2 == .cell))

def ck (G : Gt) (N : List Str) : Ex → Ck
  | .nil => { Ck.no with l := fun _ es => es.isEmpty, b := fun _ ss => ss.isEmpty, ts := fun _ _ es => es.isEmpty }
  | .cons a r => { Ck.no with
      l := fun sc es => (match es with | e :: es => (ck G N a).e sc e && noStar e && (ck G N r).l sc es | [] => false)
      ts := fun fn sc es => (match es with | e :: es => (ck G N a).t fn sc e && noStar e && (ck G N r).ts fn sc es | [] => false)
      b := fun sc ss => (match ss with | s :: ss => (ck G N a).s sc s && (ck G N r).b sc ss | [] => false) }
  | .var i => { Ck.no with e := fun sc e => (match e with | .Name x _ => decide (N[i]? = some x) && visB sc x && okN x | _ => false) }
  | .glb i d => { Ck.no with e := fun sc e => (match e with | .Name x _ => decide (G.cs[i]? = some (x, d)) && glB sc x && okN x | _ => false) }
  | .int i => { Ck.no with e := fun _ e => (match e with | .Constant (.int j) _ _ => decide (i = j) | _ => false) }
  | .str i => { Ck.no with e := fun _ e => (match e with | .Constant (.str j) _ _ => strB j i | _ => false) }
  | .bl i => { Ck.no with e := fun _ e => (match e with | .Constant (.bool j) _ _ => decide (i = j) | _ => false) }
  | .non => { Ck.no with e := fun _ e => (match e with | .Constant .none _ _ => true | _ => false) }
  | .bin o a b => { Ck.no with e := fun sc e => (match e with | .BinOp x p y _ => decide (p = bopOf o) && (ck G N a).e sc x && (ck G N b).e sc y | _ => false) }
  | .neg a => { Ck.no with e := fun sc e => (match e with | .UnaryOp .USub x _ => (ck G N a).e sc x | _ => false) }
  | .not a => { Ck.no with e := fun sc e => (match e with | .UnaryOp .Not x _ => (ck G N a).e sc x | _ => false) }
  | .and a b => { Ck.no with e := fun sc e => (match e with | .BoolOp .And (x :: y :: r) p => (ck G N a).e sc x && (ck G N b).e sc (.BoolOp .And (y :: r) p) | _ => false) }
  | .or a b => { Ck.no with e := fun sc e => (match e with | .BoolOp .Or (x :: y :: r) p => (ck G N a).e sc x && (ck G N b).e sc (.BoolOp .Or (y :: r) p) | _ => false) }
  | .one a => { Ck.no with e := fun sc e => (match e with | .BoolOp _ [x] _ => (ck G N a).e sc x | _ => false) }
  | .cmp o a b => { Ck.no with e := fun sc e => (match e with | .Compare x [p] [y] _ => decide (p = copOf o) && notSet y && (ck G N a).e sc x && (ck G N b).e sc y | _ => false) }
  | .cmp2 o q a b c => { Ck.no with e := fun sc e => (match e with | .Compare x [p, r] [y, z] _ => decide (p = copOf o) && decide (r = copOf q) && notSet z && (ck G N a).e sc x && (ck G N b).e sc y && (ck G N c).e sc z | _ => false) }
  | .ite c a b => { Ck.no with e := fun sc e => (match e with | .IfExp z x y _ => (ck G N c).e sc z && (ck G N a).e sc x && (ck G N b).e sc y | _ => false) }
  | .tup es => { Ck.no with e := fun sc e => (match e with | .Tuple xs _ _ => (ck G N es).l sc xs | _ => false) }
  | .lst es => { Ck.no with e := fun sc e => (match e with | .List xs _ => (ck G N es).l sc xs | _ => false) }
  | .dct ks vs => { Ck.no with e := fun sc e => (match e with | .Dict xs ys _ => keysB ks xs && decide (xs.length = ys.length) && decide (ks.length ≤ 15) && (ck G N vs).l sc ys | _ => false) }
  | .ix a i => { Ck.no with e := fun sc e => (match e with | .Subscript x (.Slice _ _ _ _) _ => false | .Subscript x y _ => (ck G N a).e sc x && (ck G N i).e sc y | _ => false) }
  | .sl a lo hi => { Ck.no with e := fun sc e => (match e with | .Subscript x (.Slice p q none _) _ => (ck G N a).e sc x &&
      (match p with | none => isNil lo | some y => !(isNil lo) && (ck G N lo).e sc y) && (match q with | none => isNil hi | some y => !(isNil hi) && (ck G N hi).e sc y) | _ => false) }
  | .rev a => { Ck.no with e := fun sc e => (match e with | .Subscript x (.Slice none none (some (.UnaryOp .USub (.Constant (.int 1) _ _) _)) _) _ => (ck G N a).e sc x | _ => false) }
  | .call f as => { Ck.no with e := fun sc e => (match e with | .Call (.Name x _) es [] _ => decide (G.fs[f]? = some x) && glB sc x && okN x && (ck G N as).l sc es && (G.kw f).isNone | _ => false) }
  | .callK f as kv d => { Ck.no with e := fun sc e => (match e with | .Call (.Name x _) (y :: ys) kws _ => decide (G.fs[f]? = some x) && glB sc x && okN x && (ck G N as).l sc (y :: ys) && (ck G N kv).l sc (kws.map (·.value)) && kwB (G.kw f) kws d | _ => false) }
  | .gix i kvs a => { Ck.no with e := fun sc e => (match e with | .Subscript (.Name _ _) (.Slice _ _ _ _) _ => false | .Subscript (.Name x _) y _ => decide (G.ds[i]? = some (x, kvs)) && glB sc x && okN x && (ck G N a).e sc y | _ => false) }
  | .bi b as => { Ck.no with e := fun sc e => (match e with | .Call (.Name x _) (y :: ys) [] _ => decide (x = biName b) && glB sc x && (ck G N as).l sc (y :: ys) | _ => false) }
  | .isi a t => { Ck.no with e := fun sc e => (match e with | .Call (.Name x _) [y, .Name z _] [] _ => decide (x = "isinstance") && glB sc x && decide (z = tyName t) && glB sc z && noStar y && (ck G N a).e sc y | _ => false) }
  | .mt m o as => { Ck.no with e := fun sc e => (match e with | .Call (.Attribute x n p) es [] q => decide (n = mtName m) && decide (p.endLine = q.line) && decide (es.length < 20) && noSuper x && (ck G N o).e sc x && (ck G N as).l sc es | _ => false) }
  | .comp e tg it c own => { Ck.no with e := fun sc ex => (match ex with
      | .ListComp x [⟨t, i, ifs, 0⟩] csc _ => L2.blkC N sc csc (own.filterMap fun j => (N[j]?).map fun n => (n, j)) && decide ((own.filterMap fun j => (N[j]?).map fun n => (n, j)).map (·.2) = own) && notSet i &&
        (ck G N it).w sc i && (ck G N tg).t (fnOf csc) (L2.relS csc sc) t && tgOwn own tg && (ck G N e).e (L2.relS csc sc) x &&
        (match ifs with | [] => isNil c | [y] => !(isNil c) && (ck G N c).e (L2.relS csc sc) y | _ => false)
      | _ => false) }
  | .sset b => { Ck.no with e := fun sc e => (match e with | .Call (.Name z _) [.Call (.Name x _) [y] [] _] [] _ => decide (z = "sorted") && glB sc z && decide (x = "set") && glB sc x && noStar y && (ck G N b).e sc y | _ => false) }
  | .comp2 e tg it tg2 it2 own own2 => { Ck.no with e := fun sc ex => (match ex with
      | .ListComp x [⟨t, i, [], 0⟩, ⟨t2, i2, [], 0⟩] csc _ => L2.blkC N sc csc (own.filterMap fun j => (N[j]?).map fun n => (n, j)) && decide ((own.filterMap fun j => (N[j]?).map fun n => (n, j)).map (·.2) = own) && notSet i && notSet i2 && own2.all (own.contains ·) &&
        (ck G N it).w sc i && (ck G N tg).t (fnOf csc) (L2.relS csc sc) t && tgOwn own tg && (ck G N it2).w (L2.relS csc sc) i2 && (ck G N tg2).t (fnOf csc) (L2.relS csc sc) t2 && tgOwn own2 tg2 && (ck G N e).e (L2.relS csc sc) x
      | _ => false) }
  | .compD ek ev tg it c own => { Ck.no with e := fun sc ex => (match ex with
      | .DictComp x z [⟨t, i, ifs, 0⟩] csc _ => L2.blkC N sc csc (own.filterMap fun j => (N[j]?).map fun n => (n, j)) && decide ((own.filterMap fun j => (N[j]?).map fun n => (n, j)).map (·.2) = own) && notSet i &&
        (ck G N it).w sc i && (ck G N tg).t (fnOf csc) (L2.relS csc sc) t && tgOwn own tg && (ck G N ek).e (L2.relS csc sc) x && (ck G N ev).e (L2.relS csc sc) z &&
        (match ifs with | [] => isNil c | [y] => !(isNil c) && (ck G N c).e (L2.relS csc sc) y | _ => false)
      | _ => false) }
  | .itR3 a b c => { Ck.no with w := fun sc e => (match e with | .Call (.Name x _) [y, z, u] [] _ => decide (x = "range") && glB sc x && noStar y && noStar z && noStar u && (ck G N a).e sc y && (ck G N b).e sc z && (ck G N c).e sc u | _ => false) }
  | .lr1 b => { Ck.no with e := fun sc e => (match e with | .Call (.Name z _) [.Call (.Name x _) [y] [] _] [] _ => decide (z = "list") && glB sc z && decide (x = "range") && glB sc x && noStar y && (ck G N b).e sc y | _ => false) }
  | .lr2 a b => { Ck.no with e := fun sc e => (match e with | .Call (.Name w _) [.Call (.Name x _) [y, z] [] _] [] _ => decide (w = "list") && glB sc w && decide (x = "range") && glB sc x && noStar y && noStar z && (ck G N a).e sc y && (ck G N b).e sc z | _ => false) }
  | .itS e => { Ck.no with w := fun sc x => (ck G N e).e sc x }
  | .itR1 b => { Ck.no with w := fun sc e => (match e with | .Call (.Name x _) [y] [] _ => decide (x = "range") && glB sc x && noStar y && (ck G N b).e sc y | _ => false) }
  | .itR2 a b => { Ck.no with w := fun sc e => (match e with | .Call (.Name x _) [y, z] [] _ => decide (x = "range") && glB sc x && noStar y && noStar z && (ck G N a).e sc y && (ck G N b).e sc z | _ => false) }
  | .tv i => { Ck.no with t := fun fn sc e => (match e with | .Name x _ => decide (N[i]? = some x) && locB sc x && (fn x || lclB sc x) | _ => false) }
  | .tt ts => { Ck.no with t := fun fn sc e => (match e with | .Tuple xs _ _ => (ck G N ts).ts fn sc xs | _ => false) }
  | .tix o i => { Ck.no with t := fun _ sc e => (match e with | .Subscript _ (.Slice _ _ _ _) _ => false | .Subscript x y _ => (ck G N o).e sc x && (ck G N i).e sc y | _ => false) }
  | .tsl o lo hi => { Ck.no with t := fun _ sc e => (match e with | .Subscript x (.Slice (some y) (some z) none _) _ => (ck G N o).e sc x && (ck G N lo).e sc y && (ck G N hi).e sc z | _ => false) }
  | .expr e => { Ck.no with s := fun sc s => (match s with | .Expr x _ => noComp x && (ck G N e).e sc x | _ => false) }
  | .asg t e => { Ck.no with s := fun sc s => (match s with
      | .Assign [y] x p => noStar y && (ck G N t).t fnAll sc y && (ck G N e).e sc x && (match y with
        | .Name n q => (match x with
          | .ListComp _ _ csc q2 => celB sc n || (isComp e && lclB sc n && decide (q.line = q2.line) && swB sc n csc)
          | .DictComp _ _ _ csc q2 => celB sc n || (isCompD e && lclB sc n && decide (q.line = q2.line) && swB sc n csc)
          | .SetComp .. => false
          | _ => true)
        | .Tuple .. => noTup x
        | .List .. => false
        | _ => true)
      | _ => false) }
  | .sif c a b => { Ck.no with s := fun sc s => (match s with | .If x y z _ => (ck G N c).e sc x && (ck G N a).b sc y && (ck G N b).b sc z | _ => false) }
  | .sfor t it b => { Ck.no with s := fun sc s => (match s with | .For x y z [] _ => notSet y && (ck G N t).t fnAll sc x && (ck G N it).w sc y && (ck G N b).b sc z | _ => false) }
  | .swh c b => { Ck.no with s := fun sc s => (match s with | .While x z [] _ => (ck G N c).e sc x && (ck G N b).b sc z | _ => false) }
  | .ret e => { Ck.no with s := fun sc s => (match s with | .Return (some x) _ => (ck G N e).e sc x | _ => false) }
  | .retN => { Ck.no with s := fun _ s => (match s with | .Return none _ => true | _ => false) }
  | .pass => { Ck.no with s := fun _ s => (match s with | .Pass _ => true | _ => false) }
  | .brk => { Ck.no with s := fun _ s => (match s with | .Break _ => true | _ => false) }
  | .cnt => { Ck.no with s := fun _ s => (match s with | .Continue _ => true | _ => false) }
where
  /-- a comprehension's target stores its own names alone -/
  tgOwn (own : List Nat) : Ex → Bool
    | .tv i => own.contains i
    | .tt ts => tgOwn own ts
    | .cons a r => tgOwn own a && tgOwn own r
    | .nil => true
    | _ => false
end Z

/-! ZWalk: what is walked; loops; targets; statements, as readings. -/
namespace Z
open PySem L2 PySem.Spec PyProof.Rows
section
variable {K : PySem.W.Frag} {E : XW K} {ρ ρ' ρ1 ρ2 ρ3 : List Addr} {H H' H1 H2 H3 : Hp} {d : D} {ds : List D} {v u : V} {vs : List V} {a p : Addr} {i : Nat} {l l' : Lo} {σ σ' : L2.St} {st st1 st2 : Sto} {Q : VK}

/-! ### what is walked -/
/-- the iterator gives a source's items, as long as the source stands -/
def JR (K : PySem.W.Frag) (src : Src) (ρ : List Addr) (H : Hp) (J : It) : Prop := ∀ (i : Nat) ρ1 H1 st1, Wle K ρ H ρ1 H1 → SR K ρ1 st1 H1 → src.ok st1 = true →
  (src.its.length ≤ i → J.stop i H1) ∧ ∀ d, src.its[i]? = some d → J.go i H1 ∧ ∀ x H2, J.yld i H1 x H2 → SR K ρ1 st1 H2 ∧ Wle K ρ1 H1 ρ1 H2 ∧ RD K ρ1 H2 d x
def wR (E : XW K) (f : Lo → Sto → R Src) : TI := fun σ H R => ∃ ρ l st, LR K ρ H l σ ∧ SR K ρ st H ∧
  (f l st).post (fun src st' => ∀ ρ' H' J, Wle K ρ H ρ' H' → SR K ρ' st' H' → JR K src ρ' H' J → R J H') (E.p ρ H)
theorem wR_of {β : Type} {fa : Lo → Sto → R Src} {k : Src → Sto → R β} {QQ : β → Sto → Prop} {Q : It → Hp → Prop} (L : LR K ρ H l σ) (S : SR K ρ st H) (h : ((fa l st).bind k).post QQ (E.p ρ H))
    (hQ : ∀ src st1 ρ1 H1 J, Wle K ρ H ρ1 H1 → LR K ρ1 H1 l σ → SR K ρ1 st1 H1 → JR K src ρ1 H1 J → (k src st1).post QQ (E.p ρ1 H1) → Q J H1) : wR E fa σ H Q :=
  ⟨ρ, l, st, L, S, R.post_mono (R.post_bind.mp h) (fun d st1 h1 ρ1 H1 v w1 S1 r1 => hQ d st1 ρ1 H1 v w1 (L.up w1) S1 r1 (R.post_mono h1 (fun _ _ x => x) fun _ _ => E.mono w1)) fun _ _ x => x⟩
theorem jr_list {xs : List D} (hi : ρ[i]? = some a) : JR K ⟨xs, some (i, .lst xs)⟩ ρ H (Itl K a) := by
  intro n ρ1 H1 st1 w S ok
  have e : st1[i]? = some (.lst xs) := by simpa [Src.ok] using ok
  obtain ⟨b, eb, vs, ha, ra⟩ := S.get e
  have := w.pre _ _ hi
  rw [this] at eb; cases eb
  have sq : SqL K H1 a vs := SqL.of ha
  refine ⟨fun h => ⟨vs, sq, by rw [← ra.length]; exact h⟩, fun d hd => ?_⟩
  obtain ⟨v, ev, rv⟩ := ra.get hd
  refine ⟨⟨vs, v, sq, ev⟩, ?_⟩
  rintro x H2 ⟨rfl, h⟩
  have := h vs sq
  rw [ev] at this; cases this
  exact ⟨S, Wle.refl, rv⟩
theorem jr_tup {xs : List D} (ha : SqT K H a vs) (ra : RDs K ρ H xs vs) : JR K ⟨xs, none⟩ ρ H (Itt K a) := by
  intro n ρ1 H1 st1 w S _
  have sq := w.tup _ _ ha
  have ra := ra.up w
  refine ⟨fun h => ⟨vs, sq, by rw [← ra.length]; exact h⟩, fun d hd => ?_⟩
  obtain ⟨v, ev, rv⟩ := ra.get hd
  refine ⟨⟨vs, v, sq, ev⟩, ?_⟩
  rintro x H2 ⟨rfl, h⟩
  have := h vs sq
  rw [ev] at this; cases this
  exact ⟨S, Wle.refl, rv⟩
theorem jr_kl {xs : List D} (ha : FL K H a vs) (ra : RDs K ρ H xs vs) : JR K ⟨xs, none⟩ ρ H (Itl K a) := by
  intro n ρ1 H1 st1 w S _
  have sq := (w.fl _ _ ha).sq
  have ra := ra.up w
  refine ⟨fun h => ⟨vs, sq, by rw [← ra.length]; exact h⟩, fun d hd => ?_⟩
  obtain ⟨v, ev, rv⟩ := ra.get hd
  refine ⟨⟨vs, v, sq, ev⟩, ?_⟩
  rintro x H2 ⟨rfl, h⟩
  have := h vs sq
  rw [ev] at this; cases this
  exact ⟨S, Wle.refl, rv⟩
theorem jr_str {z : List Nat} : JR K ⟨z.map fun c => .str [c], none⟩ ρ H (Its ⟨z.toArray⟩) := by
  intro n ρ1 H1 st1 w S _
  refine ⟨fun h => by simpa [Its] using h, fun d hd => ?_⟩
  rw [List.getElem?_map] at hd
  simp only [Option.map_eq_some_iff] at hd
  obtain ⟨c, hc, rfl⟩ := hd
  have hl := (List.getElem?_eq_some_iff.mp hc).1
  refine ⟨by simpa [Its] using hl, ?_⟩
  rintro x H2 ⟨rfl, c', h, rfl⟩
  have : z[n]? = some c' := by simpa using h
  rw [hc] at this; cases this
  exact ⟨S, Wle.refl, .str' rfl⟩
theorem jr_rng3 {a b c : Int} : JR K ⟨rng3 a b c, none⟩ ρ H (Itc a c (rgN a b c)) := by
  intro n ρ1 H1 st1 w S _
  have hl : (rng3 a b c).length = rgN a b c := by simp [rng3]
  refine ⟨fun h => by rw [hl] at h; exact h, fun d hd => ?_⟩
  have hn : n < rgN a b c := by rw [← hl]; exact (List.getElem?_eq_some_iff.mp hd).1
  refine ⟨hn, ?_⟩
  rintro x H2 ⟨rfl, rfl⟩
  unfold rng3 at hd
  rw [List.getElem?_map, List.getElem?_range hn] at hd
  cases hd
  exact ⟨S, Wle.refl, .int _⟩
theorem jr_rng {a b : Int} : JR K ⟨rng a b, none⟩ ρ H (Itr a (b - a).toNat) := by
  intro n ρ1 H1 st1 w S _
  have hl : (rng a b).length = (b - a).toNat := by simp [rng]
  refine ⟨fun h => by rw [hl] at h; exact h, fun d hd => ?_⟩
  have hn : n < (b - a).toNat := by rw [← hl]; exact (List.getElem?_eq_some_iff.mp hd).1
  refine ⟨hn, ?_⟩
  rintro x H2 ⟨rfl, rfl⟩
  unfold rng at hd
  rw [List.getElem?_map, List.getElem?_range hn] at hd
  cases hd
  exact ⟨S, Wle.refl, .int _⟩

section
variable {X : Cx}
/-- a list, a tuple, a text -/
def iAny (K : PySem.W.Frag) (te : TE) : TI := fun σ H R => te σ H fun x H1 => (∃ a, x = .ref a ∧ (∃ xs, SqL K H1 a xs) ∧ R (Itl K a) H1) ∨ (∃ a, x = .ref a ∧ (∃ xs, SqT K H1 a xs) ∧ R (Itt K a) H1) ∨ ∃ z, x = .str z ∧ R (Its z) H1
theorem pi_any {tg e : Expr} {te : TE} (he : PE X e te) : PI X tg e (iAny X.K te) := by
  constructor
  intro pins s σ H R I h
  refine thn (he.run pins s σ H _ I h) ?_
  rintro v s1 ⟨x, H1, I1, r1, q⟩
  have fresh : ∀ b ∈ [s1.heap.objs.size], FpOk X pins H1 b := by
    intro b hb
    cases (List.mem_singleton.mp hb)
    exact I1.fpOk (Nat.le_refl _) (I1.hok.fresh (Nat.le_refl _))
  rcases q with ⟨a, rfl, ⟨xs, hq⟩, q⟩ | ⟨a, rfl, ⟨xs, hq⟩, q⟩ | ⟨z, rfl, q⟩
  · cases r1
    obtain ⟨its, rv, pl, hz⟩ := I1.list hq
    apply wpAny_pyIter_list pl.isList
    exact ⟨_, [s1.heap.objs.size], _, _, H1, rfl, I1.kept (t' := s1.toks) fun b o e => Heap.get?_push_of_some _ e, turn_list a _, ⟨_, Heap.get?_push_size _ rfl, rfl, rfl⟩, fresh, q⟩
  · cases r1
    obtain ⟨its, rv, pl, hz⟩ := I1.tuple hq
    apply wpAny_pyIter_tuple (show s1.heap.IsTuple a its.toArray from pl)
    exact ⟨_, [s1.heap.objs.size], _, _, H1, rfl, I1.kept (t' := s1.toks) fun b o e => Heap.get?_push_of_some _ e, turn_tuple a _, ⟨_, Heap.get?_push_size _ rfl, rfl, rfl⟩, fresh, q⟩
  · obtain ⟨t, rfl⟩ := r1
    cases ha : z.cps.all (· < 128) with
    | false => exact wpAny_pyIter_wide ha (pi_one (tk := s1.toks) I1 _ (turn_str _ z t "str_iterator" (.inr rfl)) ⟨_, Heap.get?_push_size _ rfl, rfl, rfl⟩ q)
    | true => exact wpAny_pyIter_ascii ha (pi_one (tk := s1.toks) I1 _ (turn_str _ z t "str_ascii_iterator" (.inl rfl)) ⟨_, Heap.get?_push_size _ rfl, rfl, rfl⟩ q)
theorem PI.weak {tg e : Expr} {w w' : TI} (h : PI X tg e w) (k : ∀ σ H R, w' σ H R → w σ H R) : PI X tg e w' := ⟨fun pins s σ H R I q => h.run pins s σ H R I (k _ _ _ q)⟩
end

/-! ### targets -/
/-- what a target may store: its own slots, if they are told -/
def WP : Option (List Nat) → L2.St → L2.St → Prop
  | none, _, _ => True
  | some own, σ, σ' => L2.wipe σ' own = L2.wipe σ own
theorem WP.refl {o : Option (List Nat)} {σ : L2.St} : WP o σ σ := by cases o <;> simp [WP]
theorem WP.trans {o : Option (List Nat)} {a b c : L2.St} (h : WP o a b) (h' : WP o b c) : WP o a c := by
  cases o with
  | none => trivial
  | some o => exact Eq.trans h' h
theorem wipe_len (σ : L2.St) (vs : List Nat) : (L2.wipe σ vs).length = σ.length := L2.wipe_length σ vs
theorem wipe_set {i : Nat} {x : Option V} : ∀ {vs : List Nat} {σ : L2.St}, i ∈ vs → L2.wipe (σ.set i x) vs = L2.wipe σ vs
  | [], _, h => by cases h
  | v :: vs, σ, h => by
    unfold L2.wipe
    by_cases hv : i ∈ vs
    · rw [wipe_set hv]
    · have : i = v := by
        rcases List.mem_cons.mp h with h | h
        · exact h
        · exact absurd h hv
      subst this
      clear h
      induction vs with
      | nil => simp [L2.wipe]
      | cons w vs ih =>
        unfold L2.wipe
        have nw : i ≠ w := fun e => hv (by simp [e])
        have hv' : i ∉ vs := fun e => hv (by simp [e])
        rw [List.set_comm _ _ (Ne.symm nw), ih hv', List.set_comm _ _ nw.symm]
def tR (E : XW K) (o : Option (List Nat)) (f : D → Lo → Sto → R Lo) : TG := fun v σ H Q => ∃ ρ l st d, LR K ρ H l σ ∧ SR K ρ st H ∧ RD K ρ H d v ∧
  (f d l st).post (fun l' st' => ∀ ρ' H' σ', Wle K ρ H ρ' H' → SR K ρ' st' H' → LR K ρ' H' l' σ' → WP o σ σ' → Q σ' H') (E.p ρ H)
def tsR (E : XW K) (o : Option (List Nat)) (f : List D → Lo → Sto → R Lo) : TGs := fun vs σ H Q => ∃ ρ l st ds, LR K ρ H l σ ∧ SR K ρ st H ∧ RDs K ρ H ds vs ∧
  (f ds l st).post (fun l' st' => ∀ ρ' H' σ', Wle K ρ H ρ' H' → SR K ρ' st' H' → LR K ρ' H' l' σ' → WP o σ σ' → Q σ' H') (E.p ρ H)
theorem tR_of {β : Type} {o : Option (List Nat)} {f : D → Lo → Sto → R Lo} {k : Lo → Sto → R β} {QQ : β → Sto → Prop} {Q : L2.St → Hp → Prop} (L : LR K ρ H l σ) (S : SR K ρ st H) (r : RD K ρ H d v) (h : ((f d l st).bind k).post QQ (E.p ρ H))
    (hQ : ∀ l' st1 ρ1 H1 σ', Wle K ρ H ρ1 H1 → SR K ρ1 st1 H1 → LR K ρ1 H1 l' σ' → WP o σ σ' → (k l' st1).post QQ (E.p ρ1 H1) → Q σ' H1) : tR E o f v σ H Q :=
  ⟨ρ, l, st, d, L, S, r, R.post_mono (R.post_bind.mp h) (fun l1 st1 h1 ρ1 H1 σ1 w1 S1 L1 p1 => hQ l1 st1 ρ1 H1 σ1 w1 S1 L1 p1 (R.post_mono h1 (fun _ _ x => x) fun _ _ => E.mono w1)) fun _ _ x => x⟩
theorem t_name {o : Option (List Nat)} {i : Nat} (ho : ∀ own, o = some own → i ∈ own) {Q : L2.St → Hp → Prop} (h : tR E o (fun d l s => R.ok (l.set i (some d)) s) v σ H Q) : gName i v σ H Q := by
  obtain ⟨ρ, l, st, d, L, S, r, h⟩ := h
  refine h ρ H _ Wle.refl S (L.set r i) ?_
  cases o with
  | none => trivial
  | some own => exact wipe_set (ho own rfl)
theorem ts_nil {o : Option (List Nat)} {Q : L2.St → Hp → Prop} (h : tsR E o (fun ds l s => (match ds with | [] => R.ok l s | _ => .bad)) vs σ H Q) : gNil vs σ H Q := by
  obtain ⟨ρ, l, st, ds, L, S, r, h⟩ := h
  cases ds with
  | nil => cases r; exact ⟨rfl, h ρ H _ Wle.refl S L WP.refl⟩
  | cons d ds => exact h.elim
theorem ts_cons {o : Option (List Nat)} {f : D → Lo → Sto → R Lo} {g : List D → Lo → Sto → R Lo} {Q : L2.St → Hp → Prop}
    (h : tsR E o (fun ds l s => (match ds with | d :: ds => (f d l s).bind fun l1 s1 => g ds l1 s1 | [] => .bad)) vs σ H Q) : gCons (tR E o f) (tsR E o g) vs σ H Q := by
  obtain ⟨ρ, l, st, ds, L, S, r, h⟩ := h
  cases ds with
  | nil => exact h.elim
  | cons d ds =>
    cases r with
    | cons r1 r2 =>
      refine ⟨_, _, rfl, tR_of L S r1 h fun l1 st1 ρ1 H1 σ1 w1 S1 L1 p1 h1 => ?_⟩
      exact ⟨ρ1, l1, st1, ds, L1, S1, r2.up w1, R.post_mono h1 (fun l2 st2 q ρ2 H2 σ2 w2 S2 L2 p2 => q ρ2 H2 σ2 (w1.trans w2) S2 L2 (p1.trans p2)) fun _ _ x => x⟩
theorem t_tup {n : Nat} {o : Option (List Nat)} {f : List D → Lo → Sto → R Lo} {Q : L2.St → Hp → Prop} (hE : ∀ ρ H x s, ¬ E.p ρ H x s) (hn : ∀ (ds : List D) (l : Lo) (s : Sto) (Q : Lo → Sto → Prop) (F : D → Sto → Prop), (∀ x s, ¬ F x s) → (f ds l s).post Q F → ds.length = n)
    (h : tR E o (fun d l s => (match d with | .tup ds => f ds l s | _ => .bad)) v σ H Q) : gTup K n (tsR E o f) v σ H Q := by
  obtain ⟨ρ, l, st, d, L, S, r, h⟩ := h
  dsimp only at h
  split at h
  · rename_i ds
    obtain ⟨a, vs, rfl, ha, ra⟩ := r.tup_inv
    refine ⟨a, vs, rfl, ha, ?_, ρ, l, st, ds, L, S, ra, h⟩
    rw [← ra.length]
    exact hn ds l st _ _ (hE ρ H) h
  · exact h.elim

/-! ### o[i] = v -/
def rSetA : TSet := fun o i v H Q => rSetL o i v H Q ∨ ∃ a H4, o = .ref a ∧ DPut H a i v H4 ∧ Q H4
theorem set_any {X : Cx} (hu : X.A.units + 1 < cLine) : PSet X rSetA := by
  intro pins s σ H o i v ov iv u Q I ro ri rv h
  rcases h with h | ⟨a, H4, rfl, g, q⟩
  · exact set_list pins s σ H o i v ov iv u Q I ro ri rv h
  · cases ro
    exact d_setItem hu I g ri rv fun s' I' => ⟨_, I', q⟩
theorem rks_put {kvs : List (Ky × D)} {ws : List (Key × V)} (r : RKs K ρ H kvs ws) (k : Ky) (rd : RD K ρ H d v) : RKs K ρ H (putK kvs k d) (L2.putK ws (keyOf k) v) := by
  have an : (kvs.any fun kv => decide (kv.1 = k)) = ws.any fun kv => decide (kv.1 = keyOf k) := by
    induction r with
    | nil => rfl
    | @cons k2 d v ds vs r1 r2 ih =>
      simp only [List.any_cons, ih]
      congr 1
      exact decide_eq_decide.mpr ⟨fun h => by rw [h], fun h => keyOf_inj h⟩
  unfold putK L2.putK
  rw [← an]
  split
  · rename_i hh
    clear an hh
    induction r with
    | nil => exact .nil
    | @cons k2 d2 v2 ds vs r1 r2 ih =>
      simp only [List.map_cons]
      by_cases e : k2 = k
      · subst e
        simp only [if_true]
        exact .cons rd ih
      · have e' : ¬ keyOf k2 = keyOf k := fun q => e (keyOf_inj q)
        simp only [e, e', if_false]
        exact .cons r1 ih
  · rename_i hh
    clear an hh
    induction r with
    | nil => exact .cons rd .nil
    | cons r1 r2 ih => exact .cons r1 ih
theorem st_set {x y d : D} {xv yv : V} {Q : Hp → Prop} {F : D → Sto → Prop} (S : SR K ρ st H) (rx : RD K ρ H x xv) (ry : RD K ρ H y yv) (rd : RD K ρ H d v)
    (h : (stIx x y d st).post (fun _ st' => ∀ H', Wle K ρ H ρ H' → SR K ρ st' H' → Q H') F) : rSetA xv yv v H Q := by
  unfold stIx at h
  split at h
  · obtain ⟨a, rfl, ea⟩ := rx.obj_inv
    split at h
    · rename_i xs hi
      obtain ⟨_, ea', vs, ha, ra⟩ := S.get hi
      rw [ea] at ea'; cases ea'
      split at h
      · cases ry
        split at h
        · rename_i j hj
          refine .inl ⟨a, vs, _, j, rfl, rfl, ha, by rw [← ra.length]; exact hj, ?_⟩
          obtain ⟨u1, hu1, q1, q2⟩ := (S.ats _ _ _ hi ea).isAt
          have w : Wle K ρ H ρ (upd H a (.lst (vs.set j v))) := Wle.chg hu1 q1 q2 _
          exact h _ w (S.chg (o' := .lst (xs.set j d)) ea hi ⟨_, upd_same, (ra.set rd j).up w⟩).1
        · exact h.elim
      · exact h.elim
    · rename_i kvs hi
      obtain ⟨_, ea', ws, ha, ra⟩ := S.get hi
      rw [ea] at ea'; cases ea'
      split at h
      · rename_i k hk
        cases key_V ry hk
        split at h
        · rename_i hl
          refine .inr ⟨a, _, rfl, DPut.k ha (by rw [← ra.length, ← line_eq]; exact hl), ?_⟩
          obtain ⟨u1, hu1, q1, q2⟩ := (S.ats _ _ _ hi ea).isAt
          have w : Wle K ρ H ρ (upd H a (.dK (L2.putK ws (keyOf k) v))) := Wle.chg hu1 q1 q2 _
          exact h _ w (S.chg (o' := .dct (putK kvs k d)) ea hi ⟨_, upd_same, (rks_put ra k rd).up w⟩).1
        · exact h.elim
      · exact h.elim
    · exact h.elim
  · exact h.elim
end
end Z

/-! ZStm: statements, loops, comprehensions as readings. -/
namespace Z
open PySem L2
section
variable {K : PySem.W.Frag} {E : XW K} {ρ ρ' ρ1 ρ2 ρ3 : List Addr} {H H' H1 H2 H3 : Hp} {d : D} {ds : List D} {v u : V} {vs : List V} {a p : Addr} {i : Nat} {l l' : Lo} {σ σ' : L2.St} {st st1 st2 : Sto} {Q : VK} {D : Ends}
/-- a statement's end -/
def FlK (K : PySem.W.Frag) (D : Ends) (ρ : List Addr) (H : Hp) (σ : L2.St) : Fl → Prop
  | .nx => D.nx σ H
  | .brk => D.bk σ H
  | .cnt => D.ct σ H
  | .ret d => ∀ v, RD K ρ H d v → D.rt v H
def SK (K : PySem.W.Frag) (D : Ends) (ρ : List Addr) (H : Hp) : Fl × Lo → Sto → Prop := fun r st' => ∀ ρ' H' σ', Wle K ρ H ρ' H' → SR K ρ' st' H' → LR K ρ' H' r.2 σ' → FlK K D ρ' H' σ' r.1
theorem SK.up {r : Fl × Lo} (h : SK K D ρ H r st) (w : Wle K ρ H ρ' H') : SK K D ρ' H' r st := fun ρ2 H2 σ2 w2 => h ρ2 H2 σ2 (w.trans w2)
def sR (E : XW K) (f : Lo → Sto → R (Fl × Lo)) : TS := fun D σ H => ∃ ρ l st, LR K ρ H l σ ∧ SR K ρ st H ∧ (f l st).post (SK K D ρ H) (E.p ρ H)
theorem sR_mk {f : Lo → Sto → R (Fl × Lo)} {QQ : Fl × Lo → Sto → Prop} (L : LR K ρ H l σ) (S : SR K ρ st H) (h : (f l st).post QQ (E.p ρ H)) (hq : ∀ r s, QQ r s → SK K D ρ H r s) : sR E f D σ H := ⟨ρ, l, st, L, S, R.post_mono h hq fun _ _ x => x⟩
/-- a statement, then the rest -/
theorem s_seq {f g : Lo → Sto → R (Fl × Lo)} (h : sR E (fun l s => (f l s).bind fun r1 s1 => (match r1.1 with | .nx => g r1.2 s1 | _ => .ok r1 s1)) D σ H) : tSeq (sR E f) (sR E g) D σ H := by
  obtain ⟨ρ, l, st, L, S, h⟩ := h
  refine ⟨ρ, l, st, L, S, R.post_mono (R.post_bind.mp h) ?_ fun _ _ x => x⟩
  rintro ⟨fl, l1⟩ st1 h1 ρ1 H1 σ1 w1 S1 L1
  cases fl with
  | nx => exact ⟨ρ1, l1, st1, L1, S1, R.post_mono h1 (fun _ _ q => q.up w1) fun _ _ => E.mono w1⟩
  | brk => exact h1 ρ1 H1 σ1 w1 S1 L1
  | cnt => exact h1 ρ1 H1 σ1 w1 S1 L1
  | ret d => exact h1 ρ1 H1 σ1 w1 S1 L1
theorem s_nil (h : sR (K := K) E (fun l s => R.ok (.nx, l) s) D σ H) : tNext D σ H := by
  obtain ⟨ρ, l, st, L, S, h⟩ := h
  exact h ρ H σ Wle.refl S L
theorem s_brk (h : sR (K := K) E (fun l s => R.ok (.brk, l) s) D σ H) : tBreak D σ H := by
  obtain ⟨ρ, l, st, L, S, h⟩ := h
  exact h ρ H σ Wle.refl S L
theorem s_cnt (h : sR (K := K) E (fun l s => R.ok (.cnt, l) s) D σ H) : tCont D σ H := by
  obtain ⟨ρ, l, st, L, S, h⟩ := h
  exact h ρ H σ Wle.refl S L
theorem s_retN (h : sR (K := K) E (fun l s => R.ok (.ret .non, l) s) D σ H) : tRetN D σ H := by
  obtain ⟨ρ, l, st, L, S, h⟩ := h
  exact h ρ H σ Wle.refl S L _ .non
theorem s_expr {f : Lo → Sto → R Z.D} (h : sR (K := K) E (fun l s => (f l s).bind fun _ s1 => .ok (.nx, l) s1) D σ H) : tDrop (eR E f) D σ H := by
  obtain ⟨ρ, l, st, L, S, h⟩ := h
  exact eR_of L S h fun d st1 ρ1 H1 v w1 L1 S1 r1 h1 => h1 ρ1 H1 σ w1 S1 L1
theorem s_ret {f : Lo → Sto → R Z.D} (h : sR (K := K) E (fun l s => (f l s).bind fun d s1 => .ok (.ret d, l) s1) D σ H) : tRet (eR E f) D σ H := by
  obtain ⟨ρ, l, st, L, S, h⟩ := h
  exact eR_of L S h fun d st1 ρ1 H1 v w1 L1 S1 r1 h1 => h1 ρ1 H1 σ w1 S1 L1 v r1
theorem s_asg {f : Lo → Sto → R Z.D} {t : Z.D → Lo → Sto → R Lo} (h : sR (K := K) E (fun l s => (f l s).bind fun d s1 => (t d l s1).bind fun l1 s2 => .ok (.nx, l1) s2) D σ H) : tAsg (eR E f) (tR E none t) D σ H := by
  obtain ⟨ρ, l, st, L, S, h⟩ := h
  exact eR_of L S h fun d st1 ρ1 H1 v w1 L1 S1 r1 h1 => tR_of L1 S1 r1 h1 fun l2 st2 ρ2 H2 σ2 w2 S2 L2 p2 h2 => h2 ρ2 H2 σ2 (w1.trans w2) S2 L2
theorem s_if {c : Lo → Sto → R Bool} {f g : Lo → Sto → R (Fl × Lo)} (h : sR (K := K) E (fun l s => (c l s).bind fun k s1 => if k = true then f l s1 else g l s1) D σ H) : tIfS (bR E c) (sR E f) (sR E g) D σ H := by
  obtain ⟨ρ, l, st, L, S, h⟩ := h
  refine bR_of L S h fun k st1 ρ1 H1 w1 L1 S1 h1 => ?_
  cases k with
  | true => exact ⟨ρ1, l, st1, L1, S1, R.post_mono h1 (fun _ _ q => q.up w1) fun _ _ x => x⟩
  | false => exact ⟨ρ1, l, st1, L1, S1, R.post_mono h1 (fun _ _ q => q.up w1) fun _ _ x => x⟩
/-- the end of a turn -/
theorem turn_end {D : Ends} {r : Fl × Lo} {k : Lo → Sto → R (Fl × Lo)} {QQ : Fl × Lo → Sto → Prop} {F : Z.D → Sto → Prop}
    (h : (match r.1 with
      | .nx => k r.2 st1
      | .cnt => k r.2 st1
      | .brk => R.ok (.nx, r.2) st1
      | .ret v => R.ok (.ret v, r.2) st1).post QQ F) (N : L2.St → Hp → Prop) (hq : ∀ r s, QQ r s → SK K D ρ H r s) (w : Wle K ρ H ρ1 H1) (S : SR K ρ1 st1 H1) (L : LR K ρ1 H1 r.2 σ)
    (hN : (k r.2 st1).post QQ F → N σ H1) : FlK K { D with nx := N, ct := N, bk := D.nx } ρ1 H1 σ r.1 := by
  obtain ⟨fl, l1⟩ := r
  cases fl with
  | nx => exact hN h
  | cnt => exact hN h
  | brk => exact hq _ _ h ρ1 H1 σ w S L
  | ret v => exact hq _ _ h ρ1 H1 σ w S L
theorem s_for {fw : Lo → Sto → R Src} {t : Z.D → Lo → Sto → R Lo} {b : Lo → Sto → R (Fl × Lo)} (h : sR (K := K) E (fun l s => (fw l s).bind fun src s1 => forL src t b src.its l s1) D σ H) : tFor (wR E fw) (tR E none t) (sR E b) D σ H := by
  obtain ⟨ρ, l, st, L, S, h⟩ := h
  refine wR_of L S h fun src st1 ρ1 H1 J w1 L1 S1 jr h1 => ?_
  refine ⟨fun i m σ' H' => m = src.its.length - i ∧ i ≤ src.its.length ∧ ∃ ρ' l' st', Wle K ρ1 H1 ρ' H' ∧ LR K ρ' H' l' σ' ∧ SR K ρ' st' H' ∧ (forL src t b (src.its.drop i) l' st').post (SK K D ρ H) (E.p ρ' H'),
    ⟨src.its.length, by simp, Nat.zero_le _, ρ1, l, st1, Wle.refl, L1, S1, h1⟩, ?_⟩
  rintro i m σ' H' ⟨rfl, hi, ρ', l', st', w', L', S', h'⟩
  by_cases hl : i < src.its.length
  · right
    rw [List.drop_eq_getElem_cons hl] at h'
    unfold forL at h'
    split at h'
    · rename_i ok
      obtain ⟨go, yl⟩ := (jr i ρ' H' st' w' S' ok).2 src.its[i] (by simp [hl])
      refine ⟨go, fun σ2 H2 => ∃ ρ2 l2 st2, Wle K ρ1 H1 ρ2 H2 ∧ LR K ρ2 H2 l2 σ2 ∧ SR K ρ2 st2 H2 ∧ (forL src t b (src.its.drop (i + 1)) l2 st2).post (SK K D ρ H) (E.p ρ2 H2), ?_, ?_⟩
      · rintro σ2 H2 ⟨ρ2, l2, st2, w2, q⟩
        exact ⟨src.its.length - (i + 1), by omega, rfl, hl, ρ2, l2, st2, w2, q⟩
      · intro x H2 y
        obtain ⟨S2, w2, r2⟩ := yl x H2 y
        refine tR_of (L'.up w2) S2 r2 (R.post_mono h' (fun _ _ x => x) fun _ _ => E.mono w2) fun l3 st3 ρ3 H3 σ3 w3 S3 L3 _ h3 => ?_
        refine sR_mk (QQ := fun r s => (match r.1 with
          | .nx => forL src t b (src.its.drop (i + 1)) r.2 s
          | .cnt => forL src t b (src.its.drop (i + 1)) r.2 s
          | .brk => R.ok (.nx, r.2) s
          | .ret v => R.ok (.ret v, r.2) s).post (SK K D ρ H) (E.p ρ3 H3)) L3 S3 (R.post_bind.mp h3) ?_
        intro r s hq ρ4 H4 σ4 w4 S4 L4
        have wall := (w1.trans w').trans (w2.trans (w3.trans w4))
        refine turn_end hq _ (fun _ _ x => x) wall S4 L4 fun hk => ?_
        exact ⟨ρ4, r.2, s, w'.trans (w2.trans (w3.trans w4)), L4, S4, R.post_mono hk (fun _ _ x => x) fun _ _ => E.mono w4⟩
    · exact h'.elim
  · left
    have e : i = src.its.length := by omega
    subst e
    rw [List.drop_length] at h'
    unfold forL at h'
    split at h'
    · rename_i ok
      exact ⟨(jr _ ρ' H' st' w' S' ok).1 (Nat.le_refl _), h' ρ' H' σ' (w1.trans w') S' L'⟩
    · exact h'.elim
theorem s_while {c : Lo → Sto → R Bool} {b : Lo → Sto → R (Fl × Lo)} {n : Nat} (h : sR (K := K) E (fun l s => whL c b n l s) D σ H) : tWhile (bR E c) (sR E b) D σ H := by
  obtain ⟨ρ, l, st, L, S, h⟩ := h
  refine ⟨fun m σ' H' => ∃ ρ' l' st', Wle K ρ H ρ' H' ∧ LR K ρ' H' l' σ' ∧ SR K ρ' st' H' ∧ (whL c b m l' st').post (SK K D ρ H) (E.p ρ' H'), ⟨n, ρ, l, st, Wle.refl, L, S, h⟩, ?_⟩
  rintro m σ' H' ⟨ρ', l', st', w', L', S', h'⟩
  cases m with
  | zero => exact h'.elim
  | succ m =>
    unfold whL at h'
    refine bR_of L' S' h' fun k st1 ρ1 H1 w1 L1 S1 h1 => ?_
    cases k with
    | true =>
      simp only [if_true] at h1 ⊢
      refine ⟨fun σ2 H2 => ∃ ρ2 l2 st2, Wle K ρ H ρ2 H2 ∧ LR K ρ2 H2 l2 σ2 ∧ SR K ρ2 st2 H2 ∧ (whL c b m l2 st2).post (SK K D ρ H) (E.p ρ2 H2), fun σ2 H2 q => ⟨m, Nat.lt_succ_self m, q⟩, ?_⟩
      refine sR_mk (QQ := fun r s => (match r.1 with
        | .nx => whL c b m r.2 s
        | .cnt => whL c b m r.2 s
        | .brk => R.ok (.nx, r.2) s
        | .ret v => R.ok (.ret v, r.2) s).post (SK K D ρ H) (E.p ρ1 H1)) L1 S1 (R.post_bind.mp h1) ?_
      intro r s hq ρ4 H4 σ4 w4 S4 L4
      refine turn_end hq _ (fun _ _ x => x) (w'.trans (w1.trans w4)) S4 L4 fun hk => ?_
      exact ⟨ρ4, r.2, s, w'.trans (w1.trans w4), L4, S4, R.post_mono hk (fun _ _ x => x) fun _ _ => E.mono w4⟩
    | false =>
      simp only [Bool.false_eq_true, if_false] at h1 ⊢
      exact h1 ρ1 H1 σ' (w'.trans w1) S1 L1

/-! ### comprehensions -/
/-- no exception is wished -/
def E0 : XW K := ⟨fun _ _ _ _ => False, fun _ x => x⟩
theorem noex_post {α : Type} {r : R α} {Q : α → Sto → Prop} {F : Z.D → Sto → Prop} (h : r.noex.post Q F) : r.post Q fun _ _ => False := by
  cases r with
  | ok a s => exact h
  | ex a s => exact h
  | bad => exact h
theorem e_comp {fw : Lo → Sto → R Src} {t : Z.D → Lo → Sto → R Lo} {c : Lo → Sto → R Bool} {e : Lo → Sto → R Z.D} {own : List Nat}
    (h : eR (K := K) E (fun l s => (fw l s).bind fun src s1 => (comL src (wipe l own) t c e s1.length src.its [] (s1 ++ [.lst []])).noex.bind fun _ s2 => .ok (.obj s1.length) s2) σ H Q) :
    tLc (wR E fw) (tR (K := K) E0 (some own) t) (bR (K := K) E0 c) (eR (K := K) E0 e) own σ H Q := by
  obtain ⟨ρ, l, st, L, S, h⟩ := h
  refine wR_of L S h fun src st1 ρ1 H1 J w1 L1 S1 jr h1 => ?_
  intro D hD
  have wN : Wle K ρ1 H1 (ρ1 ++ [D]) (upd H1 D (.lst [])) := Wle.new hD _
  have SN : SR K (ρ1 ++ [D]) (st1 ++ [.lst []]) (upd H1 D (.lst [])) := S1.newO hD ⟨[], upd_same, .nil⟩
  have atk : (ρ1 ++ [D])[st1.length]? = some D := by rw [← S1.len]; simp
  -- what is wanted at the end
  let G : Unit → Sto → Prop := fun _ s2 => Kont K ρ H Q (.obj st1.length) s2
  have h1 := noex_post (R.post_mono (R.post_bind.mp h1) (Q' := G) (fun _ _ x => x) fun _ _ x => x)
  refine ⟨fun i m H' => m = src.its.length - i ∧ i ≤ src.its.length ∧ ∃ ρ' acc st', Wle K (ρ1 ++ [D]) (upd H1 D (.lst [])) ρ' H' ∧ SR K ρ' st' H' ∧
      (comL src (wipe l own) t c e st1.length (src.its.drop i) acc st').post G fun _ _ => False,
    ⟨src.its.length, by simp, Nat.zero_le _, ρ1 ++ [D], [], st1 ++ [.lst []], Wle.refl, SN, by rw [List.drop_zero]; exact h1⟩, ?_⟩
  rintro i m H' ⟨rfl, hi, ρ', acc, st', w', S', h'⟩
  have wl := wN.trans w'
  have atk' : ρ'[st1.length]? = some D := w'.pre _ _ atk
  by_cases hl : i < src.its.length
  · right
    rw [List.drop_eq_getElem_cons hl] at h'
    unfold comL at h'
    split at h'
    · rename_i ok
      obtain ⟨go, yl⟩ := (jr i ρ' H' st' wl S' ok.1).2 src.its[i] (by simp [hl])
      refine ⟨go, fun H2 => ∃ ρ2 acc2 st2, Wle K (ρ1 ++ [D]) (upd H1 D (.lst [])) ρ2 H2 ∧ SR K ρ2 st2 H2 ∧ (comL src (wipe l own) t c e st1.length (src.its.drop (i + 1)) acc2 st2).post G fun _ _ => False, ?_, ?_⟩
      · rintro H2 ⟨ρ2, acc2, st2, q⟩
        exact ⟨src.its.length - (i + 1), by omega, rfl, hl, ρ2, acc2, st2, q⟩
      · intro x H2 y
        obtain ⟨S2, w2, r2⟩ := yl x H2 y
        have L2' : LR K ρ' H2 (wipe l own) (L2.wipe σ own) := (L1.up (wl.trans w2)).wipe own
        refine tR_of (E := E0) L2' S2 r2 h' fun l3 st3 ρ3 H3 σ3 w3 S3 L3 p3 h3 => ?_
        refine ⟨?_, ?_⟩
        · have : L2.wipe σ3 own = L2.wipe (L2.wipe σ own) own := p3
          rw [this]
          have idem : ∀ (vs ws : List Nat) (σ : L2.St), (∀ i ∈ vs, i ∈ ws) → L2.wipe (L2.wipe σ vs) ws = L2.wipe σ ws := by
            intro vs
            induction vs with
            | nil => intro ws σ _; rfl
            | cons v vs ih =>
              intro ws σ hv
              show L2.wipe ((L2.wipe σ vs).set v none) ws = _
              rw [wipe_set (hv v (by simp)), ih ws σ fun i hi => hv i (by simp [hi])]
          exact idem own own σ fun _ h => h
        · refine bR_of (E := E0) L3 S3 h3 fun b st4 ρ4 H4 w4 L4 S4 h4 => ?_
          cases b with
          | true =>
            simp only [if_true] at h4 ⊢
            refine eR_of (E := E0) L4 S4 h4 fun y st5 ρ5 H5 v w5 L5 S5 r5 h5 => ?_
            split at h5
            · rename_i hc
              have w25 := (w'.trans w2).trans (w3.trans (w4.trans w5))
              have atD := w25.pre _ _ atk
              obtain ⟨_, e1, ws, hD5, ra⟩ := S5.get hc.1
              rw [atD] at e1; cases e1
              refine ⟨ws, hD5, by rw [← ra.length, ← line_eq]; exact hc.2, ?_⟩
              obtain ⟨u1, hu1, q1, q2⟩ := (S5.ats _ _ _ hc.1 atD).isAt
              have w6 : Wle K ρ5 H5 ρ5 (upd H5 D (.lst (ws ++ [v]))) := Wle.chg hu1 q1 q2 _
              exact ⟨ρ5, acc ++ [y], _, w25.trans w6, (S5.chg (o' := .lst (acc ++ [y])) atD hc.1 ⟨_, upd_same, (ra.append (.cons r5 .nil)).up w6⟩).1, h5⟩
            · exact h5.elim
          | false =>
            simp only [Bool.false_eq_true, if_false] at h4 ⊢
            exact ⟨ρ4, acc, st4, (w'.trans w2).trans (w3.trans w4), S4, h4⟩
    · exact h'.elim
  · left
    have e : i = src.its.length := by omega
    subst e
    rw [List.drop_length] at h'
    unfold comL at h'
    split at h'
    · rename_i ok
      exact ⟨(jr _ ρ' H' st' wl S' ok.1).1 (Nat.le_refl _), h' ρ' H' _ (w1.trans wl) S' (.obj atk')⟩
    · exact h'.elim
theorem e_compD {fw : Lo → Sto → R Src} {t : Z.D → Lo → Sto → R Lo} {c : Lo → Sto → R Bool} {e e2 : Lo → Sto → R Z.D} {own : List Nat}
    (h : eR (K := K) E (fun l s => (fw l s).bind fun src s1 => (comD src (wipe l own) t c e e2 s1.length src.its [] (s1 ++ [.dct []])).noex.bind fun _ s2 => .ok (.obj s1.length) s2) σ H Q) :
    tDc (wR E fw) (tR (K := K) E0 (some own) t) (bR (K := K) E0 c) (eR (K := K) E0 e) (eR (K := K) E0 e2) own σ H Q := by
  obtain ⟨ρ, l, st, L, S, h⟩ := h
  refine wR_of L S h fun src st1 ρ1 H1 J w1 L1 S1 jr h1 => ?_
  intro D hD
  have wN : Wle K ρ1 H1 (ρ1 ++ [D]) (upd H1 D (.dK [])) := Wle.new hD _
  have SN : SR K (ρ1 ++ [D]) (st1 ++ [.dct []]) (upd H1 D (.dK [])) := S1.newO hD ⟨[], upd_same, .nil⟩
  have atk : (ρ1 ++ [D])[st1.length]? = some D := by rw [← S1.len]; simp
  let G : Unit → Sto → Prop := fun _ s2 => Kont K ρ H Q (.obj st1.length) s2
  have h1 := noex_post (R.post_mono (R.post_bind.mp h1) (Q' := G) (fun _ _ x => x) fun _ _ x => x)
  refine ⟨fun i m H' => m = src.its.length - i ∧ i ≤ src.its.length ∧ ∃ ρ' acc st', Wle K (ρ1 ++ [D]) (upd H1 D (.dK [])) ρ' H' ∧ SR K ρ' st' H' ∧
      (comD src (wipe l own) t c e e2 st1.length (src.its.drop i) acc st').post G fun _ _ => False,
    ⟨src.its.length, by simp, Nat.zero_le _, ρ1 ++ [D], [], st1 ++ [.dct []], Wle.refl, SN, by rw [List.drop_zero]; exact h1⟩, ?_⟩
  rintro i m H' ⟨rfl, hi, ρ', acc, st', w', S', h'⟩
  have wl := wN.trans w'
  have atk' : ρ'[st1.length]? = some D := w'.pre _ _ atk
  by_cases hl : i < src.its.length
  · right
    rw [List.drop_eq_getElem_cons hl] at h'
    unfold comD at h'
    split at h'
    · rename_i ok
      obtain ⟨go, yl⟩ := (jr i ρ' H' st' wl S' ok.1).2 src.its[i] (by simp [hl])
      refine ⟨go, fun H2 => ∃ ρ2 acc2 st2, Wle K (ρ1 ++ [D]) (upd H1 D (.dK [])) ρ2 H2 ∧ SR K ρ2 st2 H2 ∧ (comD src (wipe l own) t c e e2 st1.length (src.its.drop (i + 1)) acc2 st2).post G fun _ _ => False, ?_, ?_⟩
      · rintro H2 ⟨ρ2, acc2, st2, q⟩
        exact ⟨src.its.length - (i + 1), by omega, rfl, hl, ρ2, acc2, st2, q⟩
      · intro x H2 y
        obtain ⟨S2, w2, r2⟩ := yl x H2 y
        have L2' : LR K ρ' H2 (wipe l own) (L2.wipe σ own) := (L1.up (wl.trans w2)).wipe own
        refine tR_of (E := E0) L2' S2 r2 h' fun l3 st3 ρ3 H3 σ3 w3 S3 L3 p3 h3 => ?_
        refine ⟨?_, ?_⟩
        · have : L2.wipe σ3 own = L2.wipe (L2.wipe σ own) own := p3
          rw [this]
          have idem : ∀ (vs ws : List Nat) (σ : L2.St), (∀ i ∈ vs, i ∈ ws) → L2.wipe (L2.wipe σ vs) ws = L2.wipe σ ws := by
            intro vs
            induction vs with
            | nil => intro ws σ _; rfl
            | cons v vs ih =>
              intro ws σ hv
              show L2.wipe ((L2.wipe σ vs).set v none) ws = _
              rw [wipe_set (hv v (by simp)), ih ws σ fun i hi => hv i (by simp [hi])]
          exact idem own own σ fun _ h => h
        · refine bR_of (E := E0) L3 S3 h3 fun b st4 ρ4 H4 w4 L4 S4 h4 => ?_
          cases b with
          | true =>
            simp only [if_true] at h4 ⊢
            refine eR_of (E := E0) L4 S4 h4 fun y st5 ρ5 H5 v w5 L5 S5 r5 h5 => ?_
            refine eR_of (E := E0) L5 S5 h5 fun z st6 ρ6 H6 u w6 L6 S6 r6 h6 => ?_
            split at h6
            · rename_i k hk
              split at h6
              · rename_i hc
                have w26 := (w'.trans w2).trans (w3.trans (w4.trans (w5.trans w6)))
                have atD := w26.pre _ _ atk
                obtain ⟨_, e1, ws, hD6, ra⟩ := S6.get hc.1
                rw [atD] at e1; cases e1
                refine ⟨ws, keyOf k, key_V (r5.up w6) hk, hD6, by rw [← ra.length, ← line_eq]; exact hc.2, ?_⟩
                obtain ⟨u1, hu1, q1, q2⟩ := (S6.ats _ _ _ hc.1 atD).isAt
                have w7 : Wle K ρ6 H6 ρ6 (upd H6 D (.dK (L2.putK ws (keyOf k) u))) := Wle.chg hu1 q1 q2 _
                exact ⟨ρ6, putK acc k z, _, w26.trans w7, (S6.chg (o' := .dct (putK acc k z)) atD hc.1 ⟨_, upd_same, (rks_put ra k r6).up w7⟩).1, h6⟩
              · exact h6.elim
            · exact h6.elim
          | false =>
            simp only [Bool.false_eq_true, if_false] at h4 ⊢
            exact ⟨ρ4, acc, st4, (w'.trans w2).trans (w3.trans w4), S4, h4⟩
    · exact h'.elim
  · left
    have e : i = src.its.length := by omega
    subst e
    rw [List.drop_length] at h'
    unfold comD at h'
    split at h'
    · rename_i ok
      exact ⟨(jr _ ρ' H' st' wl S' ok.1).1 (Nat.le_refl _), h' ρ' H' _ (w1.trans wl) S' (.obj atk')⟩
    · exact h'.elim
theorem r_assoc' {α β γ : Type} {r : R α} {k : α → Sto → R β} {f : β → Sto → R γ} : (r.bind k).bind f = r.bind fun d s => (k d s).bind f := by cases r <;> rfl
theorem wipe_idem : ∀ (vs ws : List Nat) (σ : L2.St), (∀ i ∈ vs, i ∈ ws) → L2.wipe (L2.wipe σ vs) ws = L2.wipe σ ws := by
  intro vs
  induction vs with
  | nil => intro ws σ _; rfl
  | cons v vs ih =>
    intro ws σ hv
    show L2.wipe ((L2.wipe σ vs).set v none) ws = _
    rw [wipe_set (hv v (by simp)), ih ws σ fun i hi => hv i (by simp [hi])]
theorem e_comp2 {fw w2 : Lo → Sto → R Src} {t t2 : Z.D → Lo → Sto → R Lo} {e : Lo → Sto → R Z.D} {own own2 : List Nat}
    (h : eR (K := K) E (fun l s => (fw l s).bind fun src s1 => (com2 src (wipe l own) t w2 own2 t2 e s1.length src.its [] (s1 ++ [.lst []])).noex.bind fun _ s2 => .ok (.obj s1.length) s2) σ H Q) :
    tLc2 (wR E fw) (tR (K := K) E0 (some own) t) (bR (K := K) E0 fun _ s => .ok true s) (wR (K := K) E0 w2) (tR (K := K) E0 (some own2) t2) (bR (K := K) E0 fun _ s => .ok true s) (eR (K := K) E0 e) own own2 σ H Q := by
  obtain ⟨ρ, l, st, L, S, h⟩ := h
  refine wR_of L S h fun src st1 ρ1 H1 J w1 L1 S1 jr h1 => ?_
  intro D hD
  have wN : Wle K ρ1 H1 (ρ1 ++ [D]) (upd H1 D (.lst [])) := Wle.new hD _
  have SN : SR K (ρ1 ++ [D]) (st1 ++ [.lst []]) (upd H1 D (.lst [])) := S1.newO hD ⟨[], upd_same, .nil⟩
  have atk : (ρ1 ++ [D])[st1.length]? = some D := by rw [← S1.len]; simp
  let G : Unit → Sto → Prop := fun _ s2 => Kont K ρ H Q (.obj st1.length) s2
  have h1 := noex_post (R.post_mono (R.post_bind.mp h1) (Q' := G) (fun _ _ x => x) fun _ _ x => x)
  refine ⟨fun i m H' => m = src.its.length - i ∧ i ≤ src.its.length ∧ ∃ ρ' acc st', Wle K (ρ1 ++ [D]) (upd H1 D (.lst [])) ρ' H' ∧ SR K ρ' st' H' ∧
      (com2 src (wipe l own) t w2 own2 t2 e st1.length (src.its.drop i) acc st').post G fun _ _ => False,
    ⟨src.its.length, by simp, Nat.zero_le _, ρ1 ++ [D], [], st1 ++ [.lst []], Wle.refl, SN, by rw [List.drop_zero]; exact h1⟩, ?_⟩
  rintro i m H' ⟨rfl, hi, ρ', acc, st', w', S', h'⟩
  have wl := wN.trans w'
  by_cases hl : i < src.its.length
  · right
    rw [List.drop_eq_getElem_cons hl] at h'
    unfold com2 at h'
    split at h'
    · rename_i ok
      obtain ⟨go, yl⟩ := (jr i ρ' H' st' wl S' ok.1).2 src.its[i] (by simp [hl])
      refine ⟨go, fun H2 => ∃ ρ2 acc2 st2, Wle K (ρ1 ++ [D]) (upd H1 D (.lst [])) ρ2 H2 ∧ SR K ρ2 st2 H2 ∧ (com2 src (wipe l own) t w2 own2 t2 e st1.length (src.its.drop (i + 1)) acc2 st2).post G fun _ _ => False, ?_, ?_⟩
      · rintro H2 ⟨ρ2, acc2, st2, q⟩
        exact ⟨src.its.length - (i + 1), by omega, rfl, hl, ρ2, acc2, st2, q⟩
      · intro x H2 y
        obtain ⟨S2, w2', r2⟩ := yl x H2 y
        have L2' : LR K ρ' H2 (wipe l own) (L2.wipe σ own) := (L1.up (wl.trans w2')).wipe own
        refine tR_of (E := E0) L2' S2 r2 h' fun l3 st3 ρ3 H3 σ3 w3 S3 L3 p3 h3 => ?_
        refine ⟨?_, ρ3, l3, st3, L3, S3, fun ρ4 H4 w4 S4 => ?_⟩
        · have : L2.wipe σ3 own = L2.wipe (L2.wipe σ own) own := p3
          rw [this]
          exact wipe_idem own own σ fun _ h => h
        · simp only [if_true]
          refine wR_of (E := E0) (L3.up w4) S4 h3 fun src2 st5 ρ5 H5 J2 w5 L5 S5 jr2 h5 => ?_
          have wb5 := (w'.trans w2').trans (w3.trans (w4.trans w5))
          refine ⟨fun j m H6 => m = src2.its.length - j ∧ j ≤ src2.its.length ∧ ∃ ρ6 acc6 st6, Wle K ρ5 H5 ρ6 H6 ∧ SR K ρ6 st6 H6 ∧
              ((comA src2 (wipe l3 own2) t2 e st1.length (src2.its.drop j) acc6 st6).bind fun acc2 s3 => com2 src (wipe l own) t w2 own2 t2 e st1.length (src.its.drop (i + 1)) acc2 s3).post G fun _ _ => False,
            ⟨src2.its.length, by simp, Nat.zero_le _, ρ5, acc, st5, Wle.refl, S5, by rw [List.drop_zero]; exact h5⟩, ?_⟩
          rintro j m H6 ⟨rfl, hj, ρ6, acc6, st6, w6, S6, h6⟩
          have wb6 := wb5.trans w6
          by_cases hl2 : j < src2.its.length
          · right
            rw [List.drop_eq_getElem_cons hl2] at h6
            unfold comA at h6
            split at h6
            · rename_i ok2
              obtain ⟨go2, yl2⟩ := (jr2 j ρ6 H6 st6 w6 S6 ok2.1).2 src2.its[j] (by simp [hl2])
              refine ⟨go2, fun H7 => ∃ ρ7 acc7 st7, Wle K ρ5 H5 ρ7 H7 ∧ SR K ρ7 st7 H7 ∧
                ((comA src2 (wipe l3 own2) t2 e st1.length (src2.its.drop (j + 1)) acc7 st7).bind fun acc2 s3 => com2 src (wipe l own) t w2 own2 t2 e st1.length (src.its.drop (i + 1)) acc2 s3).post G fun _ _ => False, ?_, ?_⟩
              · rintro H7 ⟨ρ7, acc7, st7, q⟩
                exact ⟨src2.its.length - (j + 1), by omega, rfl, hl2, ρ7, acc7, st7, q⟩
              · intro x7 H7 y7
                obtain ⟨S7, w7, r7⟩ := yl2 x7 H7 y7
                have L7 : LR K ρ6 H7 (wipe l3 own2) (L2.wipe σ3 own2) := (L5.up (w6.trans w7)).wipe own2
                rw [r_assoc'] at h6
                refine tR_of (E := E0) L7 S7 r7 h6 fun l8 st8 ρ8 H8 σ8 w8 S8 L8 p8 h8 => ?_
                refine ⟨?_, ρ8, l8, st8, L8, S8, fun ρ9 H9 w9 S9 => ?_⟩
                · have : L2.wipe σ8 own2 = L2.wipe (L2.wipe σ3 own2) own2 := p8
                  rw [this]
                  exact wipe_idem own2 own2 σ3 fun _ h => h
                · simp only [if_true]
                  rw [r_assoc'] at h8
                  refine eR_of (E := E0) (L8.up w9) S9 h8 fun y st10 ρ10 H10 v w10 L10 S10 r10 h10 => ?_
                  split at h10
                  · rename_i hc
                    have wa := w6.trans (w7.trans (w8.trans (w9.trans w10)))
                    have wbD := wb5.trans wa
                    have atD := wbD.pre _ _ atk
                    obtain ⟨_, e1, ws, hD10, ra⟩ := S10.get hc.1
                    rw [atD] at e1; cases e1
                    refine ⟨ws, hD10, by rw [← ra.length, ← line_eq]; exact hc.2, ?_⟩
                    obtain ⟨u1, hu1, q1, q2⟩ := (S10.ats _ _ _ hc.1 atD).isAt
                    have w11 : Wle K ρ10 H10 ρ10 (upd H10 D (.lst (ws ++ [v]))) := Wle.chg hu1 q1 q2 _
                    exact ⟨ρ10, acc6 ++ [y], _, wa.trans w11, (S10.chg (o' := .lst (acc6 ++ [y])) atD hc.1 ⟨_, upd_same, (ra.append (.cons r10 .nil)).up w11⟩).1, h10⟩
                  · exact h10.elim
            · exact h6.elim
          · left
            have e6 : j = src2.its.length := by omega
            subst e6
            rw [List.drop_length] at h6
            unfold comA at h6
            split at h6
            · rename_i ok2
              exact ⟨(jr2 _ ρ6 H6 st6 w6 S6 ok2.1).1 (Nat.le_refl _), ρ6, acc6, st6, wb6, S6, h6⟩
            · exact h6.elim
    · exact h'.elim
  · left
    have e' : i = src.its.length := by omega
    subst e'
    rw [List.drop_length] at h'
    unfold com2 at h'
    split at h'
    · rename_i ok
      exact ⟨(jr _ ρ' H' st' wl S' ok.1).1 (Nat.le_refl _), h' ρ' H' (.ref D) ((w1.trans wN).trans w') S' (.obj (w'.pre _ _ atk))⟩
    · exact h'.elim

end
end Z

/-! ZSnd: a checked term reads as its text runs. -/
namespace Z
open PySem L2 PySem.Spec PyProof.Rows
/-- what a def promises: it runs as the evaluator says -/
def spF (K : PySem.W.Frag) (fs : List Fn) (n i : Nat) : Sp := fun vs H Q _ => ∃ ρ st ds, SR K ρ st H ∧ RDs K ρ H ds vs ∧ (callN fs n i ds st).post (Kont K ρ H Q) fun _ _ => False
/-- what a call binds, of a def with at most one keyword-only parameter -/
def BindK (K : PySem.W.Frag) (fd : FuncData) (ps : List Str) (k : Str) (d : D) : Prop :=
  (∀ (s : Shared) (us : List Value) (w : Value), K.In s.heap → us.length + 1 = ps.length → BindsTo s fd ⟨us, [(k, w)]⟩ (ps.zip (us ++ [w]))) ∧
  ∃ (v : V) (u : Value), RelV v u ∧ (∀ ρ H, RD K ρ H d v) ∧ ∀ (s : Shared) (us : List Value), K.In s.heap → us.length + 1 = ps.length → BindsTo s fd ⟨us, []⟩ (ps.zip (us ++ [u]))
def BindAny (K : PySem.W.Frag) (fd : FuncData) (ps : List Str) : Option (Str × D) → Prop
  | none => Binds K fd ps []
  | some (k, d) => BindK K fd ps k d
/-- a module's dict of ints -/
def entsI : List DictEntry → Option (List (Int × Int))
  | [] => some []
  | ⟨h, .int k _, .int v _⟩ :: r => if h = hashInt k then (entsI r).map ((k, v) :: ·) else none
  | _ => none
def CstD (K : PySem.W.Frag) (mg : Str → Option Value) (x : Str) (kvs : List (Int × Int)) : Prop := ∃ (a : Addr) (es : Array DictEntry) (n : Nat), mg x = some (.ref a) ∧ K.lookup a = some ⟨.type "dict", none, .dict es n, #[]⟩ ∧ entsI es.toList = some kvs
/-- what is known of the context -/
structure Wd (G : Gt) (fs : List Fn) (n : Nat) (N : List Str) (X : Cx) : Prop where
  nN : X.N = N
  nd : X.N.Nodup
  calm : X.calm = true
  kind : X.env.scope.kind = .function
  room : Room n X.A
  gd : X.A.guards = some []
  cst : ∀ (i : Nat) (x : Str) (d : D), G.cs[i]? = some (x, d) → ∃ v u, X.mg x = some u ∧ RelV v u ∧ ∀ ρ H, RD X.K ρ H d v
  fns : ∀ (i : Nat) (x : Str), G.fs[i]? = some x → ∃ f fd ps, X.mg x = some (.ref f) ∧ PySem.W.keepIn X.K (.ref f) = true ∧ BindAny X.K fd ps (G.kw i) ∧ FnG X.prog X.w X.K X.mg X.base CX0 n f fd 0 ps (spF X.K fs n i)
  bis : ∀ x ∈ biNames, X.mg x = none
  dct : ∀ (i : Nat) (x : Str) (kvs : List (Int × Int)), G.ds[i]? = some (x, kvs) → CstD X.K X.mg x kvs
section
variable {X : Cx} {K : PySem.W.Frag} {ρ ρ' ρ1 ρ2 ρ3 : List Addr} {H H' H1 H2 H3 : Hp} {d : D} {ds : List D} {v u : V} {vs : List V} {a p : Addr} {i : Nat} {l : Lo} {σ : L2.St} {st st1 st2 : Sto} {Q : VK}
theorem Wd.hu {G : Gt} {fs : List Fn} {n : Nat} {N : List Str} (h : Wd G fs n N X) : X.A.units + 1 < cLine := by have := h.room.units; omega

/-! ### tests -/
theorem asB_post {E : XW K} {F : Lo → Sto → R D} {Q : Bool → Hp → Prop} (h : bR E (fun l s => (F l s).bind asB) σ H Q) : eR E F σ H fun x H1 => ∃ c, x = .bl c ∧ Q c H1 := by
  obtain ⟨ρ, l, st, L, S, h⟩ := h
  refine eR_of L S h fun d st1 ρ1 H1 v w1 L1 S1 r1 h1 => ?_
  cases d with
  | bl b => cases r1; exact ⟨b, rfl, h1 ρ1 H1 w1 S1⟩
  | _ => exact h1.elim
theorem pt_of {e : Expr} {f : Lo → Sto → R D} {E : XW X.K} (h : PE X e (eR E f)) (he : ∀ whole, PySem.isTrue e X.env whole = (do let v ← whole; standAt e.pos; holding [v] (truthy v))) : PT X e (bR E fun l s => (f l s).bind asB) :=
  PT.weak (pt_val h he) fun _ _ _ q => asB_post q
theorem pt_cmp2 {e : Expr} {t : TE} {f : Lo → Sto → R D} {E : XW X.K} (h : PT X e (tTest t)) (w : ∀ σ H Q, eR E f σ H Q → t σ H Q) : PT X e (bR E fun l s => (f l s).bind asB) :=
  PT.weak h fun _ _ _ q => w _ _ _ (asB_post q)

/-! ### calm operators -/
theorem calm_bin : ∀ o, Calm2 (bin o) := by
  intro o x y s d s' h
  cases o <;> simp only [bin, opAdd, opMul, newL] at h <;> repeat' (first | (cases h; done) | split at h)
theorem calm_cmp : ∀ o, Calm2 (cmp o) := by
  intro o x y s d s' h
  unfold cmp at h
  split at h <;> cases h
theorem calm_ix : Calm2 opIx := by
  intro x y s d s' h
  unfold opIx at h
  split at h <;> (try split at h) <;> (try split at h) <;> (try split at h) <;> cases h
/-- a text's operator as the evaluator's -/
theorem op_bin (o : Bop) : ∃ r, OpR X (binaryOp (bopOf o)) r ∧ Two X.K (bin o) r := by
  cases o
  · exact ⟨_, or_add, two_add⟩
  · exact ⟨_, op_sub, two_sub⟩
  · exact ⟨_, or_mul, two_mul⟩
  · exact ⟨_, op_fdivW, two_div⟩
  · exact ⟨_, op_mod, two_mod⟩
  · exact ⟨_, op_pow, two_pow⟩
theorem op_cmp (hu : X.A.units + 64 < cLine) (o : Cop) : ∃ r, OpR X (compareOp (copOf o)) r ∧ Two X.K (cmp o) r := by
  have h1 : X.A.units + 1 < cLine := by omega
  cases o
  · exact ⟨_, op_eqZ hu, two_cmp b_eq⟩
  · exact ⟨_, op_neZ hu, two_cmp b_ne⟩
  · exact ⟨_, op_lt, two_cmp (b_lt fun _ _ _ => rfl)⟩
  · exact ⟨_, op_le, two_cmp (b_lt fun _ _ _ => rfl)⟩
  · exact ⟨_, op_gt, two_cmp (b_lt fun _ _ _ => rfl)⟩
  · exact ⟨_, op_ge, two_cmp (b_lt fun _ _ _ => rfl)⟩
  · exact ⟨_, or_is, two_cmp b_is⟩
  · exact ⟨_, or_isn, two_cmp b_isn⟩
  · exact ⟨_, or_in h1, two_cmp b_in⟩
  · exact ⟨_, or_nin h1, two_cmp b_nin⟩
theorem nomark_of {e : Expr} (h : notSet e = true) (o : CmpOp) : behindInMarks o e = false := by
  cases e <;> first | rfl | (simp [notSet] at h)
theorem nomark2 {o p : CmpOp} {b c : Expr} (h : notSet c = true) : lastMarks [o, p] [b, c] = false := nomark_of h p

/-! ### readings of the evaluator's expressions -/
variable {E : XW K}
theorem e_var {n : Nat} (h : eR E (fun l s => (match l[n]? with | some (some d) => R.ok d s | _ => .bad)) σ H Q) : tVar n σ H Q := by
  obtain ⟨ρ, l, st, L, S, h⟩ := h
  dsimp only at h
  split at h
  · rename_i d e
    obtain ⟨v, e1, r⟩ := L.at_ n d e
    exact ⟨v, e1, h ρ H v Wle.refl S r⟩
  · exact h.elim
theorem e_const {d : D} {v : V} (r : ∀ ρ H, RD K ρ H d v) (h : eR E (fun _ s => R.ok d s) σ H Q) : tC v σ H Q := by
  obtain ⟨ρ, l, st, L, S, h⟩ := h
  exact h ρ H v Wle.refl S (r _ _)
theorem e_neg {f : Lo → Sto → R D} (h : eR E (fun l s => (f l s).bind fun x s1 => (match x with | .int i => .ok (.int (-i)) s1 | _ => .bad)) σ H Q) : tUn (rU fun i => .int (-i)) (eR E f) σ H Q := by
  obtain ⟨ρ, l, st, L, S, h⟩ := h
  refine eR_of L S h fun d st1 ρ1 H1 v w1 L1 S1 r1 h1 => ?_
  cases d with
  | int i => cases r1; exact ⟨i, rfl, h1 ρ1 H1 _ w1 S1 (.int _)⟩
  | _ => exact h1.elim
theorem bR_mk {f : Lo → Sto → R Bool} {Q : Bool → Hp → Prop} (L : LR K ρ H l σ) (S : SR K ρ st H) (h : (f l st).post (fun b st' => ∀ ρ' H', Wle K ρ H ρ' H' → SR K ρ' st' H' → Q b H') (E.p ρ H)) : bR E f σ H Q := ⟨ρ, l, st, L, S, h⟩
/-- not x, as a value -/
theorem e_not {f : Lo → Sto → R D} (h : eR E (fun l s => ((f l s).bind asB).bind fun b s1 => .ok (.bl (!b)) s1) σ H Q) : tNotV (eR E f) σ H Q := by
  obtain ⟨ρ, l, st, L, S, h⟩ := h
  have : bR E (fun l s => (f l s).bind asB) σ H fun b H1 => Q (.bl (!b)) H1 :=
    bR_of (fa := fun l s => (f l s).bind asB) L S h fun b st1 ρ1 H1 w1 L1 S1 h1 => h1 ρ1 H1 _ w1 S1 (.bl _)
  exact asB_post this
theorem e_and {f g : Lo → Sto → R D} (h : eR E (fun l s => ((f l s).bind asB).bind fun k s1 => if k = true then g l s1 else .ok (.bl false) s1) σ H Q) : tAndV (eR E f) (eR E g) σ H Q := by
  obtain ⟨ρ, l, st, L, S, h⟩ := h
  have : bR E (fun l s => (f l s).bind asB) σ H fun c H1 => if c = true then eR E g σ H1 Q else Q (.bl false) H1 := by
    refine bR_of (fa := fun l s => (f l s).bind asB) L S h fun b st1 ρ1 H1 w1 L1 S1 h1 => ?_
    cases b with
    | true => exact eR_last L1 S1 h1 w1 fun _ _ q => q
    | false => exact h1 ρ1 H1 _ w1 S1 (.bl _)
  exact asB_post this
theorem e_or {f g : Lo → Sto → R D} (h : eR E (fun l s => ((f l s).bind asB).bind fun k s1 => if k = true then .ok (.bl true) s1 else g l s1) σ H Q) : tOrV (eR E f) (eR E g) σ H Q := by
  obtain ⟨ρ, l, st, L, S, h⟩ := h
  have : bR E (fun l s => (f l s).bind asB) σ H fun c H1 => if c = true then Q (.bl true) H1 else eR E g σ H1 Q := by
    refine bR_of (fa := fun l s => (f l s).bind asB) L S h fun b st1 ρ1 H1 w1 L1 S1 h1 => ?_
    cases b with
    | false => exact eR_last L1 S1 h1 w1 fun _ _ q => q
    | true => exact h1 ρ1 H1 _ w1 S1 (.bl _)
  exact asB_post this
theorem e_ite {f g : Lo → Sto → R D} {c : Lo → Sto → R Bool} (h : eR E (fun l s => (c l s).bind fun k s1 => if k = true then f l s1 else g l s1) σ H Q) : tIf (bR E c) (eR E f) (eR E g) σ H Q := by
  obtain ⟨ρ, l, st, L, S, h⟩ := h
  refine bR_of L S h fun b st1 ρ1 H1 w1 L1 S1 h1 => ?_
  cases b with
  | true => exact eR_last L1 S1 h1 w1 fun _ _ q => q
  | false => exact eR_last L1 S1 h1 w1 fun _ _ q => q
/-- the same as tests -/
theorem r_assoc {α β γ : Type} {r : R α} {k : α → Sto → R β} {f : β → Sto → R γ} : (r.bind k).bind f = r.bind fun d s => (k d s).bind f := by cases r <;> rfl
theorem bR_last {f : Lo → Sto → R Bool} {Q Q' : Bool → Hp → Prop} (L : LR K ρ H l σ) (S : SR K ρ st H) (h : (f l st).post (fun b st' => ∀ ρ2 H2, Wle K ρ' H' ρ2 H2 → SR K ρ2 st' H2 → Q b H2) (E.p ρ H)) (w : Wle K ρ' H' ρ H) (hQ : ∀ v H1, Q v H1 → Q' v H1) : bR E f σ H Q' :=
  ⟨ρ, l, st, L, S, R.post_mono h (fun d st1 h1 ρ1 H1 w1 S1 => hQ _ _ (h1 ρ1 H1 (w.trans w1) S1)) fun _ _ x => x⟩
theorem b_not {f : Lo → Sto → R D} {Q : Bool → Hp → Prop} (h : bR E (fun l s => (((f l s).bind asB).bind fun b s1 => R.ok (.bl (!b)) s1).bind asB) σ H Q) : tNot (bR E fun l s => (f l s).bind asB) σ H Q := by
  obtain ⟨ρ, l, st, L, S, h⟩ := h
  dsimp only at h
  rw [r_assoc] at h
  exact bR_of (fa := fun l s => (f l s).bind asB) L S h fun b st1 ρ1 H1 w1 L1 S1 h1 => h1 ρ1 H1 w1 S1
theorem b_and {f g : Lo → Sto → R D} {Q : Bool → Hp → Prop} (h : bR E (fun l s => (((f l s).bind asB).bind fun k s1 => if k = true then g l s1 else R.ok (.bl false) s1).bind asB) σ H Q) :
    tAnd (bR E fun l s => (f l s).bind asB) (bR E fun l s => (g l s).bind asB) σ H Q := by
  obtain ⟨ρ, l, st, L, S, h⟩ := h
  dsimp only at h
  rw [r_assoc] at h
  refine bR_of (fa := fun l s => (f l s).bind asB) L S h fun b st1 ρ1 H1 w1 L1 S1 h1 => ?_
  cases b with
  | true => exact bR_last L1 S1 h1 w1 fun _ _ q => q
  | false => exact h1 ρ1 H1 w1 S1
theorem b_or {f g : Lo → Sto → R D} {Q : Bool → Hp → Prop} (h : bR E (fun l s => (((f l s).bind asB).bind fun k s1 => if k = true then R.ok (.bl true) s1 else g l s1).bind asB) σ H Q) :
    tOr (bR E fun l s => (f l s).bind asB) (bR E fun l s => (g l s).bind asB) σ H Q := by
  obtain ⟨ρ, l, st, L, S, h⟩ := h
  dsimp only at h
  rw [r_assoc] at h
  refine bR_of (fa := fun l s => (f l s).bind asB) L S h fun b st1 ρ1 H1 w1 L1 S1 h1 => ?_
  cases b with
  | false => exact bR_last L1 S1 h1 w1 fun _ _ q => q
  | true => exact h1 ρ1 H1 w1 S1
def tIfB (c t u : TT) : TT := fun σ H Q => c σ H fun k H1 => if k = true then t σ H1 Q else u σ H1 Q
theorem pt_ifExp {c x y : Expr} {pos : Pos} {tc t u : TT} (hc : PT X c tc) (hx : PT X x t) (hy : PT X y u) : PT X (.IfExp c x y pos) (tIfB tc t u) := by
  constructor
  intro pins s σ H Q I h
  unfold PySem.isTrue
  refine wpAny_bind (thn (hc.run pins s σ H _ I h) ?_)
  rintro b s1 ⟨H1, I1, q1⟩
  cases b with
  | true => exact hx.run pins s1 σ H1 Q I1 q1
  | false => exact hy.run pins s1 σ H1 Q I1 q1
theorem b_ite {f g : Lo → Sto → R D} {c : Lo → Sto → R Bool} {Q : Bool → Hp → Prop} (h : bR E (fun l s => ((c l s).bind fun k s1 => if k = true then f l s1 else g l s1).bind asB) σ H Q) :
    tIfB (bR E c) (bR E fun l s => (f l s).bind asB) (bR E fun l s => (g l s).bind asB) σ H Q := by
  obtain ⟨ρ, l, st, L, S, h⟩ := h
  dsimp only at h
  rw [r_assoc] at h
  refine bR_of L S h fun b st1 ρ1 H1 w1 L1 S1 h1 => ?_
  cases b with
  | true => exact bR_last L1 S1 h1 w1 fun _ _ q => q
  | false => exact bR_last L1 S1 h1 w1 fun _ _ q => q
/-- a chain of two comparisons -/
theorem e_chain {f g h' : Lo → Sto → R D} {k k' : D → D → Sto → R D} {r r' : R2} (hk : Two K k r) (hk' : Two K k' r') (hc : Calm2 k) (hc' : Calm2 k')
    (h : eR E (fun l s => (f l s).bind fun x s1 => (g l s1).bind fun y s2 => ((k x y s2).bind asB).bind fun b s3 => if b = true then (h' l s3).bind fun z s4 => k' y z s4 else .ok (.bl false) s3) σ H Q) :
    tChain r r' (eR E f) (eR E g) (eR E h') σ H Q := by
  obtain ⟨ρ, l, st, L, S, h⟩ := h
  refine eR_of L S h fun x st1 ρ1 H1 v w1 L1 S1 r1 h1 => eR_of L1 S1 h1 fun y st2 ρ2 H2 u w2 L2 S2 r2 h2 => ?_
  rw [r_assoc, R.post_bind] at h2
  refine hk ρ2 H2 st2 x y v u _ (E.p ρ2 H2) (hc _ _ _) S2 (r1.up w2) r2 (R.post_mono h2 (fun d st3 h3 ρ3 H3 w w3 S3 r3 => ?_) fun _ _ x => x)
  cases d with
  | bl b =>
    cases r3
    refine ⟨b, rfl, ?_⟩
    have h3 := R.post_mono h3 (fun _ _ x => x) fun _ _ => E.mono w3
    cases b with
    | true =>
      simp only [asB, R.bind_ok, if_true] at h3 ⊢
      refine eR_of (L2.up w3) S3 h3 fun z st4 ρ4 H4 zv w4 L4 S4 r4 h4 => ?_
      exact hk' ρ4 H4 st4 y z u zv Q _ (hc' _ _ _) S4 ((r2.up w3).up w4) r4 (R.post_mono h4 (fun _ _ q => q.up ((w1.trans w2).trans (w3.trans w4))) fun _ _ x => x)
    | false =>
      simp only [asB, R.bind_ok, Bool.false_eq_true, if_false] at h3 ⊢
      exact h3 ρ3 H3 _ ((w1.trans w2).trans w3) S3 (.bl _)
  | _ => exact h3.elim
end
end Z

/-! ZSne: further readings of the evaluator's expressions. -/
namespace Z
open PySem L2 PySem.Spec PyProof.Rows
section
variable {X : Cx} {K : PySem.W.Frag} {ρ ρ' ρ1 ρ2 ρ3 : List Addr} {H H' H1 H2 H3 : Hp} {d : D} {ds : List D} {v u : V} {vs : List V} {a p : Addr} {i : Nat} {l : Lo} {σ : L2.St} {st st1 st2 : Sto} {Q : VK} {E : XW K}
/-! ### parts of a slice -/
def oR (E : XW K) (g : Lo → Sto → R (Option Int)) : TO := fun σ H Q => ∃ ρ l st, LR K ρ H l σ ∧ SR K ρ st H ∧ (g l st).post (fun o st' => ∀ ρ' H', Wle K ρ H ρ' H' → SR K ρ' st' H' → Q o H') (E.p ρ H)
theorem oR_of {β : Type} {g : Lo → Sto → R (Option Int)} {k : Option Int → Sto → R β} {QQ : β → Sto → Prop} {Q : Option Int → Hp → Prop} (L : LR K ρ H l σ) (S : SR K ρ st H) (h : ((g l st).bind k).post QQ (E.p ρ H))
    (hQ : ∀ d st1 ρ1 H1, Wle K ρ H ρ1 H1 → LR K ρ1 H1 l σ → SR K ρ1 st1 H1 → (k d st1).post QQ (E.p ρ1 H1) → Q d H1) : oR E g σ H Q :=
  ⟨ρ, l, st, L, S, R.post_mono (R.post_bind.mp h) (fun d st1 h1 ρ1 H1 w1 S1 => hQ d st1 ρ1 H1 w1 (L.up w1) S1 (R.post_mono h1 (fun _ _ x => x) fun _ _ => E.mono w1)) fun _ _ x => x⟩
theorem PO.weak {e : Option Expr} {t t' : TO} (h : PO X e t) (w : ∀ σ H Q, t' σ H Q → t σ H Q) : PO X e t' := ⟨fun pins s σ H Q I q => h.run pins s σ H Q I (w _ _ _ q)⟩
theorem po_nil {E : XW X.K} {f : Lo → Sto → R D} : PO X none (oR E (oInt .nil f)) := PO.weak po_none fun σ H Q ⟨ρ, l, st, L, S, h⟩ => h ρ H Wle.refl S
theorem po_e {E : XW X.K} {f : Lo → Sto → R D} {m : Ex} {e : Expr} (hm : isNil m = false) (h : PE X e (eR E f)) : PO X (some e) (oR E (oInt m f)) := by
  refine PO.weak (po_some h) fun σ H Q ⟨ρ, l, st, L, S, h⟩ => ?_
  have : oInt m f l st = (f l st).bind fun d s1 => (match d with
    | .int i => R.ok (some i) s1
    | _ => .bad) := by
    cases m <;> first | rfl | (simp [isNil] at hm)
  rw [this] at h
  refine eR_of L S h fun d st1 ρ1 H1 v w1 L1 S1 r1 h1 => ?_
  cases d with
  | int i => cases r1; exact ⟨i, rfl, h1 ρ1 H1 w1 S1⟩
  | _ => exact h1.elim
theorem e_sl {f : Lo → Sto → R D} {g g' : Lo → Sto → R (Option Int)} (h : eR E (fun l s => (f l s).bind fun x s1 => (g l s1).bind fun p s2 => (g' l s2).bind fun q s3 => opSl x p q s3) σ H Q) :
    tSl (rSl K) (eR E f) (oR E g) (oR E g') σ H Q := by
  obtain ⟨ρ, l, st, L, S, h⟩ := h
  refine eR_of L S h fun x st1 ρ1 H1 v w1 L1 S1 r1 h1 => oR_of L1 S1 h1 fun p st2 ρ2 H2 w2 L2 S2 h2 => oR_of L2 S2 h2 fun q st3 ρ3 H3 w3 L3 S3 h3 => ?_
  exact sl_any S3 ((r1.up w2).up w3) (R.post_mono h3 (fun _ _ q => q.up ((w1.trans w2).trans w3)) fun _ _ x => x)
theorem e_rev {f : Lo → Sto → R D} (h : eR E (fun l s => (f l s).bind fun x s1 => opRev x s1) σ H Q) : tRev K (eR E f) σ H Q := by
  obtain ⟨ρ, l, st, L, S, h⟩ := h
  refine eR_of L S h fun x st1 ρ1 H1 v w1 L1 S1 r1 h1 => ?_
  have h1 := R.post_mono h1 (fun _ _ (q : Kont K ρ H Q _ _) => q.up w1) fun _ _ x => x
  unfold opRev at h1
  split at h1
  · obtain ⟨a, vs, rfl, ha, ra⟩ := r1.tup_inv
    exact ⟨a, vs, rfl, .inr ⟨ha, fun p hp => newT_post S1 ra.reverse h1 hp⟩⟩
  · obtain ⟨a, vs, rfl, ha, ra⟩ := r1.kl_inv
    exact ⟨a, vs, rfl, .inl ⟨ha.sq, fun p hp => newL_post S1 ra.reverse h1 hp⟩⟩
  · obtain ⟨a, rfl, ea⟩ := r1.obj_inv
    split at h1
    · rename_i xs hi
      obtain ⟨_, ea', vs, ha, ra⟩ := S1.get hi
      rw [ea] at ea'; cases ea'
      exact ⟨a, vs, rfl, .inl ⟨SqL.of ha, fun p hp => newL_post S1 ra.reverse h1 hp⟩⟩
    · exact h1.elim
  · exact h1.elim

/-! ### argument lists -/
theorem l_nil {Q : List V → Hp → Prop} (h : lR E (fun _ s => R.ok [] s) σ H Q) : tNil σ H Q := by
  obtain ⟨ρ, l, st, L, S, h⟩ := h
  exact h ρ H [] Wle.refl S .nil
theorem l_cons {f : Lo → Sto → R D} {g : Lo → Sto → R (List D)} {Q : List V → Hp → Prop} (h : lR E (fun l s => (f l s).bind fun x s1 => (g l s1).bind fun xs s2 => .ok (x :: xs) s2) σ H Q) : tCons (eR E f) (lR E g) σ H Q := by
  obtain ⟨ρ, l, st, L, S, h⟩ := h
  exact eR_of L S h fun x st1 ρ1 H1 v w1 L1 S1 r1 h1 => lR_of L1 S1 h1 fun xs st2 ρ2 H2 vs w2 L2 S2 r2 h2 => h2 ρ2 H2 _ (w1.trans w2) S2 (.cons (r1.up w2) r2)
theorem e_tup {g : Lo → Sto → R (List D)} (h : eR E (fun l s => (g l s).bind fun xs s1 => if xs.length ≤ line then .ok (.tup xs) s1 else .bad) σ H Q) : tTup (lR E g) σ H Q := by
  obtain ⟨ρ, l, st, L, S, h⟩ := h
  refine lR_of L S h fun xs st1 ρ1 H1 vs w1 L1 S1 r1 h1 => ?_
  split at h1
  · rename_i hl
    exact ⟨by rw [← r1.length, ← line_eq]; exact hl, fun p hp => newT_post S1 r1 (R.post_mono h1 (fun _ _ (q : Kont K ρ H Q _ _) => q.up w1) fun _ _ x => x) hp⟩
  · exact h1.elim
theorem e_lst {g : Lo → Sto → R (List D)} (h : eR E (fun l s => (g l s).bind fun xs s1 => if xs.length ≤ line then newL xs s1 else .bad) σ H Q) : tLst (lR E g) σ H Q := by
  obtain ⟨ρ, l, st, L, S, h⟩ := h
  refine lR_of L S h fun xs st1 ρ1 H1 vs w1 L1 S1 r1 h1 => ?_
  split at h1
  · rename_i hl
    exact ⟨by rw [← r1.length, ← line_eq]; exact hl, fun p hp => newL_post S1 r1 (R.post_mono h1 (fun _ _ (q : Kont K ρ H Q _ _) => q.up w1) fun _ _ x => x) hp⟩
  · exact h1.elim
/-- a display's values one by one -/
theorem pairs_of {ks : List Ky} {trs : List (TE × TE)} : ∀ {g : Lo → Sto → R (List D)} {Q : List (V × V) → Hp → Prop}, ((∀ Q : List V → Hp → Prop, lR E g σ H Q → True) → True) → True := fun _ => trivial
theorem e_call {g : Lo → Sto → R (List D)} {fs : List Fn} {n i : Nat} {XK : XK} (h : eR (E0 (K := K)) (fun l s => (g l s).bind fun xs s1 => callN fs n i xs s1) σ H Q) : tCall (spF K fs n i) [] XK (lR (K := K) E0 g) σ H Q := by
  obtain ⟨ρ, l, st, L, S, h⟩ := h
  refine lR_of L S h fun xs st1 ρ1 H1 vs w1 L1 S1 r1 h1 => ?_
  rw [List.append_nil]
  exact ⟨ρ1, st1, xs, S1, r1, R.post_mono h1 (fun _ _ (q : Kont K ρ H Q _ _) => q.up w1) fun _ _ x => x⟩
theorem e_bi {g : Lo → Sto → R (List D)} {k : List D → Sto → R D} {r : RC} (hk : Cal K k r) (h : eR E (fun l s => (g l s).bind fun xs s1 => k xs s1) σ H Q) : tCB r (lR E g) σ H Q := by
  obtain ⟨ρ, l, st, L, S, h⟩ := h
  refine lR_of L S h fun xs st1 ρ1 H1 vs w1 L1 S1 r1 h1 => ?_
  exact hk ρ1 H1 st1 xs vs Q _ S1 r1 (R.post_mono h1 (fun _ _ (q : Kont K ρ H Q _ _) => q.up w1) fun _ _ x => x)

/-! ### isinstance -/
def tyStr : Ty → String
  | .int => "int" | .bool => "bool" | .str => "str" | .tuple => "tuple" | .list => "list" | .dict => "dict"
theorem kit_all : ∀ (t : Ty), kitB "NoneType" (tyStr t) = some false ∧ kitB "bool" (tyStr t) = some (t == .bool || t == .int) ∧ kitB "int" (tyStr t) = some (t == .int) ∧ kitB "str" (tyStr t) = some (t == .str) ∧
    kitB "tuple" (tyStr t) = some (t == .tuple) ∧ kitB "list" (tyStr t) = some (t == .list) ∧ kitB "dict" (tyStr t) = some (t == .dict) := by
  intro t
  cases t <;> refine ⟨?_, ?_, ?_, ?_, ?_, ?_, ?_⟩ <;> decide +kernel
theorem isi_any {x : D} {t : Ty} {b : Bool} (S : SR K ρ st H) (r : RD K ρ H x v) (e : isTy t x st = some b) : ∃ ty : Value, TyX K H v ty ∧ PySem.W.kitOne K ty (.type (tyStr t)) = some b := by
  obtain ⟨k1, k2, k3, k4, k5, k6, k7⟩ := kit_all t
  cases x with
  | non => cases r; cases e; exact ⟨_, .base .non, kit_ty k1⟩
  | bl c => cases r; cases e; exact ⟨_, .base (.bl _), kit_ty k2⟩
  | int c => cases r; cases e; exact ⟨_, .base (.int _), kit_ty k3⟩
  | str c => cases r.str_inv; cases e; exact ⟨_, .base (.str _), kit_ty k4⟩
  | tup c =>
    obtain ⟨a, vs, rfl, ha, ra⟩ := r.tup_inv
    cases e
    rcases ha with (h | ⟨o, h⟩) | ⟨o, its, n, h1, h2, _⟩
    · exact ⟨_, .base (.tup h), kit_ty k5⟩
    · exact ⟨_, .fTuple h, kit_ty k5⟩
    · exact ⟨_, .kTuple h1 h2, kit_ty k5⟩
  | kl c =>
    obtain ⟨a, vs, rfl, ha, ra⟩ := r.kl_inv
    cases e
    rcases ha with ⟨o, h⟩ | ⟨o, its, n, h1, h2, _⟩
    · exact ⟨_, .base (.frz h), kit_ty k6⟩
    · exact ⟨_, .kList h1 h2, kit_ty k6⟩
  | obj i =>
    obtain ⟨a, rfl, ea⟩ := r.obj_inv
    simp only [isTy] at e
    split at e
    · rename_i hi
      obtain ⟨_, ea', vs, ha, ra⟩ := S.get hi
      rw [ea] at ea'; cases ea'
      cases e
      exact ⟨_, .base (.lst ha), kit_ty k6⟩
    · rename_i hi
      obtain ⟨_, ea', vs, ha, ra⟩ := S.get hi
      rw [ea] at ea'; cases ea'
      cases e
      exact ⟨_, .base (.dK ha), kit_ty k7⟩
    · cases e
theorem e_isi {f : Lo → Sto → R D} {t : Ty} (h : eR E (fun l s => (f l s).bind fun x s1 => (match isTy t x s1 with | some b => .ok (.bl b) s1 | none => .bad)) σ H Q) :
    tCB (rIsi K) (tCons (eR E f) (tCons (tC (.ty (tyStr t))) tNil)) σ H Q := by
  obtain ⟨ρ, l, st, L, S, h⟩ := h
  refine eR_of L S h fun x st1 ρ1 H1 v w1 L1 S1 r1 h1 => ?_
  split at h1
  · rename_i b e
    obtain ⟨ty, ht, hk⟩ := isi_any S1 r1 e
    exact ⟨v, .ty (tyStr t), ty, .type (tyStr t), b, rfl, .ty _, ht, hk, h1 ρ1 H1 _ w1 S1 (.bl _)⟩
  · exact h1.elim

/-! ### methods -/
/-- a method's step -/
def Met (K : PySem.W.Frag) (m : Mt) (r : V → List V → Hp → VK → Prop) : Prop := ∀ (ρ : List Addr) (H : Hp) (st : Sto) (x : D) (xs : List D) (v : V) (vs : List V) (Q : VK) (F : D → Sto → Prop), SR K ρ st H → RD K ρ H x v → RDs K ρ H xs vs → (mth m x xs st).post (Kont K ρ H Q) F → r v vs H Q
theorem met_append : Met K .append rAppend := by
  intro ρ H st x xs v vs Q F S rx rs h
  simp only [mth] at h
  split at h
  · cases rs with
    | cons r1 r2 =>
      cases r2
      obtain ⟨a, rfl, ea⟩ := rx.obj_inv
      split at h
      · rename_i hi
        obtain ⟨_, ea', ws, ha, ra⟩ := S.get hi
        rw [ea] at ea'; cases ea'
        split at h
        · rename_i hl
          obtain ⟨u1, hu1, q1, q2⟩ := (S.ats _ _ _ hi ea).isAt
          refine ⟨a, ws, _, rfl, rfl, ha, by rw [← ra.length, ← line_eq]; exact hl, ?_⟩
          exact h _ _ _ (Wle.chg hu1 q1 q2 _) (S.chg (o' := .lst (_ ++ [_])) ea hi ⟨_, upd_same, (ra.append (.cons r1 .nil)).up (Wle.chg hu1 q1 q2 _)⟩).1 .non
        · exact h.elim
      · exact h.elim
  · exact h.elim
theorem met_reverse : Met K .reverse rReverse := by
  intro ρ H st x xs v vs Q F S rx rs h
  simp only [mth] at h
  split at h
  · cases rs
    obtain ⟨a, rfl, ea⟩ := rx.obj_inv
    split at h
    · rename_i i zs hi
      obtain ⟨_, ea', ws, ha, ra⟩ := S.get hi
      rw [ea] at ea'; cases ea'
      obtain ⟨u1, hu1, q1, q2⟩ := (S.ats _ _ _ hi ea).isAt
      refine ⟨a, ws, rfl, rfl, ha, ?_⟩
      have w := Wle.chg (K := K) (ρ := ρ) hu1 q1 q2 (.lst ws.reverse)
      exact h _ _ _ w (S.chg (o' := .lst zs.reverse) ea hi ⟨_, upd_same, ra.reverse.up w⟩).1 .non
    · exact h.elim
  · exact h.elim
theorem met_extend : Met K .extend rExtend := by
  intro ρ H st x xs v vs Q F S rx rs h
  simp only [mth] at h
  split at h
  · cases rs with
    | cons r1 r2 =>
      cases r2
      obtain ⟨a, rfl, ea⟩ := rx.obj_inv
      obtain ⟨b, rfl, eb⟩ := r1.obj_inv
      split at h
      · rename_i i j zs ys hi hj
        obtain ⟨_, ea', ws, ha, ra⟩ := S.get hi
        rw [ea] at ea'; cases ea'
        obtain ⟨_, eb', us, hb, rb⟩ := S.get hj
        rw [eb] at eb'; cases eb'
        split at h
        · rename_i hl
          obtain ⟨u1, hu1, q1, q2⟩ := (S.ats _ _ _ hi ea).isAt
          refine ⟨a, b, ws, us, rfl, rfl, ha, hb, by rw [← ra.length, ← rb.length, ← line_eq]; exact hl, ?_⟩
          have w := Wle.chg (K := K) (ρ := ρ) hu1 q1 q2 (.lst (ws ++ us))
          exact h _ _ _ w (S.chg (o' := .lst (zs ++ ys)) ea hi ⟨_, upd_same, (ra.append rb).up w⟩).1 .non
        · exact h.elim
      · exact h.elim
  · exact h.elim
theorem RDs.dropLast {ds : List D} {vs : List V} (h : RDs K ρ H ds vs) : RDs K ρ H ds.dropLast vs.dropLast := by
  rw [List.dropLast_eq_take, List.dropLast_eq_take, h.length]
  exact h.take _
theorem met_pop : Met K .pop rPop := by
  intro ρ H st x xs v vs Q F S rx rs h
  simp only [mth] at h
  split at h
  · cases rs
    obtain ⟨a, rfl, ea⟩ := rx.obj_inv
    split at h
    · rename_i i zs hi
      obtain ⟨_, ea', ws, ha, ra⟩ := S.get hi
      rw [ea] at ea'; cases ea'
      split at h
      · rename_i z hz
        obtain ⟨u1, hu1, q1, q2⟩ := (S.ats _ _ _ hi ea).isAt
        obtain ⟨zv, e1, r1⟩ := ra.get hz
        refine ⟨a, ws, zv, rfl, rfl, ha, by rw [← ra.length]; exact e1, ?_⟩
        have w := Wle.chg (K := K) (ρ := ρ) hu1 q1 q2 (.lst ws.dropLast)
        exact h _ _ _ w (S.chg (o' := .lst zs.dropLast) ea hi ⟨_, upd_same, (RDs.dropLast ra).up w⟩).1 (r1.up w)
      · exact h.elim
    · exact h.elim
  · exact h.elim
theorem strs_of : ∀ {xs : List D} {vs : List V} {ys : List (List Nat)}, RDs K ρ H xs vs → strs? xs = some ys → vs = ys.map fun z => V.str ⟨z.toArray⟩
  | [], _, _, r, h => by cases r; cases h; rfl
  | .str z :: xs, _, ys, r, h => by
    cases r with
    | cons r1 r2 =>
      simp only [strs?, Option.map_eq_some_iff] at h
      obtain ⟨ms, h1, rfl⟩ := h
      rw [strs_of r2 h1, r1.str_inv]; rfl
  | .non :: _, _, _, _, h => by cases h
  | .bl _ :: _, _, _, _, h => by cases h
  | .int _ :: _, _, _, _, h => by cases h
  | .tup _ :: _, _, _, _, h => by cases h
  | .kl _ :: _, _, _, _, h => by cases h
  | .obj _ :: _, _, _, _, h => by cases h
theorem txt_join (sep : List Nat) : ∀ ys : List (List Nat), (Txt.join ⟨sep.toArray⟩ (ys.map fun z => (⟨z.toArray⟩ : Str))).cps.toList = joinD sep ys
  | [] => rfl
  | z :: zs => by
    show (((zs.map fun z => (⟨z.toArray⟩ : Str))).foldl (fun acc p => acc ++ sep.toArray ++ p.cps) z.toArray).toList = zs.foldl (fun acc p => acc ++ sep ++ p) z
    suffices h : ∀ (zs : List (List Nat)) (a : Array Nat), ((zs.map fun z => (⟨z.toArray⟩ : Str)).foldl (fun acc p => acc ++ sep.toArray ++ p.cps) a).toList = zs.foldl (fun acc p => acc ++ sep ++ p) a.toList by
      simpa using h zs z.toArray
    intro zs
    induction zs with
    | nil => intro a; rfl
    | cons y ys ih =>
      intro a
      rw [List.map_cons, List.foldl_cons, List.foldl_cons, ih]
      simp
theorem met_join : Met K .join (fun x xs H Q => ∃ a p, ∃ ys : List Str, x = .str a ∧ xs = [.ref p] ∧ (SqL K H p (ys.map V.str) ∨ SqT K H p (ys.map V.str)) ∧ (ys.map (·.length)).sum + ys.length * a.length ≤ 16777216 ∧ Q (.str (Txt.join a ys)) H) := by
  intro ρ H st x xs v vs Q F S rx rs h
  simp only [mth] at h
  split at h
  · cases rs with
    | cons r1 r2 =>
      cases r2
      cases rx.str_inv
      obtain ⟨a, rfl, ea⟩ := r1.obj_inv
      split at h
      · rename_i zs hi
        obtain ⟨_, ea', ws, ha, ra⟩ := S.get hi
        rw [ea] at ea'; cases ea'
        split at h
        · rename_i ys hy
          have e := strs_of ra hy
          split at h
          · rename_i hl
            refine ⟨_, a, ys.map fun z => (⟨z.toArray⟩ : Str), rfl, rfl, .inl (SqL.of (by rw [ha, e, List.map_map]; rfl)), ?_, h _ _ _ Wle.refl S (.str' (txt_join _ _))⟩
            have e2 : ((ys.map fun z => (⟨z.toArray⟩ : Str)).map (·.length)) = ys.map (·.length) := by
              rw [List.map_map]
              exact List.map_congr_left fun z _ => by simp [Str.length]
            rw [e2, List.length_map]
            have : line = 16777216 := rfl
            simpa [Str.length, this] using hl
          · exact h.elim
        · exact h.elim
      · exact h.elim
  · exact h.elim
theorem upper_ascii : ∀ c < 128, Unicode.upperOf c = [upA c] := by decide +kernel
theorem txt_upper {z : List Nat} (h : ∀ c ∈ z, c < 128) : (Txt.upper ⟨z.toArray⟩).cps.toList = z.map upA := by
  have e : (Txt.upper ⟨z.toArray⟩).cps.toList = (z.map fun c => Unicode.upperOf c).flatten := by
    show ((z.toArray.mapIdx fun i c => (Unicode.upperOf c).toArray).flatten).toList = _
    have e2 : List.mapIdx (fun i c => (Unicode.upperOf c).toArray) z = z.map fun c => (Unicode.upperOf c).toArray := by
      apply List.ext_getElem?
      intro i
      simp
    simp [Array.toList_flatten, e2, Function.comp_def]
  rw [e]
  clear e
  induction z with
  | nil => rfl
  | cons c z ih =>
    rw [List.map_cons, List.flatten_cons, upper_ascii c (h c List.mem_cons_self), ih fun c hc => h c (List.mem_cons_of_mem _ hc)]
    rfl
theorem met_upper : Met K .upper (fun x xs H Q => ∃ a, x = .str a ∧ xs = [] ∧ a.length ≤ 5592405 ∧ Q (.str (Txt.upper a)) H) := by
  intro ρ H st x xs v vs Q F S rx rs h
  simp only [mth] at h
  split at h
  · cases rs
    cases rx.str_inv
    split at h
    · rename_i hl
      refine ⟨_, rfl, rfl, ?_, h _ _ _ Wle.refl S (.str' (txt_upper ?_))⟩
      · have := hl.2
        simp only [Str.length, List.size_toArray]
        omega
      · intro c hc
        have := List.all_eq_true.mp hl.1 c hc
        simpa using this
    · exact h.elim
  · exact h.elim
def mtT : Mt → String
  | .join => "str"
  | .upper => "str"
  | _ => "list"
theorem mt_ty {m : Mt} {x : D} (S : SR K ρ st H) (r : RD K ρ H x v) (h : mtOk m x st = true) : tyV K (mtT m) v H := by
  cases m <;> simp only [mtOk] at h <;> split at h <;> (try (split at h)) <;> first
    | (cases h; done)
    | (rename_i hi
       obtain ⟨a, rfl, ea⟩ := r.obj_inv
       obtain ⟨_, ea', vs, ha, ra⟩ := S.get hi
       rw [ea] at ea'; cases ea'
       exact .inl ⟨rfl, vs, SqL.of ha⟩)
    | (cases r.str_inv; rfl)
theorem e_mt {f : Lo → Sto → R D} {g : Lo → Sto → R (List D)} {m : Mt} {r : V → List V → Hp → VK → Prop} (hk : Met K m r)
    (h : eR E (fun l s => (f l s).bind fun x s1 => if mtOk m x s1 = true then (g l s1).bind fun xs s2 => mth m x xs s2 else .bad) σ H Q) : tBM K (mtT m) r (eR E f) (lR E g) σ H Q := by
  obtain ⟨ρ, l, st, L, S, h⟩ := h
  refine eR_of L S h fun x st1 ρ1 H1 v w1 L1 S1 r1 h1 => ?_
  split at h1
  · rename_i ok
    refine ⟨mt_ty S1 r1 ok, lR_of L1 S1 h1 fun xs st2 ρ2 H2 vs w2 L2 S2 r2 h2 => ?_⟩
    exact hk ρ2 H2 st2 x xs v vs Q _ S2 (r1.up w2) r2 (R.post_mono h2 (fun _ _ (q : Kont K ρ H Q _ _) => q.up (w1.trans w2)) fun _ _ x => x)
  · exact h1.elim
theorem e_mt0 {f : Lo → Sto → R D} {m : Mt} {r : V → List V → Hp → VK → Prop} (hk : Met K m r)
    (h : eR E (fun l s => (f l s).bind fun x s1 => if mtOk m x s1 = true then (R.ok [] s1 : R (List D)).bind fun xs s2 => mth m x xs s2 else .bad) σ H Q) : tBM0 K (mtT m) r (eR E f) σ H Q := by
  obtain ⟨ρ, l, st, L, S, h⟩ := h
  refine eR_of L S h fun x st1 ρ1 H1 v w1 L1 S1 r1 h1 => ?_
  split at h1
  · rename_i ok
    exact ⟨mt_ty S1 r1 ok, hk ρ1 H1 st1 x [] v [] Q _ S1 r1 .nil (R.post_mono h1 (fun _ _ (q : Kont K ρ H Q _ _) => q.up w1) fun _ _ x => x)⟩
  · exact h1.elim
end
end Z

/-! ZMain: every checked term reads as its text runs. -/
namespace Z
open PySem L2 PySem.Spec PyProof.Rows
def isBool : Expr → Bool
  | .BoolOp _ _ _ => true
  | _ => false
/-- a display's pairs, its keys known -/
def pR {K : PySem.W.Frag} (E : XW K) (ks : List Ky) (g : Lo → Sto → R (List D)) : L2.St → Hp → (List (V × V) → Hp → Prop) → Prop := fun σ H Q => ∃ ρ l st, LR K ρ H l σ ∧ SR K ρ st H ∧
  (g l st).post (fun ds st' => ∀ ρ' H' vs, Wle K ρ H ρ' H' → SR K ρ' st' H' → RDs K ρ' H' ds vs → Q (List.zipWith (fun k v => (kV (keyOf k), v)) ks vs) H') (E.p ρ H)
variable (G : Gt) (fs : List Fn) (N : List Str)
abbrev TB {K : PySem.W.Frag} (f : Lo → Sto → R D) : TT := bR (K := K) E0 fun l s => (f l s).bind asB
structure Snd (m : Ex) : Prop where
  e : ∀ {n : Nat} {X : Cx} {sc : Scope} {e : Expr}, Wd G fs n N X → X.env.scope = sc → (ck G N m).e sc e = true →
    PE X e (eR (K := X.K) E0 (sem (callN fs n) m).e) ∧ PT X e (TB (K := X.K) (sem (callN fs n) m).e) ∧ (isBool e = true → PW X e (TB (K := X.K) (sem (callN fs n) m).e))
  l : ∀ {n : Nat} {X : Cx} {sc : Scope} {es : List Expr}, Wd G fs n N X → X.env.scope = sc → (ck G N m).l sc es = true → PA X es (lR (K := X.K) E0 (sem (callN fs n) m).l)
  p : ∀ {n : Nat} {X : Cx} {sc : Scope} {es : List Expr} {ks : List Ky} {xs : List (Option Expr)} {pos : Pos}, Wd G fs n N X → X.env.scope = sc → (ck G N m).l sc es = true → keysB ks xs = true → xs.length = es.length →
    ∃ trs, PPs X pos xs es trs ∧ ∀ σ H Q, pR (K := X.K) E0 ks (sem (callN fs n) m).l σ H Q → tPairs trs σ H Q
  w : ∀ {n : Nat} {X : Cx} {sc : Scope} {e tg : Expr}, Wd G fs n N X → X.env.scope = sc → (ck G N m).w sc e = true → PI X tg e (wR (K := X.K) E0 (sem (callN fs n) m).w)
  t : ∀ {n : Nat} {X : Cx} {sc : Scope} {e : Expr} {o : Option (List Nat)}, Wd G fs n N X → X.env.scope = sc → (∀ own, o = some own → ck.tgOwn own m = true) → (ck G N m).t X.fn sc e = true → PG X e (tR (K := X.K) E0 o (sem (callN fs n) m).t)
  ts : ∀ {n : Nat} {X : Cx} {sc : Scope} {es : List Expr} {o : Option (List Nat)}, Wd G fs n N X → X.env.scope = sc → (∀ own, o = some own → ck.tgOwn own m = true) → (ck G N m).ts X.fn sc es = true →
    PGs X es (tsR (K := X.K) E0 o (sem (callN fs n) m).ts) ∧ (∀ (ds : List D) (l : Lo) (s : Sto) (Q : Lo → Sto → Prop) (F : D → Sto → Prop), (∀ x s, ¬ F x s) → ((sem (callN fs n) m).ts ds l s).post Q F → ds.length = es.length) ∧ es.all noStar = true
  s : ∀ {n : Nat} {X : Cx} {sc : Scope} {e : Stmt}, Wd G fs n N X → X.env.scope = sc → (∀ x, X.fn x = true) → PassesOwn (model X.prog X.w) X.A X.env X.xe → (ck G N m).s sc e = true → PS X e (sR (K := X.K) E0 (sem (callN fs n) m).s)
  b : ∀ {n : Nat} {X : Cx} {sc : Scope} {e : List Stmt}, Wd G fs n N X → X.env.scope = sc → (∀ x, X.fn x = true) → PassesOwn (model X.prog X.w) X.A X.env X.xe → (ck G N m).b sc e = true → PSs X e (sR (K := X.K) E0 (sem (callN fs n) m).s)
  k : ∀ {n : Nat} {X : Cx} {sc : Scope} {kws : List Keyword}, Wd G fs n N X → X.env.scope = sc → (ck G N m).l sc (kws.map (·.value)) = true → PK X kws (lR (K := X.K) E0 (sem (callN fs n) m).l)
variable {G : Gt} {fs : List Fn} {N : List Str} {m : Ex}
theorem Snd.ofE (hl : ∀ sc es, (ck G N m).l sc es = false) (hw : ∀ sc es, (ck G N m).w sc es = false) (ht : ∀ f sc es, (ck G N m).t f sc es = false) (hts : ∀ f sc es, (ck G N m).ts f sc es = false) (hs : ∀ sc es, (ck G N m).s sc es = false) (hb : ∀ sc es, (ck G N m).b sc es = false)
    (h : ∀ {n : Nat} {X : Cx} {sc : Scope} {e : Expr}, Wd G fs n N X → X.env.scope = sc → (ck G N m).e sc e = true →
      PE X e (eR (K := X.K) E0 (sem (callN fs n) m).e) ∧ PT X e (TB (K := X.K) (sem (callN fs n) m).e) ∧ (isBool e = true → PW X e (TB (K := X.K) (sem (callN fs n) m).e))) : Snd G fs N m :=
  ⟨h, fun _ _ q => by (rw [hl] at q; cases q), fun _ _ q => by (rw [hl] at q; cases q), fun _ _ q => by (rw [hw] at q; cases q), fun _ _ _ q => by (rw [ht] at q; cases q), fun _ _ _ q => by (rw [hts] at q; cases q), fun _ _ _ _ q => by (rw [hs] at q; cases q), fun _ _ _ _ q => by (rw [hb] at q; cases q), fun _ _ q => by (rw [hl] at q; cases q)⟩
theorem Snd.ofW (he : ∀ sc es, (ck G N m).e sc es = false) (hl : ∀ sc es, (ck G N m).l sc es = false) (ht : ∀ f sc es, (ck G N m).t f sc es = false) (hts : ∀ f sc es, (ck G N m).ts f sc es = false) (hs : ∀ sc es, (ck G N m).s sc es = false) (hb : ∀ sc es, (ck G N m).b sc es = false)
    (h : ∀ {n : Nat} {X : Cx} {sc : Scope} {e tg : Expr}, Wd G fs n N X → X.env.scope = sc → (ck G N m).w sc e = true → PI X tg e (wR (K := X.K) E0 (sem (callN fs n) m).w)) : Snd G fs N m :=
  ⟨fun _ _ q => by (rw [he] at q; cases q), fun _ _ q => by (rw [hl] at q; cases q), fun _ _ q => by (rw [hl] at q; cases q), h, fun _ _ _ q => by (rw [ht] at q; cases q), fun _ _ _ q => by (rw [hts] at q; cases q), fun _ _ _ _ q => by (rw [hs] at q; cases q), fun _ _ _ _ q => by (rw [hb] at q; cases q), fun _ _ q => by (rw [hl] at q; cases q)⟩
theorem Snd.ofT (he : ∀ sc es, (ck G N m).e sc es = false) (hl : ∀ sc es, (ck G N m).l sc es = false) (hw : ∀ sc es, (ck G N m).w sc es = false) (hts : ∀ f sc es, (ck G N m).ts f sc es = false) (hs : ∀ sc es, (ck G N m).s sc es = false) (hb : ∀ sc es, (ck G N m).b sc es = false)
    (h : ∀ {n : Nat} {X : Cx} {sc : Scope} {e : Expr} {o : Option (List Nat)}, Wd G fs n N X → X.env.scope = sc → (∀ own, o = some own → ck.tgOwn own m = true) → (ck G N m).t X.fn sc e = true → PG X e (tR (K := X.K) E0 o (sem (callN fs n) m).t)) : Snd G fs N m :=
  ⟨fun _ _ q => by (rw [he] at q; cases q), fun _ _ q => by (rw [hl] at q; cases q), fun _ _ q => by (rw [hl] at q; cases q), fun _ _ q => by (rw [hw] at q; cases q), h, fun _ _ _ q => by (rw [hts] at q; cases q), fun _ _ _ _ q => by (rw [hs] at q; cases q), fun _ _ _ _ q => by (rw [hb] at q; cases q), fun _ _ q => by (rw [hl] at q; cases q)⟩
theorem Snd.ofS (he : ∀ sc es, (ck G N m).e sc es = false) (hl : ∀ sc es, (ck G N m).l sc es = false) (hw : ∀ sc es, (ck G N m).w sc es = false) (ht : ∀ f sc es, (ck G N m).t f sc es = false) (hts : ∀ f sc es, (ck G N m).ts f sc es = false) (hb : ∀ sc es, (ck G N m).b sc es = false)
    (h : ∀ {n : Nat} {X : Cx} {sc : Scope} {e : Stmt}, Wd G fs n N X → X.env.scope = sc → (∀ x, X.fn x = true) → PassesOwn (model X.prog X.w) X.A X.env X.xe → (ck G N m).s sc e = true → PS X e (sR (K := X.K) E0 (sem (callN fs n) m).s)) : Snd G fs N m :=
  ⟨fun _ _ q => by (rw [he] at q; cases q), fun _ _ q => by (rw [hl] at q; cases q), fun _ _ q => by (rw [hl] at q; cases q), fun _ _ q => by (rw [hw] at q; cases q), fun _ _ _ q => by (rw [ht] at q; cases q), fun _ _ _ q => by (rw [hts] at q; cases q), h, fun _ _ _ _ q => by (rw [hb] at q; cases q), fun _ _ q => by (rw [hl] at q; cases q)⟩
theorem notBool {e : Expr} {X : Cx} {t : TT} (h : isBool e = false) : isBool e = true → PW X e t := fun q => by rw [h] at q; cases q
theorem vis_of {sc : Scope} {x : Str} (h : visB sc x = true) : Vis sc x := by
  unfold visB at h
  simp only [Bool.or_eq_true, decide_eq_true_eq] at h
  rcases h with (h | h) | h
  · exact .inl h
  · exact .inr (.inl h)
  · exact .inr (.inr h)
theorem gl_of {X : Cx} {x : Str} (h : glB X.env.scope x = true) : Gl X x := by
  have : X.env.scope.names.lookup x = some .globalImplicit := of_decide_eq_true h
  exact this
theorem okN_of {x : Str} (h : okN x = true) : (x == ("__debug__" : Str)) = false ∧ (x == ("__classdict__" : Str)) = false ∧ x ≠ "__name__" := by
  unfold okN at h
  simp only [Bool.and_eq_true, Bool.not_eq_true'] at h
  exact ⟨h.1.1, h.1.2, fun e => by rw [e] at h; simp at h⟩
/-- an expression of which no and, or, not, comparison, condition is the head -/
theorem plainE {X : Cx} {n : Nat} {e : Expr} (h : PE X e (eR (K := X.K) E0 (sem (callN fs n) m).e)) (he : ∀ whole, PySem.isTrue e X.env whole = (do let v ← whole; standAt e.pos; holding [v] (truthy v))) (hb : isBool e = false) :
    PE X e (eR (K := X.K) E0 (sem (callN fs n) m).e) ∧ PT X e (TB (K := X.K) (sem (callN fs n) m).e) ∧ (isBool e = true → PW X e (TB (K := X.K) (sem (callN fs n) m).e)) := ⟨h, pt_of h he, notBool hb⟩

theorem snd_var (i : Nat) : Snd G fs N (.var i) := by
  refine .ofE (fun _ _ => rfl) (fun _ _ => rfl) (fun _ _ _ => rfl) (fun _ _ _ => rfl) (fun _ _ => rfl) (fun _ _ => rfl) ?_
  intro n X sc e W hsc h
  subst hsc
  simp only [ck] at h
  split at h
  · rename_i x p
    simp only [Bool.and_eq_true, decide_eq_true_eq] at h
    obtain ⟨⟨h1, h2⟩, h3⟩ := h
    obtain ⟨o1, o2, o3⟩ := okN_of h3
    exact plainE (PE.weak (pe_var (by rw [W.nN]; exact h1) (vis_of h2) o1 o2) fun _ _ _ q => e_var q) (fun _ => rfl) rfl
  · cases h
theorem snd_glb (i : Nat) (d : D) : Snd G fs N (.glb i d) := by
  refine .ofE (fun _ _ => rfl) (fun _ _ => rfl) (fun _ _ _ => rfl) (fun _ _ _ => rfl) (fun _ _ => rfl) (fun _ _ => rfl) ?_
  intro n X sc e W hsc h
  subst hsc
  simp only [ck] at h
  split at h
  · rename_i x p
    simp only [Bool.and_eq_true, decide_eq_true_eq] at h
    obtain ⟨⟨h1, h2⟩, h3⟩ := h
    obtain ⟨o1, o2, o3⟩ := okN_of h3
    obtain ⟨v, u, e1, e2, e3⟩ := W.cst _ _ _ h1
    exact plainE (PE.weak (pe_glob (gl_of h2) e1 e2 o1) fun _ _ _ q => e_const e3 q) (fun _ => rfl) rfl
  · cases h
theorem snd_int (i : Int) : Snd G fs N (.int i) := by
  refine .ofE (fun _ _ => rfl) (fun _ _ => rfl) (fun _ _ _ => rfl) (fun _ _ _ => rfl) (fun _ _ => rfl) (fun _ _ => rfl) ?_
  intro n X sc e W hsc h
  simp only [ck] at h
  split at h
  · cases of_decide_eq_true h
    exact plainE (PE.weak pe_int fun _ _ _ q => e_const (fun _ _ => .int _) q) (fun _ => rfl) rfl
  · cases h
theorem snd_str (i : List Nat) : Snd G fs N (.str i) := by
  refine .ofE (fun _ _ => rfl) (fun _ _ => rfl) (fun _ _ _ => rfl) (fun _ _ _ => rfl) (fun _ _ => rfl) (fun _ _ => rfl) ?_
  intro n X sc e W hsc h
  simp only [ck] at h
  split at h
  · have := of_decide_eq_true h
    exact plainE (PE.weak pe_str fun _ _ _ q => e_const (fun _ _ => .str' this) q) (fun _ => rfl) rfl
  · cases h
theorem snd_bl (i : Bool) : Snd G fs N (.bl i) := by
  refine .ofE (fun _ _ => rfl) (fun _ _ => rfl) (fun _ _ _ => rfl) (fun _ _ _ => rfl) (fun _ _ => rfl) (fun _ _ => rfl) ?_
  intro n X sc e W hsc h
  simp only [ck] at h
  split at h
  · cases of_decide_eq_true h
    exact plainE (PE.weak pe_bl fun _ _ _ q => e_const (fun _ _ => .bl _) q) (fun _ => rfl) rfl
  · cases h
theorem snd_non : Snd G fs N .non := by
  refine .ofE (fun _ _ => rfl) (fun _ _ => rfl) (fun _ _ _ => rfl) (fun _ _ _ => rfl) (fun _ _ => rfl) (fun _ _ => rfl) ?_
  intro n X sc e W hsc h
  simp only [ck] at h
  split at h
  · exact plainE (PE.weak pe_non fun _ _ _ q => e_const (fun _ _ => .non) q) (fun _ => rfl) rfl
  · cases h
theorem snd_bin {a b : Ex} (o : Bop) (ia : Snd G fs N a) (ib : Snd G fs N b) : Snd G fs N (.bin o a b) := by
  refine .ofE (fun _ _ => rfl) (fun _ _ => rfl) (fun _ _ _ => rfl) (fun _ _ _ => rfl) (fun _ _ => rfl) (fun _ _ => rfl) ?_
  intro n X sc e W hsc h
  simp only [ck] at h
  split at h
  · simp only [Bool.and_eq_true, decide_eq_true_eq] at h
    obtain ⟨⟨rfl, h2⟩, h3⟩ := h
    obtain ⟨r, h4, h5⟩ := op_bin (X := X) o
    exact plainE (PE.weak (pe_op h4 (ia.e W hsc h2).1 (ib.e W hsc h3).1) fun _ _ _ q => two_op h5 (calm_bin o) q) (fun _ => rfl) rfl
  · cases h
theorem snd_neg {a : Ex} (ia : Snd G fs N a) : Snd G fs N (.neg a) := by
  refine .ofE (fun _ _ => rfl) (fun _ _ => rfl) (fun _ _ _ => rfl) (fun _ _ _ => rfl) (fun _ _ => rfl) (fun _ _ => rfl) ?_
  intro n X sc e W hsc h
  simp only [ck] at h
  split at h
  · exact plainE (PE.weak (pe_un un_neg (ia.e W hsc h).1) fun _ _ _ q => e_neg q) (fun _ => rfl) rfl
  · cases h
theorem snd_not {a : Ex} (ia : Snd G fs N a) : Snd G fs N (.not a) := by
  refine .ofE (fun _ _ => rfl) (fun _ _ => rfl) (fun _ _ _ => rfl) (fun _ _ _ => rfl) (fun _ _ => rfl) (fun _ _ => rfl) ?_
  intro n X sc e W hsc h
  simp only [ck] at h
  split at h
  · exact ⟨PE.weak (pe_not (ia.e W hsc h).1) fun _ _ _ q => e_not q, PT.weak (pt_not (ia.e W hsc h).2.1) fun _ _ _ q => b_not q, notBool rfl⟩
  · cases h
theorem snd_and {a b : Ex} (ia : Snd G fs N a) (ib : Snd G fs N b) : Snd G fs N (.and a b) := by
  refine .ofE (fun _ _ => rfl) (fun _ _ => rfl) (fun _ _ _ => rfl) (fun _ _ _ => rfl) (fun _ _ => rfl) (fun _ _ => rfl) ?_
  intro n X sc e W hsc h
  simp only [ck] at h
  split at h
  · simp only [Bool.and_eq_true] at h
    have A := ia.e W hsc h.1
    have B := ib.e W hsc h.2
    have pw := PW.weak (pw_and A.2.1 (B.2.2 rfl)) fun σ H Q (q : TB _ σ H Q) => b_and q
    exact ⟨PE.weak (pe_and A.1 B.1) fun _ _ _ q => e_and q, pw.pt, fun _ => pw⟩
  · cases h
theorem snd_or {a b : Ex} (ia : Snd G fs N a) (ib : Snd G fs N b) : Snd G fs N (.or a b) := by
  refine .ofE (fun _ _ => rfl) (fun _ _ => rfl) (fun _ _ _ => rfl) (fun _ _ _ => rfl) (fun _ _ => rfl) (fun _ _ => rfl) ?_
  intro n X sc e W hsc h
  simp only [ck] at h
  split at h
  · simp only [Bool.and_eq_true] at h
    have A := ia.e W hsc h.1
    have B := ib.e W hsc h.2
    have pw := PW.weak (pw_or A.2.1 (B.2.2 rfl)) fun σ H Q (q : TB _ σ H Q) => b_or q
    exact ⟨PE.weak (pe_or A.1 B.1) fun _ _ _ q => e_or q, pw.pt, fun _ => pw⟩
  · cases h
theorem snd_one {a : Ex} (ia : Snd G fs N a) : Snd G fs N (.one a) := by
  refine .ofE (fun _ _ => rfl) (fun _ _ => rfl) (fun _ _ _ => rfl) (fun _ _ _ => rfl) (fun _ _ => rfl) (fun _ _ => rfl) ?_
  intro n X sc e W hsc h
  simp only [ck] at h
  split at h
  · rename_i op x p
    have A := ia.e W hsc h
    have pw : PW X (.BoolOp op [x] p) (TB (K := X.K) (sem (callN fs n) (.one a)).e) := by
      cases op
      · exact pw_and1 A.2.1
      · exact pw_or1 A.2.1
    exact ⟨pe_one A.1, pw.pt, fun _ => pw⟩
  · cases h
theorem snd_cmp {a b : Ex} (o : Cop) (ia : Snd G fs N a) (ib : Snd G fs N b) : Snd G fs N (.cmp o a b) := by
  refine .ofE (fun _ _ => rfl) (fun _ _ => rfl) (fun _ _ _ => rfl) (fun _ _ _ => rfl) (fun _ _ => rfl) (fun _ _ => rfl) ?_
  intro n X sc e W hsc h
  simp only [ck] at h
  split at h
  · simp only [Bool.and_eq_true, decide_eq_true_eq] at h
    obtain ⟨⟨⟨rfl, h1⟩, h2⟩, h3⟩ := h
    obtain ⟨r, h4, h5⟩ := op_cmp (X := X) W.room.units o
    have A := (ia.e W hsc h2).1
    have B := (ib.e W hsc h3).1
    exact ⟨PE.weak (pe_cmpR h4 A B (nomark_of h1 _)) fun _ _ _ q => two_op h5 (calm_cmp o) q, pt_cmp2 (pt_cmpR h4 A B (nomark_of h1 _)) fun _ _ _ q => two_op h5 (calm_cmp o) q, notBool rfl⟩
  · cases h
theorem snd_cmp2 {a b c : Ex} (o o' : Cop) (ia : Snd G fs N a) (ib : Snd G fs N b) (ic : Snd G fs N c) : Snd G fs N (.cmp2 o o' a b c) := by
  refine .ofE (fun _ _ => rfl) (fun _ _ => rfl) (fun _ _ _ => rfl) (fun _ _ _ => rfl) (fun _ _ => rfl) (fun _ _ => rfl) ?_
  intro n X sc e W hsc h
  simp only [ck] at h
  split at h
  · simp only [Bool.and_eq_true, decide_eq_true_eq] at h
    obtain ⟨⟨⟨⟨⟨rfl, rfl⟩, h1⟩, h2⟩, h3⟩, h4⟩ := h
    obtain ⟨r, h5, h6⟩ := op_cmp (X := X) W.room.units o
    obtain ⟨r', h7, h8⟩ := op_cmp (X := X) W.room.units o'
    have A := (ia.e W hsc h2).1
    have B := (ib.e W hsc h3).1
    have C := (ic.e W hsc h4).1
    exact ⟨PE.weak (pe_chain h5 h7 A B C (nomark2 h1)) fun _ _ _ q => e_chain h6 h8 (calm_cmp o) (calm_cmp o') q, pt_cmp2 (pt_chain h5 h7 A B C (nomark2 h1)) fun _ _ _ q => e_chain h6 h8 (calm_cmp o) (calm_cmp o') q, notBool rfl⟩
  · cases h
theorem snd_ite {a b c : Ex} (ic : Snd G fs N c) (ia : Snd G fs N a) (ib : Snd G fs N b) : Snd G fs N (.ite c a b) := by
  refine .ofE (fun _ _ => rfl) (fun _ _ => rfl) (fun _ _ _ => rfl) (fun _ _ _ => rfl) (fun _ _ => rfl) (fun _ _ => rfl) ?_
  intro n X sc e W hsc h
  simp only [ck] at h
  split at h
  · simp only [Bool.and_eq_true] at h
    have C := ic.e W hsc h.1.1
    have A := ia.e W hsc h.1.2
    have B := ib.e W hsc h.2
    exact ⟨PE.weak (pe_ifExp C.2.1 A.1 B.1) fun _ _ _ q => e_ite q, PT.weak (pt_ifExp C.2.1 A.2.1 B.2.1) fun _ _ _ q => b_ite q, notBool rfl⟩
  · cases h
theorem snd_tup {es : Ex} (ie : Snd G fs N es) : Snd G fs N (.tup es) := by
  refine .ofE (fun _ _ => rfl) (fun _ _ => rfl) (fun _ _ _ => rfl) (fun _ _ _ => rfl) (fun _ _ => rfl) (fun _ _ => rfl) ?_
  intro n X sc e W hsc h
  simp only [ck] at h
  split at h
  · exact plainE (PE.weak (pe_tup (ie.l W hsc h)) fun _ _ _ q => e_tup q) (fun _ => rfl) rfl
  · cases h
theorem snd_lst {es : Ex} (ie : Snd G fs N es) : Snd G fs N (.lst es) := by
  refine .ofE (fun _ _ => rfl) (fun _ _ => rfl) (fun _ _ _ => rfl) (fun _ _ _ => rfl) (fun _ _ => rfl) (fun _ _ => rfl) ?_
  intro n X sc e W hsc h
  simp only [ck] at h
  split at h
  · exact plainE (PE.weak (pe_lst (ie.l W hsc h)) fun _ _ _ q => e_lst q) (fun _ => rfl) rfl
  · cases h
def rIxI (K : PySem.W.Frag) : R2 := fun x y H Q => ∃ (a : Addr) (z : Int) (es : Array DictEntry) (n : Nat) (kvs : List (Int × Int)) (kv : Int × Int), x = .ref a ∧ y = .int z ∧ K.lookup a = some ⟨.type "dict", none, .dict es n, #[]⟩ ∧ entsI es.toList = some kvs ∧ kvs.find? (fun kv => decide (kv.1 = z)) = some kv ∧ Q (.int kv.2) H
theorem entsI_keys : ∀ {l : List DictEntry} {kvs : List (Int × Int)}, entsI l = some kvs → (∀ e ∈ l, ∃ k t, e.key = .int k t ∧ e.hash = hashInt k) ∧ ∀ (z : Int) (kv : Int × Int), kvs.find? (fun kv => decide (kv.1 = z)) = some kv → ∃ t, (l.find? fun e => Value.isInt z e.key).map (·.val) = some (.int kv.2 t)
  | [], _, h => by
    cases h
    exact ⟨(by intro e he; cases he), by intro z kv h; simp at h⟩
  | ⟨h0, .int k t, .int v u⟩ :: r, kvs, h => by
    simp only [entsI] at h
    split at h
    · rename_i eh
      simp only [Option.map_eq_some_iff] at h
      obtain ⟨ms, h1, rfl⟩ := h
      have ih := entsI_keys h1
      refine ⟨fun e he => ?_, fun z kv hf => ?_⟩
      · rcases List.mem_cons.mp he with rfl | he
        · exact ⟨k, t, rfl, eh⟩
        · exact ih.1 e he
      · by_cases hk : k = z
        · subst hk
          simp at hf
          subst hf
          exact ⟨u, by simp [Value.isInt]⟩
        · rw [List.find?_cons_of_neg (by simpa using hk)] at hf
          obtain ⟨t2, e2⟩ := ih.2 z kv hf
          refine ⟨t2, ?_⟩
          rw [List.find?_cons_of_neg (by simp [Value.isInt]; exact hk)]
          exact e2
    · cases h
theorem ix_I {X : Cx} : IxR X (rIxI X.K) := by
  intro value slice pins s σ H x y v u Q I rx ry h hs
  obtain ⟨a, z, es, n, kvs, kv, rfl, rfl, hl, he, hf, q⟩ := h
  obtain rfl : v = Value.ref a := rx
  obtain ⟨t, rfl⟩ := ry
  obtain ⟨k1, k2⟩ := entsI_keys he
  obtain ⟨t2, e2⟩ := k2 z kv hf
  have hm : s.heap.MapOf (intKind X.prog X.w) a (fun k => findBy Value.isInt es k) := ⟨_, es, n, I.kIn _ _ hl, ⟨rfl, rfl, rfl⟩, rfl, fun e he => by
    obtain ⟨k, t, e1, e2⟩ := k1 e (Array.mem_toList_iff.mpr he)
    exact ⟨k, by rw [e1]; exact intKind_is _ _ _ _, e2⟩, fun _ => rfl⟩
  have hv : findBy Value.isInt es z = some (.int kv.2 t2) := by
    obtain ⟨l⟩ := es
    unfold findBy
    rw [List.find?_toArray]
    exact e2
  exact tail_any hm.typeIs slot_dict_getitem.lookup (wpAny_getItem_of (intKind_is X.prog X.w z t) hm hv ⟨.int kv.2, H, I.tok _, ⟨t2, rfl⟩, q⟩) hs
theorem snd_gix {b : Ex} (i : Nat) (kvs : List (Int × Int)) (ib : Snd G fs N b) : Snd G fs N (.gix i kvs b) := by
  refine .ofE (fun _ _ => rfl) (fun _ _ => rfl) (fun _ _ _ => rfl) (fun _ _ _ => rfl) (fun _ _ => rfl) (fun _ _ => rfl) ?_
  intro n X sc e W hsc h
  subst hsc
  simp only [ck] at h
  split at h
  · cases h
  · rename_i x px y p hy
    simp only [Bool.and_eq_true, decide_eq_true_eq] at h
    obtain ⟨⟨⟨h1, h2⟩, h3⟩, h4⟩ := h
    obtain ⟨o1, o2, o3⟩ := okN_of h3
    obtain ⟨a, es, m, e1, e2, e3⟩ := W.dct _ _ _ h1
    have pn : PE X (.Name x px) (tC (.ref a)) := pe_glob (gl_of h2) e1 rfl o1
    refine plainE (PE.weak (pe_ix ix_I pn (ib.e W rfl h4).1 ?_) fun σ H Q q => ?_) (fun _ => rfl) rfl
    · intro o i
      cases y <;> first | rfl | exact absurd rfl (hy _ _ _ _) | exact (hy _ _ _ _ rfl).elim | exact hy.elim
    · obtain ⟨ρ, l, st, L, S, q⟩ := q
      refine eR_of L S q fun d st1 ρ1 H1 v w1 L1 S1 r1 q => ?_
      split at q
      · cases r1
        split at q
        · rename_i kv hf
          exact ⟨a, _, es, m, kvs, kv, rfl, rfl, e2, e3, hf, q ρ1 H1 _ w1 S1 (.int _)⟩
        · exact q.elim
      · exact q.elim
  · cases h
theorem snd_ix {a b : Ex} (ia : Snd G fs N a) (ib : Snd G fs N b) : Snd G fs N (.ix a b) := by
  refine .ofE (fun _ _ => rfl) (fun _ _ => rfl) (fun _ _ _ => rfl) (fun _ _ _ => rfl) (fun _ _ => rfl) (fun _ _ => rfl) ?_
  intro n X sc e W hsc h
  simp only [ck] at h
  split at h
  · cases h
  · rename_i x y p hy
    simp only [Bool.and_eq_true] at h
    refine plainE (PE.weak (pe_ix (or_ix W.hu) (ia.e W hsc h.1).1 (ib.e W hsc h.2).1 ?_) fun _ _ _ q => two_op two_ix calm_ix q) (fun _ => rfl) rfl
    intro o i
    cases y <;> first | rfl | exact absurd rfl (hy _ _ _ _)
  · cases h
theorem snd_sl {a b c : Ex} (ia : Snd G fs N a) (ib : Snd G fs N b) (ic : Snd G fs N c) : Snd G fs N (.sl a b c) := by
  refine .ofE (fun _ _ => rfl) (fun _ _ => rfl) (fun _ _ _ => rfl) (fun _ _ _ => rfl) (fun _ _ => rfl) (fun _ _ => rfl) ?_
  intro n X sc e W hsc h
  simp only [ck] at h
  split at h
  · simp only [Bool.and_eq_true] at h
    obtain ⟨⟨h1, h2⟩, h3⟩ := h
    have part : ∀ {m : Ex} {o : Option Expr}, Snd G fs N m → (match o with | none => isNil m | some y => !(isNil m) && (ck G N m).e sc y) = true → PO X o (oR (K := X.K) E0 (oInt m (sem (callN fs n) m).e)) := by
      intro m o im hm
      cases o with
      | none =>
        cases m <;> first | exact po_nil | (simp [isNil] at hm)
      | some y =>
        simp only [Bool.and_eq_true, Bool.not_eq_true'] at hm
        exact po_e hm.1 (im.e W hsc hm.2).1
    exact plainE (PE.weak (pe_slice or_sl (ia.e W hsc h1).1 (part ib h2) (part ic h3)) fun _ _ _ q => e_sl q) (fun _ => rfl) rfl
  · cases h
theorem snd_rev {a : Ex} (ia : Snd G fs N a) : Snd G fs N (.rev a) := by
  refine .ofE (fun _ _ => rfl) (fun _ _ => rfl) (fun _ _ _ => rfl) (fun _ _ _ => rfl) (fun _ _ => rfl) (fun _ _ => rfl) ?_
  intro n X sc e W hsc h
  simp only [ck] at h
  split at h
  · exact plainE (PE.weak (pe_rev (ia.e W hsc h).1) fun _ _ _ q => e_rev q) (fun _ => rfl) rfl
  · cases h
end Z

/-! ZMaim: calls, displays, comprehensions, targets, statements. -/
namespace Z
open PySem L2 PySem.Spec PyProof.Rows
variable {G : Gt} {fs : List Fn} {N : List Str} {m : Ex}
theorem star_of {e : Expr} (h : noStar e = true) (es : List Expr) (env : Env) : starEach (e :: es) env = (false, eval e env) :: starEach es env := by
  cases e <;> first | rfl | (simp [noStar] at h)
theorem stars_any : ∀ {es : List Expr} {pos : Pos} {env : Env}, es.all noStar = true → (backTo pos (starEach es env)).any (·.1) = false
  | [], _, _, _ => rfl
  | e :: es, pos, env, h => by
    simp only [List.all_cons, Bool.and_eq_true] at h
    rw [star_of h.1]
    have ih := stars_any (pos := pos) (env := env) h.2
    simpa [backTo] using ih
theorem stars_all : ∀ {es : List Expr} {pos : Pos} {env : Env}, es.all noStar = true → (backTo pos (starEach es env)).all (fun x => !x.1) = true
  | [], _, _, _ => rfl
  | e :: es, pos, env, h => by
    simp only [List.all_cons, Bool.and_eq_true] at h
    rw [star_of h.1]
    have ih := stars_all (pos := pos) (env := env) h.2
    simpa [backTo] using ih
theorem ckl_star : ∀ (m : Ex) {sc : Scope} {es : List Expr}, (ck G N m).l sc es = true → es.all noStar = true := by
  intro m
  induction m with
  | nil => intro sc es h; cases es <;> first | rfl | (simp [ck] at h)
  | cons a r _ ir =>
    intro sc es h
    cases es with
    | nil => rfl
    | cons e es =>
      simp only [ck, Bool.and_eq_true] at h
      simp only [List.all_cons, Bool.and_eq_true]
      exact ⟨h.1.2, ir h.2⟩
  | _ => intro sc es h; simp [ck, Ck.no] at h
theorem assign_of {e : Expr} (h : noStar e = true) (es : List Expr) (env : Env) : assignEach (e :: es) env = (false, assign e env) :: assignEach es env := by
  cases e <;> first | rfl | (simp [noStar] at h)
theorem assign_len : ∀ {es : List Expr} {env : Env}, es.all noStar = true → (assignEach es env).length = es.length ∧ (assignEach es env).findIdx? (·.1) = none
  | [], _, _ => ⟨rfl, rfl⟩
  | e :: es, env, h => by
    simp only [List.all_cons, Bool.and_eq_true] at h
    rw [assign_of h.1]
    obtain ⟨i1, i2⟩ := assign_len (env := env) h.2
    exact ⟨by simp [i1], by simp [List.findIdx?_cons, i2]⟩

theorem snd_nil : Snd G fs N .nil := by
  refine ⟨fun _ _ q => by (simp [ck, Ck.no] at q), fun _ _ q => ?_, fun _ _ q k1 k2 => ?_, fun _ _ q => by (simp [ck, Ck.no] at q), fun _ _ _ q => by (simp [ck, Ck.no] at q), fun _ _ _ q => ?_, fun _ _ _ _ q => by (simp [ck, Ck.no] at q), fun _ _ _ _ q => ?_, fun {n X sc kws} _ _ q => by
    cases kws with
    | nil => exact ⟨fun pos pins s σ H Q I h => pk_nil.run pos pins s σ H Q I (l_nil h)⟩
    | cons e es => simp [ck] at q⟩
  · rename_i n X sc es _ _
    cases es with
    | nil => exact PA.weak pa_nil fun _ _ _ h => l_nil h
    | cons e es => simp [ck] at q
  · rename_i n X sc es ks xs pos _ _
    cases es with
    | nil =>
      cases xs with
      | nil =>
        refine ⟨[], pps_nil, fun σ H Q h => ?_⟩
        obtain ⟨ρ, l, st, L, S, h⟩ := h
        have := h ρ H [] Wle.refl S .nil
        simpa [tPairs] using this
      | cons x xs => simp at k2
    | cons e es => simp [ck] at q
  · rename_i n X sc es o _ _ _
    cases es with
    | nil =>
      refine ⟨⟨fun pins s σ H vs us Q I r h => pgs_nil.run pins s σ H vs us Q I r (ts_nil h)⟩, fun ds l s Q F hF h => ?_, rfl⟩
      cases ds with
      | nil => rfl
      | cons d ds => exact h.elim
    | cons e es => simp [ck] at q
  · rename_i n X sc es _ _ _ _
    cases es with
    | nil => exact PSs.weak pss_nil fun _ _ _ h => s_nil h
    | cons e es => simp [ck] at q
theorem PG.weak {X : Cx} {e : Expr} {t t' : TG} (h : PG X e t) (w : ∀ v σ H Q, t' v σ H Q → t v σ H Q) : PG X e t' := ⟨fun pins s σ H v u Q I r q => h.run pins s σ H v u Q I r (w _ _ _ _ q)⟩
theorem PGs.weak {X : Cx} {e : List Expr} {t t' : TGs} (h : PGs X e t) (w : ∀ v σ H Q, t' v σ H Q → t v σ H Q) : PGs X e t' := ⟨fun pins s σ H v u Q I r q => h.run pins s σ H v u Q I r (w _ _ _ _ q)⟩
theorem key_pe {X : Cx} {k : Ky} {x : Option Expr} (h : keyConst k x = true) : ∃ e, x = some e ∧ PE X e (tC (kV (keyOf k))) := by
  unfold keyConst at h
  split at h
  · cases of_decide_eq_true h
    exact ⟨_, rfl, pe_int⟩
  · split at h
    · have := of_decide_eq_true h
      subst this
      refine ⟨_, rfl, ?_⟩
      have e : ∀ z : Str, kV (keyOf (.inr z.cps.toList)) = V.str z := by
        intro z
        simp [keyOf, kV]
      rw [e]
      exact pe_str
    · cases h
  · cases h
theorem snd_cons {a r : Ex} (ia : Snd G fs N a) (ir : Snd G fs N r) : Snd G fs N (.cons a r) := by
  refine ⟨fun _ _ q => by (simp [ck, Ck.no] at q), fun W hsc q => ?_, fun W hsc q k1 k2 => ?_, fun _ _ q => by (simp [ck, Ck.no] at q), fun _ _ _ q => by (simp [ck, Ck.no] at q), fun W hsc ho q => ?_, fun _ _ _ _ q => by (simp [ck, Ck.no] at q), fun W hsc hf hp q => ?_, fun {n X sc kws} W hsc q => by
    cases kws with
    | nil => simp [ck] at q
    | cons e es =>
      obtain ⟨nm, v, ps⟩ := e
      simp only [List.map_cons, ck, Bool.and_eq_true] at q
      have h1 := pk_cons (nm := nm) (kpos := ps) (ia.e W hsc q.1.1).1 (ir.k W hsc q.2)
      exact ⟨fun pos pins s σ H Q I h => h1.run pos pins s σ H Q I (l_cons h)⟩⟩
  · rename_i n X sc es
    cases es with
    | nil => simp [ck] at q
    | cons e es =>
      simp only [ck, Bool.and_eq_true] at q
      exact PA.weak (pa_cons (ia.e W hsc q.1.1).1 (ir.l W hsc q.2) (star_of q.1.2 _ _)) fun _ _ _ h => l_cons h
  · rename_i n X sc es ks xs pos
    cases es with
    | nil => simp [ck] at q
    | cons e es =>
      cases xs with
      | nil => simp at k2
      | cons x xs =>
        cases ks with
        | nil => simp [keysB] at k1
        | cons k ks =>
          simp only [ck, Bool.and_eq_true] at q
          simp only [keysB, Bool.and_eq_true] at k1
          obtain ⟨e', rfl, pk⟩ := key_pe (X := X) k1.1
          obtain ⟨trs, h1, h2⟩ := ir.p (pos := pos) W hsc q.2 k1.2 (by simpa using k2)
          refine ⟨_, pps_cons pk (ia.e W hsc q.1.1).1 h1, fun σ H Q h => ?_⟩
          obtain ⟨ρ, l, st, L, S, h⟩ := h
          refine eR_of L S h fun d st1 ρ1 H1 v w1 L1 S1 r1 h1 => ?_
          refine h2 _ _ _ ⟨ρ1, l, st1, L1, S1, R.post_mono (R.post_bind.mp h1) (fun ds st2 h3 ρ2 H2 vs w2 S2 r2 => ?_) fun _ _ x => x⟩
          exact h3 ρ2 H2 (v :: vs) (w1.trans w2) S2 (.cons (r1.up w2) r2)
  · rename_i n X sc es o
    cases es with
    | nil => simp [ck] at q
    | cons e es =>
      simp only [ck, Bool.and_eq_true] at q
      have ho1 : ∀ own, o = some own → ck.tgOwn own a = true := fun own e => by
        have := ho own e
        simp only [ck.tgOwn, Bool.and_eq_true] at this
        exact this.1
      have ho2 : ∀ own, o = some own → ck.tgOwn own r = true := fun own e => by
        have := ho own e
        simp only [ck.tgOwn, Bool.and_eq_true] at this
        exact this.2
      obtain ⟨i1, i2, i3⟩ := ir.ts W hsc ho2 q.2
      refine ⟨PGs.weak (pgs_cons (ia.t W hsc ho1 q.1.1) i1 (by rw [assign_of q.1.2]; rfl)) fun _ _ _ _ h => ts_cons h, fun ds l s Q F hF h => ?_, by simp [q.1.2, i3]⟩
      cases ds with
      | nil => exact h.elim
      | cons d ds =>
        have h : (((sem (callN fs n) a).t d l s).bind fun l1 s1 => (sem (callN fs n) r).ts ds l1 s1).post Q F := h
        cases e : (sem (callN fs n) a).t d l s with
        | ok l1 s1 =>
          rw [e] at h
          have := i2 ds l1 s1 Q F hF h
          simp [this]
        | ex x s =>
          rw [e] at h
          exact (hF _ _ h).elim
        | bad =>
          rw [e] at h
          exact h.elim
  · rename_i n X sc es
    cases es with
    | nil => simp [ck] at q
    | cons e es =>
      simp only [ck, Bool.and_eq_true] at q
      exact PSs.weak (pss_cons (ia.s W hsc hf hp q.1) (ir.b W hsc hf hp q.2)) fun _ _ _ h => s_seq h
end Z

/-! ZMaix: the rest of the terms; all of them. -/
namespace Z
open PySem L2 PySem.Spec PyProof.Rows
variable {G : Gt} {fs : List Fn} {N : List Str} {m : Ex}
theorem snd_call {as : Ex} (f : Nat) (ia : Snd G fs N as) : Snd G fs N (.call f as) := by
  refine .ofE (fun _ _ => rfl) (fun _ _ => rfl) (fun _ _ _ => rfl) (fun _ _ _ => rfl) (fun _ _ => rfl) (fun _ _ => rfl) ?_
  intro n X sc e W hsc h
  subst hsc
  simp only [ck] at h
  split at h
  · rename_i x p es pos
    simp only [Bool.and_eq_true, decide_eq_true_eq] at h
    obtain ⟨⟨⟨⟨h1, h2⟩, h3⟩, h4⟩, h5⟩ := h
    obtain ⟨o1, o2, o3⟩ := okN_of h3
    obtain ⟨g, fd, ps, e1, e2, e3, e4⟩ := W.fns _ _ h1
    rw [Option.isNone_iff_eq_none.mp h5] at e3
    have e3 : Binds X.K fd ps [] := e3
    have star := ckl_star as h4
    refine plainE ?_ (fun _ => rfl) rfl
    cases es with
    | nil =>
      refine PE.weak (peG_call0 e4 W.room W.gd (gl_of h2) e1 e2 e3 pass0 o1) fun σ H Q q => ?_
      have := e_call (XK := L2.E0) q
      obtain ⟨ρ, l, st, L, S, q⟩ := this
      have hl : (sem (callN fs n) as).l l st = R.ok [] st := by
        cases as with
        | nil => rfl
        | cons a r => simp [ck] at h4
        | _ => simp [ck, Ck.no] at h4
      rw [hl] at q
      exact q ρ H [] Wle.refl S .nil
    | cons y ys =>
      simp only [List.all_cons, Bool.and_eq_true] at star
      exact PE.weak (peG_call e4 W.room W.gd (gl_of h2) e1 e2 e3 pass0 (ia.l W rfl h4) o1 (star_of star.1 _ _) (stars_any star.2)) fun σ H Q q => e_call q
  · cases h
theorem snd_callK {as kv : Ex} (f : Nat) (d : D) (ia : Snd G fs N as) (ik : Snd G fs N kv) : Snd G fs N (.callK f as kv d) := by
  refine .ofE (fun _ _ => rfl) (fun _ _ => rfl) (fun _ _ _ => rfl) (fun _ _ _ => rfl) (fun _ _ => rfl) (fun _ _ => rfl) ?_
  intro n X sc e W hsc h
  subst hsc
  simp only [ck] at h
  split at h
  · rename_i x p y ys kws pos
    simp only [Bool.and_eq_true, decide_eq_true_eq] at h
    obtain ⟨⟨⟨⟨⟨h1, h2⟩, h3⟩, h4⟩, h5⟩, h6⟩ := h
    obtain ⟨o1, o2, o3⟩ := okN_of h3
    obtain ⟨g, fd, ps, e1, e2, e3, e4⟩ := W.fns _ _ h1
    unfold kwB at h6
    split at h6
    · rename_i k d' hkw
      rw [hkw] at e3
      obtain ⟨b1, v, u, rv, rd, b0⟩ : BindK X.K fd ps k d' := e3
      simp only [Bool.and_eq_true, decide_eq_true_eq] at h6
      obtain ⟨rfl, h6⟩ := h6
      have star := ckl_star as h4
      simp only [List.all_cons, Bool.and_eq_true] at star
      have pl1 : (backTo pos (starEach (y :: ys) X.env)).any (·.1) = false := stars_any (es := y :: ys) (by simp only [List.all_cons, Bool.and_eq_true]; exact star)
      refine plainE ?_ (fun _ => rfl) rfl
      have none_ : ∀ {ks : List Str} {vs : List V} {H2 : Hp} {Q : VK} {ρ2 : List Addr} {st2 : Sto} {xs : List D} {F : D → Sto → Prop}, SR X.K ρ2 st2 H2 → RDs X.K ρ2 H2 xs vs → (callN fs n f (xs ++ [d']) st2).post (Kont X.K ρ2 H2 Q) (fun _ _ => False) →
          ∃ vs2, (∀ (s : Shared) (us ws : List Value), X.K.In s.heap → Vals vs us → Vals [] ws → ∃ us2, Vals vs2 us2 ∧ BindsTo s fd ⟨us, ks.zip ws⟩ (ps.zip us2)) ∧ spF X.K fs n f vs2 H2 Q L2.E0 := by
        intro ks vs H2 Q ρ2 st2 xs F S2 r1 q
        have hsp : spF X.K fs n f (vs ++ [v]) H2 Q L2.E0 := ⟨ρ2, st2, xs ++ [d'], S2, r1.append (.cons (rd _ _) .nil), q⟩
        refine ⟨vs ++ [v], fun s us ws kin r rz => ⟨us ++ [u], r.append (.cons rv .nil), ?_⟩, hsp⟩
        cases rz
        have hl := e4.len _ _ _ _ hsp
        rw [List.length_append] at hl
        rw [List.zip_nil_right]
        exact b0 s us kin (by rw [← r.length]; exact hl)
      cases kws with
      | nil =>
        refine PE.weak (peG_callK (ks := []) e4 W.room W.gd (gl_of h2) e1 e2 pass0 (ia.l W rfl h4) pk_nil rfl rfl o1 (star_of star.1 _ _) (by rw [pl1]; rfl)) fun σ H Q q => ?_
        have hl : (sem (callN fs n) kv).l = fun _ s => R.ok [] s := by
          cases kv with
          | nil => rfl
          | cons a r => simp [ck] at h5
          | _ => simp [ck, Ck.no] at h5
        obtain ⟨ρ, l, st, L, S, q⟩ := q
        refine lR_of L S q fun xs st1 ρ1 H1 vs w1 L1 S1 r1 q => ?_
        rw [hl] at q
        exact none_ (F := fun _ _ => False) S1 r1 (R.post_mono q (fun _ _ (q : Kont X.K ρ H Q _ _) => q.up w1) fun _ _ x => x)
      | cons w ws0 =>
        cases ws0 with
        | nil =>
          obtain ⟨nm, wv, wp⟩ := w
          have hnm : nm = some k := of_decide_eq_true h6
          subst hnm
          refine PE.weak (peG_callK (ks := [k]) e4 W.room W.gd (gl_of h2) e1 e2 pass0 (ia.l W rfl h4) (ik.k W rfl h5) rfl rfl o1 (star_of star.1 _ _) (by rw [pl1]; rfl)) fun σ H Q q => ?_
          obtain ⟨ρ, l, st, L, S, q⟩ := q
          refine lR_of L S q fun xs st1 ρ1 H1 vs w1 L1 S1 r1 q => lR_of L1 S1 q fun ys st2 ρ2 H2 zs w2 L2' S2 r2 q => ?_
          split at q
          · cases r2
            exact none_ (F := fun _ _ => False) S2 (r1.up w2) (R.post_mono q (fun _ _ (q : Kont X.K ρ H Q _ _) => q.up (w1.trans w2)) fun _ _ x => x)
          · rename_i yv
            cases r2 with
            | cons ry rn =>
              rename_i z zn
              cases rn
              have hsp : spF X.K fs n f (vs ++ [z]) H2 Q L2.E0 := ⟨ρ2, st2, xs ++ [yv], S2, (r1.up w2).append (.cons ry .nil), R.post_mono q (fun _ _ (q : Kont X.K ρ H Q _ _) => q.up (w1.trans w2)) fun _ _ x => x⟩
              refine ⟨vs ++ [z], fun s us ws kin r rz => ?_, hsp⟩
              cases rz with
              | cons rz1 rz2 =>
                rename_i w0 wn
                cases rz2
                refine ⟨us ++ [w0], r.append (.cons rz1 .nil), ?_⟩
                have hl := e4.len _ _ _ _ hsp
                rw [List.length_append] at hl
                exact b1 s us w0 kin (by rw [← r.length]; exact hl)
          · exact q.elim
        | cons w2 ws1 => cases h6
    · cases h6
  · cases h
/-- the built-ins -/
theorem bi_call {X : Cx} (hc : X.calm = true) (hg : X.A.guards = some []) (hu : X.A.units + 64 < cLine) : ∀ b : Bi, b ≠ .sorted → ∃ u r, bootBuiltins (biName b) = some u ∧ CallR X u r ∧ Cal X.K (biF b) r ∧ ((∃ id, u = .builtin id) ∨ ∃ T, u = .type T) := by
  intro b hb
  cases b
  · exact ⟨_, _, boot_len, call_len, cal_len, .inl ⟨_, rfl⟩⟩
  · exact ⟨.builtin "abs", _, by decide +kernel, call_abs, cal_abs, .inl ⟨_, rfl⟩⟩
  · exact ⟨.type "int", _, by decide +kernel, call_int1, cal_int, .inr ⟨_, rfl⟩⟩
  · exact ⟨.builtin "all", _, by decide +kernel, cr_all hc, cal_all, .inl ⟨_, rfl⟩⟩
  · exact ⟨.builtin "any", _, by decide +kernel, cr_any hc, cal_any, .inl ⟨_, rfl⟩⟩
  · exact ⟨.type "list", _, by decide +kernel, call_list_of.or (call_listS hc), cal_list, .inr ⟨_, rfl⟩⟩
  · exact ⟨.type "tuple", _, by decide +kernel, call_tuple_of, cal_tuple, .inr ⟨_, rfl⟩⟩
  · exact ⟨.builtin "divmod", _, by decide +kernel, call_divmod, cal_divmod, .inl ⟨_, rfl⟩⟩
  · exact ⟨.builtin "sum", _, by decide +kernel, cr_sum hc, cal_sum, .inl ⟨_, rfl⟩⟩
  · exact ⟨.builtin "min", _, by decide +kernel, call_min2 hc, cal_min, .inl ⟨_, rfl⟩⟩
  · exact ⟨.builtin "max", _, by decide +kernel, call_max2 hc, cal_max, .inl ⟨_, rfl⟩⟩
  · exact ⟨.builtin "ord", _, by decide +kernel, call_ord, cal_ord, .inl ⟨_, rfl⟩⟩
  · exact ⟨.builtin "chr", _, by decide +kernel, call_chr, cal_chr, .inl ⟨_, rfl⟩⟩
  · exact ⟨.type "str", _, by decide +kernel, call_str_int, cal_str, .inr ⟨_, rfl⟩⟩
  · exact ⟨.builtin "repr", _, by decide +kernel, or_repr hg hu, cal_repr, .inl ⟨_, rfl⟩⟩
  · exact absurd rfl hb
theorem biName_ok : ∀ b : Bi, biName b ∈ biNames ∧ okN (biName b) = true := by
  intro b
  cases b <;> exact ⟨by decide +kernel, by decide +kernel⟩
theorem snd_bi {as : Ex} (b : Bi) (ia : Snd G fs N as) : Snd G fs N (.bi b as) := by
  refine .ofE (fun _ _ => rfl) (fun _ _ => rfl) (fun _ _ _ => rfl) (fun _ _ _ => rfl) (fun _ _ => rfl) (fun _ _ => rfl) ?_
  intro n X sc e W hsc h
  subst hsc
  simp only [ck] at h
  split at h
  · rename_i x p y ys pos
    simp only [Bool.and_eq_true, decide_eq_true_eq] at h
    obtain ⟨⟨rfl, h2⟩, h4⟩ := h
    obtain ⟨o1, o2, o3⟩ := okN_of (biName_ok b).2
    have star := ckl_star as h4
    simp only [List.all_cons, Bool.and_eq_true] at star
    refine plainE ?_ (fun _ => rfl) rfl
    by_cases hb : b = .sorted
    · subst hb
      refine ⟨fun pins s σ H Q I q => ?_⟩
      obtain ⟨ρ, l, st, L, S, q⟩ := q
      have : ∀ xs s1, biF .sorted xs s1 = .bad := by
        intro xs s1
        unfold biF
        split <;> rfl
      have q : (((sem (callN fs n) as).l l st).bind fun xs s1 => biF .sorted xs s1).post (Kont X.K ρ H Q) (fun _ _ => False) := q
      cases e : (sem (callN fs n) as).l l st with
      | ok xs s1 => rw [e, R.bind_ok, this] at q; exact q.elim
      | ex a b => rw [e] at q; exact q.elim
      | bad => rw [e] at q; exact q.elim
    · obtain ⟨u, r, k1, k2, k3, k4⟩ := bi_call W.calm W.gd W.room.units b hb
      have hm := W.bis _ (biName_ok b).1
      rcases k4 with ⟨id, rfl⟩ | ⟨T, rfl⟩
      · exact PE.weak (pe_callB k2 (gl_of h2) hm k1 (ia.l W rfl h4) o3 o1 (star_of star.1 _ _) (stars_any star.2)) fun σ H Q q => e_bi k3 q
      · exact PE.weak (pe_callTy k2 (gl_of h2) hm k1 (ia.l W rfl h4) o3 o1 (star_of star.1 _ _) (stars_any star.2)) fun σ H Q q => e_bi k3 q
  · cases h
theorem tyName_ok : ∀ t : Ty, tyName t ∈ biNames ∧ okN (tyName t) = true ∧ bootBuiltins (tyName t) = some (.type (tyStr t)) := by
  intro t
  cases t <;> exact ⟨by decide +kernel, by decide +kernel, by decide +kernel⟩
theorem snd_isi {a : Ex} (t : Ty) (ia : Snd G fs N a) : Snd G fs N (.isi a t) := by
  refine .ofE (fun _ _ => rfl) (fun _ _ => rfl) (fun _ _ _ => rfl) (fun _ _ _ => rfl) (fun _ _ => rfl) (fun _ _ => rfl) ?_
  intro n X sc e W hsc h
  subst hsc
  simp only [ck] at h
  split at h
  · rename_i x p y z q pos
    simp only [Bool.and_eq_true, decide_eq_true_eq] at h
    obtain ⟨⟨⟨⟨⟨rfl, h2⟩, rfl⟩, h4⟩, h5⟩, h6⟩ := h
    obtain ⟨t1, t2, t3⟩ := tyName_ok t
    obtain ⟨o1, o2, o3⟩ := okN_of t2
    have ty : PE X (.Name (tyName t) q) (tC (.ty (tyStr t))) := pe_bltn (gl_of h4) (W.bis _ t1) t3 rfl o3 o1
    have args := pa_cons (ia.e W rfl h6).1 (pa_cons ty pa_nil rfl) (star_of h5 _ _)
    refine plainE (PE.weak (pe_callB call_isi (gl_of h2) (W.bis _ (by decide +kernel)) (by decide +kernel) args (by decide) (by decide) (star_of h5 _ _) rfl) fun σ H Q q => e_isi q) (fun _ => rfl) rfl
  · cases h
theorem base_of {x : Expr} (h : noSuper x = true) (nm : Str) (env : Env) : attributeBase x nm env (eval x env) = eval x env := by
  unfold attributeBase
  split
  · simp [noSuper] at h
  · rfl
theorem snd_mt {o as : Ex} (m : Mt) (io : Snd G fs N o) (ia : Snd G fs N as) : Snd G fs N (.mt m o as) := by
  refine .ofE (fun _ _ => rfl) (fun _ _ => rfl) (fun _ _ _ => rfl) (fun _ _ _ => rfl) (fun _ _ => rfl) (fun _ _ => rfl) ?_
  intro n X sc e W hsc h
  simp only [ck] at h
  split at h
  · rename_i x nm p es q
    simp only [Bool.and_eq_true, decide_eq_true_eq] at h
    obtain ⟨⟨⟨⟨⟨rfl, h2⟩, h3⟩, h5⟩, h5'⟩, h6⟩ := h
    have star := ckl_star as h6
    have line : (p.endLine == q.line) = true := by rw [h2]; exact beq_self_eq_true _
    have base := base_of h5 (mtName m) X.env
    refine plainE ?_ (fun _ => rfl) rfl
    have O := (io.e W hsc h5').1
    have few : ∀ y ys, es = y :: ys → ((backTo q (starEach (y :: ys) X.env)).all (fun x => !x.1) && (backToKw q (keywordEach [] X.env)).all (fun x => x.1.isSome)
      && decide ((y :: ys).length + ([] : List Keyword).length + (if ([] : List Keyword).isEmpty then 0 else 1) < 30)) = true := by
      rintro y ys rfl
      rw [stars_all star]
      simp only [Bool.true_and, Bool.and_eq_true, decide_eq_true_eq]
      refine ⟨rfl, ?_⟩
      simp only [List.length_cons, List.length_nil, List.isEmpty_nil, if_true] at h3 ⊢
      omega
    have go : ∀ {r : V → List V → Hp → VK → Prop} {id : String} {T : String}, Met X.K m r → mtT m = T → PlainAttrs T → Slot T (mtName m) id → typeOf (.builtin id) = pure (.type "method_descriptor") → MtR X id r →
        PE X (.Call (.Attribute x (mtName m) p) es [] q) (eR (K := X.K) E0 (sem (callN fs n) (.mt m o as)).e) := by
      intro r id T k1 k2 pa k3 k4 k5
      cases es with
      | nil =>
        refine PE.weak (pe_bm0 pa k3 k4 k5 O base line) fun σ H Q q => ?_
        rw [← k2]
        refine e_mt0 k1 ?_
        have hl : (sem (callN fs n) as).l = fun _ s => R.ok [] s := by
          cases as with
          | nil => rfl
          | cons a r => simp [ck] at h6
          | _ => simp [ck, Ck.no] at h6
        have q : eR E0 (fun l s => ((sem (callN fs n) o).e l s).bind fun x s1 => if mtOk m x s1 = true then ((sem (callN fs n) as).l l s1).bind fun xs s2 => mth m x xs s2 else .bad) σ H Q := q
        rw [hl] at q
        exact q
      | cons y ys =>
        have st := star
        simp only [List.all_cons, Bool.and_eq_true] at st
        refine PE.weak (pe_bm pa k3 k4 k5 O (ia.l W hsc h6) base (few y ys rfl) line (star_of st.1 _ _) (stars_any st.2)) fun σ H Q q => ?_
        rw [← k2]
        exact e_mt k1 q
    cases m with
    | append => exact go met_append rfl PySem.F.plainAttrs_list PySem.F.slot_list_append PySem.F.type_list_append mt_append
    | reverse => exact go met_reverse rfl PySem.F.plainAttrs_list PySem.F.slot_list_reverse PySem.F.type_list_reverse mt_reverse
    | extend => exact go met_extend rfl PySem.F.plainAttrs_list PySem.F.slot_list_extend PySem.F.type_list_extend mt_extend
    | pop => exact go met_pop rfl PySem.F.plainAttrs_list PySem.F.slot_list_pop PySem.F.type_list_pop mt_pop
    | join => exact go met_join rfl PySem.F.plainAttrs_str PySem.F.slot_str_join PySem.F.type_str_join mt_join
    | upper => exact go met_upper rfl PySem.F.plainAttrs_str PySem.F.slot_str_upper PySem.F.type_str_upper mt_upper
  · cases h
end Z

/-! ZAll: the rest of the terms; all of them. -/
namespace Z
open PySem L2 PySem.Spec PyProof.Rows
variable {G : Gt} {fs : List Fn} {N : List Str} {m : Ex}
theorem keysB_len : ∀ {ks : List Ky} {xs : List (Option Expr)}, keysB ks xs = true → ks.length = xs.length ∧ xs.all (·.isSome) = true
  | [], [], _ => ⟨rfl, rfl⟩
  | k :: ks, x :: xs, h => by
    simp only [keysB, Bool.and_eq_true] at h
    obtain ⟨i1, i2⟩ := keysB_len h.2
    have : x.isSome = true := by
      cases x with
      | none => simp [keyConst] at h
      | some _ => rfl
    exact ⟨by simp [i1], by simp [this] ; simpa using i2⟩
  | [], _ :: _, h => by simp [keysB] at h
  | _ :: _, [], h => by simp [keysB] at h
theorem rks_fold {K : PySem.W.Frag} {ρ : List Addr} {H : Hp} : ∀ {ks : List Ky} {ds : List D} {vs : List V} {a : List (Ky × D)} {b : List (Key × V)}, RKs K ρ H a b → RDs K ρ H ds vs → ks.length = ds.length →
    RKs K ρ H ((ks.zip ds).foldl (fun acc kv => putK acc kv.1 kv.2) a) ((ks.zip vs).foldl (fun acc kv => L2.putK acc (keyOf kv.1) kv.2) b)
  | [], _, _, _, _, r, _, _ => r
  | k :: ks, [], _, _, _, _, _, h => by simp at h
  | k :: ks, d :: ds, _, a, b, r, rd, h => by
    cases rd with
    | cons r1 r2 => exact rks_fold (ks := ks) (ds := ds) (a := putK a k d) (rks_put r k r1) r2 (by simpa using h)
theorem snd_dct {vs : Ex} (ks : List Ky) (iv : Snd G fs N vs) : Snd G fs N (.dct ks vs) := by
  refine .ofE (fun _ _ => rfl) (fun _ _ => rfl) (fun _ _ _ => rfl) (fun _ _ _ => rfl) (fun _ _ => rfl) (fun _ _ => rfl) ?_
  intro n X sc e W hsc h
  simp only [ck] at h
  split at h
  · rename_i xs ys pos
    simp only [Bool.and_eq_true, decide_eq_true_eq] at h
    obtain ⟨⟨⟨h1, h2⟩, h3⟩, h4⟩ := h
    obtain ⟨k1, k2⟩ := keysB_len h1
    refine plainE ?_ (fun _ => rfl) rfl
    -- what the evaluator says, ahead of the values
    have start : ∀ {σ : L2.St} {H : Hp} {Q : VK}, eR (K := X.K) E0 (sem (callN fs n) (.dct ks vs)).e σ H Q → ∀ p, H p = none → pR (K := X.K) E0 ks (sem (callN fs n) vs).l σ (upd H p (.dK [])) fun ps H2 => H2 p = some (.dK []) ∧
        ∃ kvs : List (Key × V), ps = kvs.map (fun kv => (kV kv.1, kv.2)) ∧ kvs.length ≤ 15 ∧ Q (.ref p) (upd H2 p (.dK (mergeK [] kvs))) := by
      intro σ H Q q p hp
      obtain ⟨ρ, l, st, L, S, q⟩ := q
      have w0 : Wle X.K ρ H (ρ ++ [p]) (upd H p (.dK [])) := Wle.new hp _
      have S0 : SR X.K (ρ ++ [p]) (st ++ [.dct []]) (upd H p (.dK [])) := S.newO hp ⟨[], upd_same, .nil⟩
      have at0 : (ρ ++ [p])[st.length]? = some p := by rw [← S.len]; simp
      have q : (((sem (callN fs n) vs).l l (st ++ [.dct []])).bind fun ys s2 =>
        if ys.length = ks.length ∧ ks.length ≤ 15 ∧ (s2[st.length]? = some (MO.dct [])) then .ok (.obj st.length) (setO st.length (.dct ((ks.zip ys).foldl (fun acc kv => putK acc kv.1 kv.2) [])) s2) else .bad).post (Kont X.K ρ H Q) (fun _ _ => False) := q
      refine ⟨ρ ++ [p], l, st ++ [.dct []], L.up w0, S0, R.post_mono (R.post_bind.mp q) (fun ds s2 q ρ2 H2 us w2 S2 r2 => ?_) fun _ _ x => x⟩
      split at q
      · rename_i hc
        obtain ⟨c1, c2, c3⟩ := hc
        have at2 := w2.pre _ _ at0
        obtain ⟨_, e1, ws, e2, e3⟩ := S2.get c3
        rw [at2] at e1; cases e1
        cases e3
        refine ⟨e2, List.zipWith (fun k v => (keyOf k, v)) ks us, ?_, ?_, ?_⟩
        · rw [List.map_zipWith]
        · rw [List.length_zipWith]; omega
        · obtain ⟨u1, hu1, q1, q2⟩ := (S2.ats _ _ _ c3 at2).isAt
          have mrg : ∀ (ks : List Ky) (us : List V) (b : List (Key × V)), mergeK b (List.zipWith (fun k v => (keyOf k, v)) ks us) = (ks.zip us).foldl (fun acc kv => L2.putK acc (keyOf kv.1) kv.2) b := by
            intro ks
            induction ks with
            | nil => intro us b; rfl
            | cons k ks ih =>
              intro us b
              cases us with
              | nil => rfl
              | cons u us => exact ih us _
          rw [mrg]
          have w := Wle.chg (K := X.K) (ρ := ρ2) hu1 q1 q2 (.dK ((ks.zip us).foldl (fun acc kv => L2.putK acc (keyOf kv.1) kv.2) []))
          exact q _ _ _ ((w0.trans w2).trans w) (S2.chg (o' := .dct ((ks.zip ds).foldl (fun acc kv => putK acc kv.1 kv.2) [])) at2 c3 ⟨_, upd_same, rks_fold (RKs.nil) (r2.up w) c1.symm⟩).1 (.obj at2)
      · exact q.elim
    obtain ⟨trs, p1, p2⟩ := iv.p (pos := pos) W hsc h4 h1 h2
    by_cases h0 : xs = []
    · subst h0
      cases ys with
      | cons y ys => simp at h2
      | nil =>
        refine PE.weak pe_dnewK fun σ H Q q p hp => ?_
        obtain ⟨ρ, l, st, L, S, q⟩ := start q p hp
        have hk : ks = [] := by simpa using k1
        subst hk
        have hl : (sem (callN fs n) vs).l l st = R.ok [] st := by
          cases vs with
          | nil => rfl
          | cons a r => simp [ck] at h4
          | _ => simp [ck, Ck.no] at h4
        rw [hl] at q
        obtain ⟨e1, kvs, e2, e3, q⟩ := q ρ _ [] Wle.refl S .nil
        have : kvs = [] := by
          cases kvs with
          | nil => rfl
          | cons => simp at e2
        subst this
        rw [upd_upd] at q
        exact q
    · exact PE.weak (pe_disp p1 k2 h2 h0 (by omega)) fun σ H Q q p hp => p2 _ _ _ (start q p hp)
  · cases h
theorem snd_itS {e : Ex} (ie : Snd G fs N e) : Snd G fs N (.itS e) := by
  refine .ofW (fun _ _ => rfl) (fun _ _ => rfl) (fun _ _ _ => rfl) (fun _ _ _ => rfl) (fun _ _ => rfl) (fun _ _ => rfl) ?_
  intro n X sc x tg W hsc h
  refine PI.weak (pi_any (ie.e W hsc h).1) fun σ H R q => ?_
  obtain ⟨ρ, l, st, L, S, q⟩ := q
  refine eR_of L S q fun d st1 ρ1 H1 v w1 L1 S1 r1 q => ?_
  split at q
  · obtain ⟨a, vs, rfl, ha, ra⟩ := r1.tup_inv
    exact .inr (.inl ⟨a, rfl, ⟨vs, ha⟩, q ρ1 H1 _ w1 S1 (jr_tup ha ra)⟩)
  · obtain ⟨a, vs, rfl, ha, ra⟩ := r1.kl_inv
    exact .inl ⟨a, rfl, ⟨vs, ha.sq⟩, q ρ1 H1 _ w1 S1 (jr_kl ha ra)⟩
  · cases r1.str_inv
    exact .inr (.inr ⟨_, rfl, q ρ1 H1 _ w1 S1 jr_str⟩)
  · obtain ⟨a, rfl, ea⟩ := r1.obj_inv
    split at q
    · rename_i hi
      obtain ⟨_, ea', vs, ha, ra⟩ := S1.get hi
      rw [ea] at ea'; cases ea'
      exact .inl ⟨a, rfl, ⟨vs, SqL.of ha⟩, q ρ1 H1 _ w1 S1 (jr_list ea)⟩
    · exact q.elim
  · exact q.elim
theorem rgOk_of {a b : Int} (h : rgOk a b = true) : -(2 ^ 62) ≤ a ∧ a < 2 ^ 62 ∧ -(2 ^ 62) ≤ b ∧ b < 2 ^ 62 := by
  unfold rgOk at h
  have := of_decide_eq_true h
  omega
theorem snd_itR1 {b : Ex} (ib : Snd G fs N b) : Snd G fs N (.itR1 b) := by
  refine .ofW (fun _ _ => rfl) (fun _ _ => rfl) (fun _ _ _ => rfl) (fun _ _ _ => rfl) (fun _ _ => rfl) (fun _ _ => rfl) ?_
  intro n X sc x tg W hsc h
  subst hsc
  simp only [ck] at h
  split at h
  · simp only [Bool.and_eq_true, decide_eq_true_eq] at h
    obtain ⟨⟨⟨rfl, h2⟩, h3⟩, h4⟩ := h
    refine PI.weak (pi_range1 (gl_of h2) (W.bis _ (by decide +kernel)) (pa_cons (ib.e W rfl h4).1 pa_nil (star_of h3 _ _)) (star_of h3 _ _)) fun σ H R q => ?_
    obtain ⟨ρ, l, st, L, S, q⟩ := q
    refine eR_of L S q fun d st1 ρ1 H1 v w1 L1 S1 r1 q => ?_
    split at q
    · cases r1
      split at q
      · rename_i hr
        have := rgOk_of hr
        refine ⟨_, rfl, this.2.2.1, this.2.2.2, ?_⟩
        have := q ρ1 H1 _ w1 S1 jr_rng
        simpa using this
      · exact q.elim
    · exact q.elim
  · cases h
theorem snd_itR2 {a b : Ex} (ia : Snd G fs N a) (ib : Snd G fs N b) : Snd G fs N (.itR2 a b) := by
  refine .ofW (fun _ _ => rfl) (fun _ _ => rfl) (fun _ _ _ => rfl) (fun _ _ _ => rfl) (fun _ _ => rfl) (fun _ _ => rfl) ?_
  intro n X sc x tg W hsc h
  subst hsc
  simp only [ck] at h
  split at h
  · simp only [Bool.and_eq_true, decide_eq_true_eq] at h
    obtain ⟨⟨⟨⟨⟨rfl, h2⟩, h3⟩, h3'⟩, h4⟩, h5⟩ := h
    refine PI.weak (pi_range2 (gl_of h2) (W.bis _ (by decide +kernel)) (pa_cons (ia.e W rfl h4).1 (pa_cons (ib.e W rfl h5).1 pa_nil (star_of h3' _ _)) (star_of h3 _ _)) (by rw [star_of h3, star_of h3']; rfl) (by rw [star_of h3']; rfl)) fun σ H R q => ?_
    obtain ⟨ρ, l, st, L, S, q⟩ := q
    refine eR_of L S q fun d st1 ρ1 H1 v w1 L1 S1 r1 q => eR_of L1 S1 q fun d' st2 ρ2 H2 v' w2 L2 S2 r2 q => ?_
    split at q
    · cases r1; cases r2
      split at q
      · rename_i hr
        exact ⟨_, _, rfl, rgOk_of hr, q ρ2 H2 _ (w1.trans w2) S2 jr_rng⟩
      · exact q.elim
    · exact q.elim
  · cases h
theorem loc_of {sc : Scope} {x : Str} (h : locB sc x = true) : Loc sc x := by
  unfold locB at h
  simp only [Bool.or_eq_true, decide_eq_true_eq] at h
  exact h
theorem snd_tv (i : Nat) : Snd G fs N (.tv i) := by
  refine .ofT (fun _ _ => rfl) (fun _ _ => rfl) (fun _ _ => rfl) (fun _ _ _ => rfl) (fun _ _ => rfl) (fun _ _ => rfl) ?_
  intro n X sc e o W hsc ho h
  subst hsc
  simp only [ck] at h
  split at h
  · simp only [Bool.and_eq_true, Bool.or_eq_true, decide_eq_true_eq] at h
    obtain ⟨⟨h1, h2⟩, h3⟩ := h
    exact PG.weak (pg_name W.nd (by rw [W.nN]; exact h1) (loc_of h2) (h3.imp id fun h => of_decide_eq_true h)) fun v σ H Q q => t_name (fun own e => by have := ho own e; simpa [ck.tgOwn] using this) q
  · cases h
theorem snd_tt {ts : Ex} (it : Snd G fs N ts) : Snd G fs N (.tt ts) := by
  refine .ofT (fun _ _ => rfl) (fun _ _ => rfl) (fun _ _ => rfl) (fun _ _ _ => rfl) (fun _ _ => rfl) (fun _ _ => rfl) ?_
  intro n X sc e o W hsc ho h
  simp only [ck] at h
  split at h
  · obtain ⟨i1, i2, i3⟩ := it.ts W hsc (fun own e => by have := ho own e; simpa [ck.tgOwn] using this) h
    obtain ⟨a1, a2⟩ := assign_len (env := X.env) i3
    exact PG.weak (pg_tup W.calm i1 a1 a2) fun v σ H Q q => t_tup (fun _ _ _ _ h => h) i2 q
  · cases h
theorem snd_tix {o i : Ex} (io : Snd G fs N o) (ii : Snd G fs N i) : Snd G fs N (.tix o i) := by
  refine .ofT (fun _ _ => rfl) (fun _ _ => rfl) (fun _ _ => rfl) (fun _ _ _ => rfl) (fun _ _ => rfl) (fun _ _ => rfl) ?_
  intro n X sc e ow W hsc ho h
  simp only [ck] at h
  split at h
  · cases h
  · rename_i x y p hy
    simp only [Bool.and_eq_true] at h
    have tree : ∀ v, assign (.Subscript x y p) X.env v = (do
      let ov ← holding [v] (eval x X.env)
      let iv ← holding [v, ov] (eval y X.env)
      standAt p
      holding [v, ov, iv] (setItem ov iv v)
      release [v, ov, iv] []) := by
      intro v
      cases y <;> first | rfl | exact (hy _ _ _ _ rfl).elim
    refine PG.weak (pg_sub (io.e W hsc h.1).1 (ii.e W hsc h.2).1 (set_any W.hu) tree) fun v σ H Q q => ?_
    obtain ⟨ρ, l, st, d, L, S, r, q⟩ := q
    refine eR_of L S q fun x st1 ρ1 H1 xv w1 L1 S1 r1 q => eR_of L1 S1 q fun y st2 ρ2 H2 yv w2 L2 S2 r2 q => ?_
    rw [R.post_bind] at q
    refine st_set (F := fun _ _ => False) S2 (r1.up w2) r2 ((r.up w1).up w2) (R.post_mono q (fun _ st3 q H3 w3 S3 => ?_) fun _ _ x => x)
    exact q ρ2 H3 σ ((w1.trans w2).trans w3) S3 (L2.up w3) WP.refl
  · cases h
/-! ### comprehensions -/
theorem isTrue_nil : isNil .nil = true := rfl
theorem snd_comp {e tg it c : Ex} (own : List Nat) (ie : Snd G fs N e) (itg : Snd G fs N tg) (ii : Snd G fs N it) (ic : Snd G fs N c) : Snd G fs N (.comp e tg it c own) := by
  refine .ofE (fun _ _ => rfl) (fun _ _ => rfl) (fun _ _ _ => rfl) (fun _ _ _ => rfl) (fun _ _ => rfl) (fun _ _ => rfl) ?_
  intro n X sc ex W hsc h
  subst hsc
  simp only [ck] at h
  split at h
  · rename_i x t i ifs csc pos
    simp only [Bool.and_eq_true] at h
    obtain ⟨⟨⟨⟨⟨⟨⟨h1, h2⟩, h3⟩, h4⟩, h5⟩, h6⟩, h7⟩, h8⟩ := h
    have ok := blkOk_by h1
    have hown := of_decide_eq_true h2
    have inner : ∀ (s : Shared) (H : Hp) (C : Addr) (cl : List (Str × Addr)) (fp : List Addr), Wd G fs n N (X.blk s H csc (compEnvC csc cl C X.env) fp) :=
      fun s H C cl fp => ⟨W.nN, W.nd, W.calm, ok.kind, W.room, W.gd, W.cst, W.fns, W.bis, W.dct⟩
    have pe := pe_lc (g := tR (K := X.K) E0 (some own) (sem (callN fs n) tg).t) (elt := x) (te := eR (K := X.K) E0 (sem (callN fs n) e).e) (pos := pos) W.calm W.nd (ii.w (tg := t) W rfl h4) (by rw [W.nN]; exact ok)
      (fun s H C cl fp => itg.t (o := some own) (inner s H C cl fp) rfl (fun o e => by cases e; exact h6) h5)
      (ifs := ifs) (tt := bR (K := X.K) E0 (if isNil c = true then (fun _ s => R.ok true s) else (fun l s => ((sem (callN fs n) c).e l s).bind asB)))
      (fun s H C cl fp => by
        cases ifs with
        | nil =>
          rw [if_pos h8]
          exact ⟨fun pins s σ H Q I q => pts_nil.run pins s σ H Q I (by obtain ⟨ρ, l, st, L, S, q⟩ := q; exact q ρ H Wle.refl S)⟩
        | cons y ys =>
          cases ys with
          | nil =>
            simp only [Bool.and_eq_true, Bool.not_eq_true'] at h8
            rw [if_neg (by rw [h8.1]; decide)]
            exact pts_one (ic.e (inner s H C cl fp) rfl h8.2).2.1
          | cons z zs => cases h8)
      (fun s H C cl fp => (ie.e (inner s H C cl fp) rfl h7).1)
      (fun v => by cases i <;> first | rfl | (simp [notSet] at h3))
    refine plainE (PE.weak pe fun σ H Q q => ?_) (fun _ => rfl) rfl
    rw [hown]
    exact e_comp q
  · cases h
theorem snd_compD {e e2 tg it c : Ex} (own : List Nat) (ie : Snd G fs N e) (ie2 : Snd G fs N e2) (itg : Snd G fs N tg) (ii : Snd G fs N it) (ic : Snd G fs N c) : Snd G fs N (.compD e e2 tg it c own) := by
  refine .ofE (fun _ _ => rfl) (fun _ _ => rfl) (fun _ _ _ => rfl) (fun _ _ _ => rfl) (fun _ _ => rfl) (fun _ _ => rfl) ?_
  intro n X sc ex W hsc h
  subst hsc
  simp only [ck] at h
  split at h
  · rename_i x z t i ifs csc pos
    simp only [Bool.and_eq_true] at h
    obtain ⟨⟨⟨⟨⟨⟨⟨⟨h1, h2⟩, h3⟩, h4⟩, h5⟩, h6⟩, h7⟩, h7'⟩, h8⟩ := h
    have ok := blkOk_by h1
    have hown := of_decide_eq_true h2
    have inner : ∀ (s : Shared) (H : Hp) (C : Addr) (cl : List (Str × Addr)) (fp : List Addr), Wd G fs n N (X.blk s H csc (compEnvC csc cl C X.env) fp) :=
      fun s H C cl fp => ⟨W.nN, W.nd, W.calm, ok.kind, W.room, W.gd, W.cst, W.fns, W.bis, W.dct⟩
    have pe := pe_dc (g := tR (K := X.K) E0 (some own) (sem (callN fs n) tg).t) (kx := x) (vx := z) (tk := eR (K := X.K) E0 (sem (callN fs n) e).e) (tv := eR (K := X.K) E0 (sem (callN fs n) e2).e) (pos := pos) W.calm W.nd (ii.w (tg := t) W rfl h4) (by rw [W.nN]; exact ok)
      (fun s H C cl fp => itg.t (o := some own) (inner s H C cl fp) rfl (fun o e => by cases e; exact h6) h5)
      (ifs := ifs) (tt := bR (K := X.K) E0 (if isNil c = true then (fun _ s => R.ok true s) else (fun l s => ((sem (callN fs n) c).e l s).bind asB)))
      (fun s H C cl fp => by
        cases ifs with
        | nil =>
          rw [if_pos h8]
          exact ⟨fun pins s σ H Q I q => pts_nil.run pins s σ H Q I (by obtain ⟨ρ, l, st, L, S, q⟩ := q; exact q ρ H Wle.refl S)⟩
        | cons y ys =>
          cases ys with
          | nil =>
            simp only [Bool.and_eq_true, Bool.not_eq_true'] at h8
            rw [if_neg (by rw [h8.1]; decide)]
            exact pts_one (ic.e (inner s H C cl fp) rfl h8.2).2.1
          | cons z2 zs => cases h8)
      (fun s H C cl fp => (ie.e (inner s H C cl fp) rfl h7).1)
      (fun s H C cl fp => (ie2.e (inner s H C cl fp) rfl h7').1)
      (fun v => by cases i <;> first | rfl | (simp [notSet] at h3))
    refine plainE (PE.weak pe fun σ H Q q => ?_) (fun _ => rfl) rfl
    rw [hown]
    exact e_compD q
  · cases h
theorem snd_comp2 {e tg it tg2 it2 : Ex} (own own2 : List Nat) (ie : Snd G fs N e) (itg : Snd G fs N tg) (ii : Snd G fs N it) (itg2 : Snd G fs N tg2) (ii2 : Snd G fs N it2) : Snd G fs N (.comp2 e tg it tg2 it2 own own2) := by
  refine .ofE (fun _ _ => rfl) (fun _ _ => rfl) (fun _ _ _ => rfl) (fun _ _ _ => rfl) (fun _ _ => rfl) (fun _ _ => rfl) ?_
  intro n X sc ex W hsc h
  subst hsc
  simp only [ck] at h
  split at h
  · rename_i x t i t2 i2 csc pos
    simp only [Bool.and_eq_true] at h
    obtain ⟨⟨⟨⟨⟨⟨⟨⟨⟨⟨⟨h1, h2⟩, h3⟩, h3'⟩, h9⟩, h4⟩, h5⟩, h6⟩, h7⟩, h8⟩, h10⟩, h11⟩ := h
    have ok := blkOk_by h1
    have hown := of_decide_eq_true h2
    have inner : ∀ (s : Shared) (H : Hp) (C : Addr) (cl : List (Str × Addr)) (fp : List Addr), Wd G fs n N (X.blk s H csc (compEnvC csc cl C X.env) fp) :=
      fun s H C cl fp => ⟨W.nN, W.nd, W.calm, ok.kind, W.room, W.gd, W.cst, W.fns, W.bis, W.dct⟩
    have none_ : ∀ (s : Shared) (H : Hp) (C : Addr) (cl : List (Str × Addr)) (fp : List Addr), PTs (X.blk s H csc (compEnvC csc cl C X.env) fp) [] (bR (K := X.K) E0 fun _ s => R.ok true s) := fun s H C cl fp =>
      ⟨fun pins s σ H Q I q => pts_nil.run pins s σ H Q I (by obtain ⟨ρ, l, st, L, S, q⟩ := q; exact q ρ H Wle.refl S)⟩
    have sub : ∀ j ∈ own2, j ∈ (own.filterMap fun j => (N[j]?).map fun n => (n, j)).map (·.2) := fun j hj => by
      rw [hown]
      have := List.all_eq_true.mp h9 j hj
      simpa using this
    have pe := pe_lc2 (g := tR (K := X.K) E0 (some own) (sem (callN fs n) tg).t) (g1 := tR (K := X.K) E0 (some own2) (sem (callN fs n) tg2).t) (wi1 := wR (K := X.K) E0 (sem (callN fs n) it2).w) (vs1 := own2) (iter1 := i2) (tg1 := t2) (elt := x) (te := eR (K := X.K) E0 (sem (callN fs n) e).e) (pos := pos) W.calm W.nd (ii.w (tg := t) W rfl h4) (by rw [W.nN]; exact ok) sub
      (fun s H C cl fp => itg.t (o := some own) (inner s H C cl fp) rfl (fun o e => by cases e; exact h6) h5)
      none_
      (fun s H C cl fp => ii2.w (tg := t2) (inner s H C cl fp) rfl h7)
      (fun s H C cl fp => itg2.t (o := some own2) (inner s H C cl fp) rfl (fun o e => by cases e; exact h10) h8)
      none_
      (fun s H C cl fp => (ie.e (inner s H C cl fp) rfl h11).1)
      (fun v => by cases i <;> first | rfl | (simp [notSet] at h3))
      (fun env v => by cases i2 <;> first | rfl | (simp [notSet] at h3'))
    refine plainE (PE.weak pe fun σ H Q q => ?_) (fun _ => rfl) rfl
    rw [hown]
    exact e_comp2 q
  · cases h
theorem rgC_of {i j k : Int} (h : rgOk i j = true) (h0 : 0 < k) (h1 : k ≤ 1000000) : RgC i j k (rgN i j k) := by
  unfold rgOk at h
  have h := of_decide_eq_true h
  have hrs : Builtin.Range.rangeSize i j k = (rgN i j k : Int) ∧ Builtin.Range.rangeSize i j k ≤ 3000000000 := by
    unfold Builtin.Range.rangeSize rgN
    rw [if_pos (by omega)]
    split
    · have a1 : 0 ≤ (j - i - 1) / k := Int.ediv_nonneg (by omega) (by omega)
      have a2 : (j - i - 1) / k ≤ j - i - 1 := Int.ediv_le_self _ (by omega)
      omega
    · exact ⟨rfl, by omega⟩
  refine ⟨by omega, by omega, ?_, hrs.1⟩
  have h2 := hrs.1
  have h3 := hrs.2
  unfold Builtin.Range.small
  generalize Builtin.Range.rangeSize i j k = rs at *
  have f : ∀ x : Int, -9000000000 ≤ x → x ≤ 9000000000 → Builtin.Range.rangeFitsLong x = true := fun x h h' => by
    unfold Builtin.Range.rangeFitsLong
    rw [decide_eq_true (by omega), decide_eq_true (by omega)]; rfl
  rw [f i (by omega) (by omega), f j (by omega) (by omega), f k (by omega) (by omega), f rs (by omega) (by omega), if_pos (by omega), f (j + (k - 1)) (by omega) (by omega)]
  simp
theorem snd_itR3 {a b c : Ex} (ia : Snd G fs N a) (ib : Snd G fs N b) (ic : Snd G fs N c) : Snd G fs N (.itR3 a b c) := by
  refine .ofW (fun _ _ => rfl) (fun _ _ => rfl) (fun _ _ _ => rfl) (fun _ _ _ => rfl) (fun _ _ => rfl) (fun _ _ => rfl) ?_
  intro n X sc x tg W hsc h
  subst hsc
  simp only [ck] at h
  split at h
  · simp only [Bool.and_eq_true, decide_eq_true_eq] at h
    obtain ⟨⟨⟨⟨⟨⟨⟨rfl, h2⟩, h3⟩, h3'⟩, h3''⟩, h4⟩, h5⟩, h6⟩ := h
    refine PI.weak (pi_range3 (gl_of h2) (W.bis _ (by decide +kernel)) (pa_cons (ia.e W rfl h4).1 (pa_cons (ib.e W rfl h5).1 (pa_cons (ic.e W rfl h6).1 pa_nil (star_of h3'' _ _)) (star_of h3' _ _)) (star_of h3 _ _)) (star_of h3 _ _) (by rw [star_of h3', star_of h3'']; rfl)) fun σ H R q => ?_
    obtain ⟨ρ, l, st, L, S, q⟩ := q
    refine eR_of L S q fun d st1 ρ1 H1 v w1 L1 S1 r1 q => eR_of L1 S1 q fun d' st2 ρ2 H2 v' w2 L2 S2 r2 q => eR_of L2 S2 q fun d'' st3 ρ3 H3 v'' w3 L3 S3 r3 q => ?_
    split at q
    · cases r1; cases r2; cases r3
      split at q
      · rename_i hr
        exact ⟨_, _, _, _, rfl, rgC_of hr.1 hr.2.1 hr.2.2, q ρ3 H3 _ (w1.trans (w2.trans w3)) S3 jr_rng3⟩
      · exact q.elim
    · exact q.elim
  · cases h
end Z

/-! ZMore: list(range(..)). -/
namespace Z
open PySem L2 PySem.Spec PyProof.Rows
section
variable {G : Gt} {fs : List Fn} {N : List Str} {K : PySem.W.Frag} {ρ : List Addr} {H : Hp}
theorem rds_rng {a b : Int} : RDs K ρ H (rng a b) (rgV a b) := by
  unfold rng rgV
  generalize List.range (b - a).toNat = js
  induction js with
  | nil => exact .nil
  | cons j js ih => exact .cons (.int _) ih
theorem snd_lr1 {b : Ex} (ib : Snd G fs N b) : Snd G fs N (.lr1 b) := by
  refine .ofE (fun _ _ => rfl) (fun _ _ => rfl) (fun _ _ _ => rfl) (fun _ _ _ => rfl) (fun _ _ => rfl) (fun _ _ => rfl) ?_
  intro n X sc e W hsc h
  subst hsc
  simp only [ck] at h
  split at h
  · simp only [Bool.and_eq_true, decide_eq_true_eq] at h
    obtain ⟨⟨⟨⟨⟨rfl, h1⟩, rfl⟩, h2⟩, h3⟩, h4⟩ := h
    refine plainE (PE.weak (pe_listRg W.calm (gl_of h1) (W.bis _ (by decide +kernel)) (prg_1 (gl_of h2) (W.bis _ (by decide +kernel)) (ib.e W rfl h4).1 (star_of h3 _ _))) fun σ H Q q => ?_) (fun _ => rfl) rfl
    obtain ⟨ρ, l, st, L, S, q⟩ := q
    refine eR_of L S q fun d st1 ρ1 H1 v w1 L1 S1 r1 q => ?_
    split at q
    · cases r1
      split at q
      · rename_i hr
        have := rgOk_of hr.1
        refine ⟨_, rfl, ⟨by omega, by omega, this.2.2.1, this.2.2.2, by omega⟩, fun p hp => ?_⟩
        exact newL_post S1 rds_rng (R.post_mono q (fun _ _ (q : Kont X.K ρ H Q _ _) => q.up w1) fun _ _ x => x) hp
      · exact q.elim
    · exact q.elim
  · cases h
theorem snd_lr2 {a b : Ex} (ia : Snd G fs N a) (ib : Snd G fs N b) : Snd G fs N (.lr2 a b) := by
  refine .ofE (fun _ _ => rfl) (fun _ _ => rfl) (fun _ _ _ => rfl) (fun _ _ _ => rfl) (fun _ _ => rfl) (fun _ _ => rfl) ?_
  intro n X sc e W hsc h
  subst hsc
  simp only [ck] at h
  split at h
  · simp only [Bool.and_eq_true, decide_eq_true_eq] at h
    obtain ⟨⟨⟨⟨⟨⟨⟨rfl, h1⟩, rfl⟩, h2⟩, h3⟩, h3'⟩, h4⟩, h5⟩ := h
    refine plainE (PE.weak (pe_listRg W.calm (gl_of h1) (W.bis _ (by decide +kernel)) (prg_2 (gl_of h2) (W.bis _ (by decide +kernel)) (ia.e W rfl h4).1 (ib.e W rfl h5).1 (star_of h3 _ _) (star_of h3' _ _) (by rw [star_of h3']; rfl))) fun σ H Q q => ?_) (fun _ => rfl) rfl
    obtain ⟨ρ, l, st, L, S, q⟩ := q
    refine eR_of L S q fun d st1 ρ1 H1 v w1 L1 S1 r1 q => eR_of L1 S1 q fun d' st2 ρ2 H2 v' w2 L2 S2 r2 q => ?_
    split at q
    · cases r1; cases r2
      split at q
      · rename_i hr
        have := rgOk_of hr.1
        refine ⟨_, _, rfl, rfl, ⟨this.1, this.2.1, this.2.2.1, this.2.2.2, by omega⟩, fun p hp => ?_⟩
        exact newL_post S2 rds_rng (R.post_mono q (fun _ _ (q : Kont X.K ρ H Q _ _) => q.up (w1.trans w2)) fun _ _ x => x) hp
      · exact q.elim
    · exact q.elim
  · cases h
end
/-! sorted(set(..)) -/
theorem insS_mem {z k : Int} : ∀ {ys : List Int}, k ∈ insS z ys ↔ k = z ∨ k ∈ ys
  | [] => by simp [insS]
  | y :: ys => by
    unfold insS
    split
    · simp
    · split
      · rename_i h; subst h; simp
      · simp only [List.mem_cons, insS_mem (ys := ys)]
        constructor
        · rintro (h | h | h)
          · exact .inr (.inl h)
          · exact .inl h
          · exact .inr (.inr h)
        · rintro (h | h | h)
          · exact .inr (.inl h)
          · exact .inl h
          · exact .inr (.inr h)
theorem insS_asc {z : Int} : ∀ {ys : List Int}, ys.Pairwise (· < ·) → (insS z ys).Pairwise (· < ·)
  | [], _ => by simp [insS]
  | y :: ys, h => by
    have h1 := List.pairwise_cons.mp h
    unfold insS
    split
    · rename_i hz
      refine List.pairwise_cons.mpr ⟨fun a ha => ?_, h⟩
      rcases List.mem_cons.mp ha with rfl | ha
      · exact hz
      · have := h1.1 a ha; omega
    · split
      · exact h
      · refine List.pairwise_cons.mpr ⟨fun a ha => ?_, insS_asc h1.2⟩
        rcases insS_mem.mp ha with rfl | ha
        · omega
        · exact h1.1 a ha
theorem sset_asc : ∀ ns : List Int, (sset ns).Pairwise (· < ·)
  | [] => .nil
  | n :: ns => insS_asc (sset_asc ns)
theorem sset_mem {k : Int} : ∀ {ns : List Int}, k ∈ sset ns ↔ k ∈ ns
  | [] => by simp [sset]
  | n :: ns => by
    show k ∈ insS n (sset ns) ↔ _
    rw [insS_mem, sset_mem, List.mem_cons]
theorem asc_eq : ∀ {xs ys : List Int}, xs.Pairwise (· < ·) → ys.Pairwise (· < ·) → (∀ k, k ∈ xs ↔ k ∈ ys) → xs = ys
  | [], [], _, _, _ => rfl
  | [], y :: ys, _, _, h => absurd ((h y).mpr List.mem_cons_self) (by simp)
  | x :: xs, [], _, _, h => absurd ((h x).mp List.mem_cons_self) (by simp)
  | x :: xs, y :: ys, hx, hy, h => by
    have hx1 := List.pairwise_cons.mp hx
    have hy1 := List.pairwise_cons.mp hy
    have e : x = y := by
      have a := (h x).mp List.mem_cons_self
      have b := (h y).mpr List.mem_cons_self
      rcases List.mem_cons.mp a with e | a
      · exact e
      · rcases List.mem_cons.mp b with e | b
        · exact e.symm
        · have := hx1.1 y b; have := hy1.1 x a; omega
    subst e
    refine congrArg _ (asc_eq hx1.2 hy1.2 fun k => ⟨fun q => ?_, fun q => ?_⟩)
    · rcases List.mem_cons.mp ((h k).mp (List.mem_cons_of_mem _ q)) with rfl | r
      · have := hx1.1 _ q; omega
      · exact r
    · rcases List.mem_cons.mp ((h k).mpr (List.mem_cons_of_mem _ q)) with rfl | r
      · have := hy1.1 _ q; omega
      · exact r
def rSetTI (K : PySem.W.Frag) (w : World) : List V → Hp → VK → Prop := fun vs H Q => ∃ (p : Addr) (ns : List Int), vs = [.ref p] ∧ SqT K H p (ns.map V.int) ∧ ns.length ≤ 60 ∧
  ∀ (a : Addr) (n : Nat), H a = none → n ≤ ns.length → Q (.ref a) (upd H a (SetO w a (fun j => decide (j ∈ ns)) n))
theorem cr_setTI {X : Cx} (hc : X.calm = true) : CallR X (.type "set") (rSetTI X.K X.w) := by
  intro pins s σ H xs us Q I r h
  obtain ⟨p, ns, rfl, hq, hl, q⟩ := h
  cases r with
  | cons r rr =>
    cases rr
    cases r
    obtain ⟨its, rv, pt, hz⟩ := I.tuple hq
    have hi : IntsAre its.toArray.toList ns := ints_of_vals rv
    refine call_set_tupI ns (I.ok.hd hc) (show s.heap.IsTuple p its.toArray from pt) hi (by unfold scanBound; omega) fun h' tk c R1 hcn k => ?_
    exact ⟨.ref _, upd H s.heap.objs.size (SetO X.w s.heap.objs.size (fun j => decide (j ∈ ns)) c), I.laid (t' := tk) k (Nat.le_refl _) (setO_new R1), rfl, q _ _ (I.hok.fresh (Nat.le_refl _)) hcn⟩
theorem rds_ints {K : PySem.W.Frag} {ρ : List Addr} {H : Hp} : ∀ ns : List Int, RDs K ρ H (ns.map .int) (ns.map V.int)
  | [] => .nil
  | n :: ns => .cons (.int n) (rds_ints ns)
theorem snd_sset {G : Gt} {fs : List Fn} {N : List Str} {b : Ex} (ib : Snd G fs N b) : Snd G fs N (.sset b) := by
  refine .ofE (fun _ _ => rfl) (fun _ _ => rfl) (fun _ _ _ => rfl) (fun _ _ _ => rfl) (fun _ _ => rfl) (fun _ _ => rfl) ?_
  intro n X sc e W hsc h
  subst hsc
  simp only [ck] at h
  split at h
  · rename_i z pz x px y p2 pos
    simp only [Bool.and_eq_true, decide_eq_true_eq] at h
    obtain ⟨⟨⟨⟨⟨rfl, h1⟩, rfl⟩, h2⟩, h3⟩, h4⟩ := h
    have pset := pe_callTy (pos := p2) (p := px) (cr_setTI W.calm) (gl_of h2) (W.bis _ (by decide +kernel)) PyProof.Rows.boot_set (pa_cons (ib.e W rfl h4).1 pa_nil (star_of h3 _ _)) (by decide) (by decide) (star_of h3 _ _) rfl
    refine plainE (PE.weak (pe_callB (cr_sortedSet W.calm) (gl_of h1) (W.bis _ (by decide +kernel)) (by decide +kernel) (pa_cons pset pa_nil rfl)) fun σ H Q q => ?_) (fun _ => rfl) rfl
    obtain ⟨ρ, l, st, L, S, q⟩ := q
    refine eR_of L S q fun d st1 ρ1 H1 v w1 L1 S1 r1 q => ?_
    split at q
    · obtain ⟨a, vs, rfl, ha, ra⟩ := r1.tup_inv
      split at q
      · rename_i ns hns
        split at q
        · rename_i hl
          have := ints_of ra hns
          subst this
          refine ⟨a, ns, rfl, ha, hl, fun p n hp hn => ⟨p, _, n, rfl, upd_same, by omega, fun ns' p' h1 h2 h3 hp' => ?_⟩⟩
          have e : ns' = Z.sset ns := asc_eq h1 (sset_asc ns) fun k => by rw [h2, decide_eq_true_eq, sset_mem]
          subst e
          have hw : Wle X.K ρ1 H1 ρ1 (upd H1 p (SetO X.w p (fun j => decide (j ∈ ns)) n)) := Wle.newT hp _
          have hS := S1.newT hp (SetO X.w p (fun j => decide (j ∈ ns)) n)
          exact newL_post hS (rds_ints _) (R.post_mono q (fun _ _ (q : Kont X.K ρ H Q _ _) => q.up (w1.trans hw)) fun _ _ x => x) hp'
        · exact q.elim
      · exact q.elim
    · exact q.elim
  · cases h
/-! o[a:c] = v of a tuple -/
section
variable {prog : Program} {w : World} {A : Around} {E : Value → Shared → Prop} {s : Shared}
theorem setTup {l b sl : Addr} {its new : Array Value} {n : Nat} {vl vu : Value} {a c : Nat} {Q : Unit → Shared → Prop} (e : s.heap.get? l = some { cls := .type "list", data := .seq its n }) (e2 : IsTup s.heap b new)
    (hs : s.heap.IsSliceOf sl vl vu .none) (pl : IsPart vl (some (a : Int))) (pu : IsPart vu (some (c : Int))) (hac : a ≤ c) (hc : c ≤ its.size) (hsz : its.size + new.size ≤ sizeLine)
    (h : Q () { s with heap := s.heap.update l (Obj.mapSeq fun xs => xs.extract 0 a ++ new ++ xs.extract c xs.size) }) : wpAny (model prog w) A (setItem (.ref l) (.ref sl) (.ref b)) Q E s := by
  have hl : s.heap.IsList l its := PySem.IsL.isList e
  have hT2 := e2.typeIs
  obtain ⟨o2, ho2, hc2, n2, hd2⟩ := e2
  have hne : l ≠ b := by
    rintro rfl
    rw [e] at ho2
    cases ho2
    exact absurd (show Value.type "list" = Value.type "tuple" from hc2) (by decide)
  obtain ⟨os, hos, hcs, hds⟩ := id hs
  have hT : s.TypeIs (.ref sl) "slice" := ⟨os, hos, hcs⟩
  have same : Builtin.List.listSameRef (.ref l) (.ref b) = false := by
    show (l == b) = false
    exact beq_eq_false_iff_ne.mpr hne
  have mx : (max (a : Int) (c : Int)).toNat = c := by omega
  have sz : ((fun xs : Array Value => xs.extract 0 a ++ new ++ xs.extract c xs.size) its).size ≤ sizeLine + 1 := by
    simp only [Array.size_append, Array.size_extract]; omega
  unfold setItem
  (try with_reducible refine wpAny_holding ?_); (first | refine wpAny_bind (wpAny_pure ?_) | skip)
  refine wpAny_bind (wpAny_sequenceKey hl.typeIs (by decide) (wpAny_bind (wpAny_callSpecial?_slot (name := Str.ofString "__setitem__") hl.typeIs slot_list_setitem (wpAny_call_entry slot_list_setitem hl.typeIs entry_list_setitem ?_ (args_list_setitem _ _ _)))))
  show wpAny _ _ (Builtin.List.listSubscript? (.ref sl) >>= _) _ _ s
  refine wpAny_bind ?_
  unfold Builtin.List.listSubscript?
  refine wpAny_bind (wpAny_specialOf hT slice_no_index ?_)
  simp only [Option.isNone_none, if_true]
  refine wpAny_pure ?_
  show wpAny _ _ (typeOf (.ref sl) >>= _) _ _ s
  refine wpAny_bind (wpAny_typeOf hT ?_)
  first | rw [if_neg (by decide)] | refine PySem.W.KFB.if_not (by decide) ?_
  rw [listSliceParts_eq]
  refine wpAny_bind (wpAny_bind (wpAny_field hos hds (x := .none) rfl (wpAny_bind (wpAny_listPart .none ?_))))
  rw [if_neg (show ¬ ((rawPart none == rawInt 0) = true) from Bool.false_ne_true)]
  refine wpAny_bind (wpAny_field hos hds (x := vl) rfl (wpAny_bind (wpAny_listPart pl (wpAny_bind (wpAny_field hos hds (x := vu) rfl (wpAny_bind (wpAny_listPart pu (wpAny_pure ?_))))))))
  first | simp only [same, Bool.false_eq_true, if_false] | refine PySem.W.KFB.if_not same ?_ | (dsimp only; rw [if_neg (by rw [same]; exact Bool.false_ne_true)])
  refine wpAny_bind (m := Builtin.List.listAllItems (.ref b) "must assign iterable to extended slice") ?_
  unfold Builtin.List.listAllItems
  refine wpAny_bind (wpAny_typeOf hT2 ?_)
  first | refine PySem.W.KFB.if_so (by decide) ?_ | rw [if_pos (by decide)] | simp only [beq_self_eq_true, Bool.or_true, if_true]
  unfold Builtin.List.listItems
  refine wpAny_bind (wpAny_seqItems ho2 hd2 (wpAny_pure (wpAny_bind (wpAny_bind (wpAny_seqItems e rfl (wpAny_pure ?_))))))
  refine wpAny_bind (wpAny_of_eq ((sliceIndices_raw (some (a : Int)) (some (c : Int)) none its.size (by simp)).trans (congrArg (pure : Int × Int × Int → Sem (Int × Int × Int)) (bounds_run hac hc))) ?_)
  show wpAny _ _ (if ((1 : Int) == 1) = true then _ else _) _ _ s
  rw [if_pos (by decide)]
  refine wpAny_bind (wpAny_rule ?_)
  first | simp only [notLongL hsz, Bool.false_eq_true, if_false] | refine PySem.W.KFB.if_not (notLongL hsz) ?_
  first | refine wpAny_bind (wpAny_pure ?_) | skip
  show wpAny _ _ (updateSeq l (fun xs => xs.extract 0 ((a : Int)).toNat ++ new ++ xs.extract (max (a : Int) (c : Int)).toNat xs.size) >>= _) _ _ s
  rw [mx, Int.toNat_natCast]
  refine wpAny_bind (wpAny_updateSeq (hz := Nat.le_trans (Nat.le_add_right _ _) hsz) (_hz' := sz) e rfl (wpAny_bind (wpAny_letGo ?_)))
  first | exact wpAny_bind (wpAny_pure (wpAny_pure ⟨.none, rfl, wpAny_pure h⟩)) | exact wpAny_pure ⟨.none, rfl, wpAny_pure h⟩
end
section
variable {X : Cx}
theorem set_sliceT {pins : List (Addr × Obj)} {s : Shared} {σ : L2.St} {H : Hp} {l b sl : Addr} {xs ys : List V} {a c : Int} {vl vu : Value} {Q : Unit → Shared → Prop} (I : Inv X pins σ H s) (hH : H l = some (.lst xs)) (hB : SqT X.K H b ys)
    (hs : s.heap.IsSliceOf sl vl vu .none) (ra : RelV (.int a) vl) (rc : RelV (.int c) vu) (h0 : 0 ≤ a) (hac : a ≤ c) (hc : c ≤ xs.length) (hz : xs.length + ys.length ≤ sizeLine)
    (h : ∀ s', Inv X pins σ (upd H l (.lst (xs.take a.toNat ++ ys ++ xs.drop c.toNat))) s' → Q () s') : wpAny (model X.prog X.w) X.A (setItem (.ref l) (.ref sl) (.ref b)) Q X.xe s := by
  obtain ⟨ta, rfl⟩ := ra
  obtain ⟨tc, rfl⟩ := rc
  obtain ⟨z, its, n, r, hl, e⟩ := I.lstM hH
  obtain ⟨its2, r2, ht2, hz2⟩ := I.tuple hB
  have hl2 := r2.length
  obtain ⟨a', rfl⟩ := Int.eq_ofNat_of_zero_le h0
  obtain ⟨c', rfl⟩ := Int.eq_ofNat_of_zero_le (Int.le_trans h0 hac)
  simp only [Int.toNat_natCast] at h
  refine setTup (a := a') (c := c') e ht2 hs (.int _ _) (.int _ _) (by omega) (by rw [List.size_toArray]; omega) (by rw [List.size_toArray, List.size_toArray]; omega) (h _ ?_)
  refine I.lset (its' := its.take a' ++ its2 ++ its.drop c') (t' := s.toks) hH e (splice_eq its its2 a' c') (Vals.append (Vals.append (r.take _) r2) (r.drop _)) ?_
  rw [List.length_append, List.length_append, List.length_take, List.length_drop]
  omega
/-- o[a:c] = v -/
def gSlT (K : PySem.W.Frag) (to ta tc : TE) : TG := fun v σ H Q => to σ H fun o H1 => ta σ H1 fun x H2 => tc σ H2 fun y H3 => ∃ l b xs ys a c, o = .ref l ∧ v = .ref b ∧ x = .int a ∧ y = .int c ∧ H3 l = some (.lst xs) ∧ SqT K H3 b ys ∧ 0 ≤ a ∧ a ≤ c ∧ c ≤ xs.length ∧ xs.length + ys.length ≤ sizeLine ∧ Q σ (upd H3 l (.lst (xs.take a.toNat ++ ys ++ xs.drop c.toNat)))
theorem pg_slT {o p q : Expr} {to ta tc : TE} {pos p2 : Pos} (ho : PE X o to) (hp : PE X p ta) (hq : PE X q tc) : PG X (.Subscript o (.Slice (some p) (some q) none p2) pos) (gSlT X.K to ta tc) := by
  refine ⟨fun pins s σ H v u Q I r h => ?_⟩
  show wpAny _ _ (do
      let ov ← holding [u] (eval o X.env)
      let iv ← holding [u, ov] (eval (.Slice (some p) (some q) none p2) X.env)
      standAt pos
      holding [u, ov, iv] (setItem ov iv u)
      release [iv, u, ov] []) _ _ s
  refine wpAny_bind (wpAny_holding (thn (ho.run pins s σ H _ I h) fun ov s1 ⟨x, H1, I1, r1, q1⟩ => ?_))
  refine wpAny_bind (wpAny_holding (wpAny_Slice ?_))
  rw [evalPart_some]
  refine thn (hp.run pins s1 σ H1 _ I1 q1) fun v2 s2 ⟨y, H2, I2, r2, q2⟩ => ?_
  rw [evalPart_some]
  refine thn (hq.run pins s2 σ H2 _ I2 q2) fun v3 s3 ⟨y3, H3, I3, r3, q3⟩ => ?_
  rw [evalPart_none]
  refine wpAny_pure ?_
  obtain ⟨l, b, xs, ys, a, c, rfl, rfl, rfl, rfl, hl, hb, b0, b1, b2, b3, q⟩ := q3
  obtain rfl : ov = .ref l := r1
  obtain rfl : u = .ref b := r
  have I4 : Inv X pins σ H3 { s3 with heap := s3.heap.push { cls := .type "slice", data := .fields #[v2, v3, .none] } } := I3.kept (t' := s3.toks) fun b ob q => Heap.get?_push_of_some _ q
  refine wpAny_bind (wpAny_standAt (wpAny_bind (wpAny_holding ?_)))
  refine set_sliceT I4 hl hb (Heap.IsSliceOf.new ..) r2 r3 b0 b1 b2 b3 fun s5 I5 => ?_
  exact wpAny_release ⟨σ, _, I5, q⟩
theorem snd_tsl {G : Gt} {fs : List Fn} {N : List Str} {o lo hi : Ex} (io : Snd G fs N o) (il : Snd G fs N lo) (ih : Snd G fs N hi) : Snd G fs N (.tsl o lo hi) := by
  refine .ofT (fun _ _ => rfl) (fun _ _ => rfl) (fun _ _ => rfl) (fun _ _ _ => rfl) (fun _ _ => rfl) (fun _ _ => rfl) ?_
  intro n X sc e ow W hsc ho h
  simp only [ck] at h
  split at h
  · simp only [Bool.and_eq_true] at h
    refine PG.weak (pg_slT (io.e W hsc h.1.1).1 (il.e W hsc h.1.2).1 (ih.e W hsc h.2).1) fun v σ H Q q => ?_
    obtain ⟨ρ, l, st, d, L, S, r, q⟩ := q
    refine eR_of L S q fun x st1 ρ1 H1 xv w1 L1 S1 r1 q => eR_of L1 S1 q fun y st2 ρ2 H2 yv w2 L2 S2 r2 q => eR_of L2 S2 q fun y' st3 ρ3 H3 yv' w3 L3 S3 r3 q => ?_
    unfold stSl at q
    split at q
    · obtain ⟨a, rfl, ea⟩ := (r1.up (w2.trans w3)).obj_inv
      split at q
      · rename_i xs hi
        obtain ⟨_, ea', vs, ha, ra⟩ := S3.get hi
        rw [ea] at ea'; cases ea'
        split at q
        · rename_i i1 i2 ys qa qb qc
          split at q
          · rename_i hb
            cases r2.up w3; cases r3
            obtain ⟨b, ws, rfl, hbT, rb⟩ := (r.up ((w1.trans w2).trans w3)).tup_inv
            have e1 := ra.length
            have e2 := rb.length
            have hb4 := hb.2.2.2
            rw [line_eq] at hb4
            obtain ⟨u1, hu1, q1, q2⟩ := (S3.ats _ _ _ hi ea).isAt
            refine ⟨a, b, vs, ws, _, _, rfl, rfl, rfl, rfl, ha, hbT, hb.1, hb.2.1, by omega, by omega, ?_⟩
            have w : Wle X.K ρ3 H3 ρ3 (upd H3 a (.lst (vs.take i1.toNat ++ ws ++ vs.drop i2.toNat))) := Wle.chg hu1 q1 q2 _
            have S4 := (S3.chg (o' := .lst (xs.take i1.toNat ++ ys ++ xs.drop i2.toNat)) ea hi ⟨_, upd_same, (((ra.take _).append rb).append (ra.drop _)).up w⟩).1
            exact q ρ3 _ σ (((w1.trans w2).trans w3).trans w) S4 (L3.up w) WP.refl
          · exact q.elim
        · exact q.elim
      · exact q.elim
    · exact q.elim
  · cases h
end
end Z

/-! ZTop: statements; all terms; a def by its term. -/
namespace Z
open PySem L2 PySem.Spec PyProof.Rows
variable {G : Gt} {fs : List Fn} {N : List Str} {m : Ex}
theorem noSwap {e : Expr} (h : noComp e = true) (t : Option Expr) (k : Nat) (env : Env) : swapsWith e t k env = pure false := by
  cases e <;> first | rfl | (simp [noComp] at h)
theorem snd_expr {e : Ex} (ie : Snd G fs N e) : Snd G fs N (.expr e) := by
  refine .ofS (fun _ _ => rfl) (fun _ _ => rfl) (fun _ _ => rfl) (fun _ _ _ => rfl) (fun _ _ _ => rfl) (fun _ _ => rfl) ?_
  intro n X sc st W hsc hf hp h
  simp only [ck] at h
  split at h
  · simp only [Bool.and_eq_true] at h
    exact PS.weak (ps_expr (ie.e W hsc h.2).1 (noSwap h.1 _ _ _)) fun _ _ _ q => s_expr q
  · cases h
theorem snd_ret {e : Ex} (ie : Snd G fs N e) : Snd G fs N (.ret e) := by
  refine .ofS (fun _ _ => rfl) (fun _ _ => rfl) (fun _ _ => rfl) (fun _ _ _ => rfl) (fun _ _ _ => rfl) (fun _ _ => rfl) ?_
  intro n X sc st W hsc hf hp h
  simp only [ck] at h
  split at h
  · exact PS.weak (ps_ret (ie.e W hsc h).1) fun _ _ _ q => s_ret q
  · cases h
theorem snd_retN : Snd G fs N .retN := by
  refine .ofS (fun _ _ => rfl) (fun _ _ => rfl) (fun _ _ => rfl) (fun _ _ _ => rfl) (fun _ _ _ => rfl) (fun _ _ => rfl) ?_
  intro n X sc st W hsc hf hp h
  simp only [ck] at h
  split at h
  · exact PS.weak ps_retN fun _ _ _ q => s_retN q
  · cases h
theorem snd_pass : Snd G fs N .pass := by
  refine .ofS (fun _ _ => rfl) (fun _ _ => rfl) (fun _ _ => rfl) (fun _ _ _ => rfl) (fun _ _ _ => rfl) (fun _ _ => rfl) ?_
  intro n X sc st W hsc hf hp h
  simp only [ck] at h
  split at h
  · exact PS.weak ps_pass fun _ _ _ q => s_nil q
  · cases h
theorem snd_brk : Snd G fs N .brk := by
  refine .ofS (fun _ _ => rfl) (fun _ _ => rfl) (fun _ _ => rfl) (fun _ _ _ => rfl) (fun _ _ _ => rfl) (fun _ _ => rfl) ?_
  intro n X sc st W hsc hf hp h
  simp only [ck] at h
  split at h
  · exact PS.weak ps_break fun _ _ _ q => s_brk q
  · cases h
theorem snd_cnt : Snd G fs N .cnt := by
  refine .ofS (fun _ _ => rfl) (fun _ _ => rfl) (fun _ _ => rfl) (fun _ _ _ => rfl) (fun _ _ _ => rfl) (fun _ _ => rfl) ?_
  intro n X sc st W hsc hf hp h
  simp only [ck] at h
  split at h
  · exact PS.weak ps_continue fun _ _ _ q => s_cnt q
  · cases h
theorem snd_sif {a b c : Ex} (ic : Snd G fs N c) (ia : Snd G fs N a) (ib : Snd G fs N b) : Snd G fs N (.sif c a b) := by
  refine .ofS (fun _ _ => rfl) (fun _ _ => rfl) (fun _ _ => rfl) (fun _ _ _ => rfl) (fun _ _ _ => rfl) (fun _ _ => rfl) ?_
  intro n X sc st W hsc hf hp h
  simp only [ck] at h
  split at h
  · simp only [Bool.and_eq_true] at h
    exact PS.weak (ps_if (ic.e W hsc h.1.1).2.1 (ia.b W hsc hf hp h.1.2) (ib.b W hsc hf hp h.2)) fun _ _ _ q => s_if q
  · cases h
theorem fnAll_of {X : Cx} {a : Ex} {sc : Scope} {e : Expr} (hf : ∀ x, X.fn x = true) (h : (ck G N a).t fnAll sc e = true) : (ck G N a).t X.fn sc e = true := by
  have : X.fn = fnAll := funext fun x => by rw [hf]; rfl
  rw [this]
  exact h
theorem snd_sfor {t it b : Ex} (itg : Snd G fs N t) (ii : Snd G fs N it) (ib : Snd G fs N b) : Snd G fs N (.sfor t it b) := by
  refine .ofS (fun _ _ => rfl) (fun _ _ => rfl) (fun _ _ => rfl) (fun _ _ _ => rfl) (fun _ _ _ => rfl) (fun _ _ => rfl) ?_
  intro n X sc st W hsc hf hp h
  simp only [ck] at h
  split at h
  · rename_i x y z p
    simp only [Bool.and_eq_true] at h
    refine PS.weak (ps_for hp W.calm (ii.w (tg := x) W hsc h.1.2) (itg.t (o := none) W hsc (fun _ e => by cases e) (fnAll_of hf h.1.1.2)) (ib.b W hsc hf hp h.2) (fun v => ?_)) fun _ _ _ q => s_for q
    have := h.1.1.1
    cases y <;> first | rfl | (simp [notSet] at this)
  · cases h
theorem snd_swh {c b : Ex} (ic : Snd G fs N c) (ib : Snd G fs N b) : Snd G fs N (.swh c b) := by
  refine .ofS (fun _ _ => rfl) (fun _ _ => rfl) (fun _ _ => rfl) (fun _ _ _ => rfl) (fun _ _ _ => rfl) (fun _ _ => rfl) ?_
  intro n X sc st W hsc hf hp h
  simp only [ck] at h
  split at h
  · simp only [Bool.and_eq_true] at h
    exact PS.weak (ps_while hp (ic.e W hsc h.1).2.1 (ib.b W hsc hf hp h.2)) fun _ _ _ q => s_while q
  · cases h
theorem sw_trueD {elt elt2 : Expr} {gs : List Comprehension} {scope : Scope} {pos py : Pos} {y : Str} {l : Nat} {env : Env} (hk : env.scope.kind = .function) (hy : env.scope.names.lookup y = some .local) (hl : (py.line == pos.line) = true)
    (ha : (scope.names.any fun (n, k) => n == y && (k == .local || k == .cell)) = false) : swapsWith (.DictComp elt elt2 gs scope pos) (some (.Name y py)) l env = pure true := by
  have ky : env.kindOf y = some .local := hy
  have hb : env.blockKind = .function := by unfold Env.blockKind; rw [hk]; rfl
  unfold swapsWith
  simp only [hb, ky, ha, Expr.pos, hl]
  rfl
/-- name = {..} on one line, the name a local -/
theorem ps_setDc {X : Cx} {i : Nat} {y : Str} {py : Pos} {kx vx tg iter : Expr} {ifs : List Expr} {scope : Scope} {own : List (Str × Nat)} {pos spos : Pos} {wi : TI} {g : TG} {tt : TT} {tk tv : TE} (hc : X.calm = true) (hN : X.N.Nodup) (hy : X.N[i]? = some y) (hyl : X.env.scope.names.lookup y = some .local)
    (hsw : swapsWith (.DictComp kx vx [⟨tg, iter, ifs, 0⟩] scope pos) (some (.Name y py)) spos.line X.env = pure true) (hi : PI X tg iter wi) (ok : BlkOk X.N X.env.scope scope own)
    (hg : ∀ (s : Shared) (H : Hp) (C : Addr) (cl : List (Str × Addr)) (fp : List Addr), PG (X.blk s H scope (compEnvC scope cl C X.env) fp) tg g) (ht : ∀ (s : Shared) (H : Hp) (C : Addr) (cl : List (Str × Addr)) (fp : List Addr), PTs (X.blk s H scope (compEnvC scope cl C X.env) fp) ifs tt)
    (hk : ∀ (s : Shared) (H : Hp) (C : Addr) (cl : List (Str × Addr)) (fp : List Addr), PE (X.blk s H scope (compEnvC scope cl C X.env) fp) kx tk)
    (he : ∀ (s : Shared) (H : Hp) (C : Addr) (cl : List (Str × Addr)) (fp : List Addr), PE (X.blk s H scope (compEnvC scope cl C X.env) fp) vx tv) (hs : ∀ x, foldedSetIterable iter X.env x = pure x := by intro _; rfl) :
    PS X (.Assign [.Name y py] (.DictComp kx vx [⟨tg, iter, ifs, 0⟩] scope pos) spos) (tAsg (tDc wi g tt tk tv (own.map (·.2))) (gName i)) := by
  refine ⟨fun pins s σ H D I h => ?_⟩
  rw [exec_Assign_Name_used _ _ _ _ hsw]
  refine wpAny_bind (wpAny_standAt (wpAny_bind ?_))
  show wpAny _ X.A (do let _ ← comprehension (.DictComp kx vx [⟨tg, iter, ifs, 0⟩] scope pos) scope X.env (firstIterPos [⟨tg, iter, ifs, 0⟩] pos) newDict false (eval iter X.env) (some (assign (.Name y py) X.env))) _ _ s
  have h : tDc wi g tt tk tv (own.map (·.2)) σ H (fun x H1 => gName i x σ H1 D.nx) := h
  refine wpAny_bind (thn (dc_core (Qf := fun _ s' => SP X pins D .next s') hc hN I hi ok hg ht hk he hs h fun L C s' m H' I' q hn f => ?_) fun _ s' hq => wpAny_pure (wpAny_pure hq))
  show wpAny _ _ (assign (.Name y py) X.env (.ref L)) _ _ _
  refine wpAny_assign_Name (store_ok2 (v := V.ref L) I' hN hy (.inl hyl) rfl (fun s2 I2 ⟨a, sb, ha⟩ => ?_) (.inr hyl))
  obtain ⟨f0, f1, f2, f3, f4, f5⟩ := f
  have haC : C ≠ a := by
    rcases ha with z | z
    · rw [z]; exact f1
    · exact fun e => f4 y a z e.symm
  refine ⟨m, hn.sameBut sb haC, fun h3 sb3 => ?_⟩
  exact ⟨_, H', I2.turned (t' := s2.toks) (fun b o hb e => (sb3.2 b hb).trans e) f0 f1 f3 f4 f5, q⟩
theorem snd_asg {t e : Ex} (itg : Snd G fs N t) (ie : Snd G fs N e) (comp : ∀ (e' tg it c : Ex) (own : List Nat), e = .comp e' tg it c own → Snd G fs N e' ∧ Snd G fs N tg ∧ Snd G fs N it ∧ Snd G fs N c)
    (compD : ∀ (e1 e2 tg it c : Ex) (own : List Nat), e = .compD e1 e2 tg it c own → Snd G fs N e1 ∧ Snd G fs N e2 ∧ Snd G fs N tg ∧ Snd G fs N it ∧ Snd G fs N c) : Snd G fs N (.asg t e) := by
  refine .ofS (fun _ _ => rfl) (fun _ _ => rfl) (fun _ _ => rfl) (fun _ _ _ => rfl) (fun _ _ _ => rfl) (fun _ _ => rfl) ?_
  intro n X sc st W hsc hf hp h
  simp only [ck] at h
  split at h
  · rename_i y x p
    simp only [Bool.and_eq_true] at h
    obtain ⟨⟨⟨h1, h2⟩, h3⟩, h4⟩ := h
    have T := itg.t (o := none) W hsc (fun _ e => by cases e) (fnAll_of hf h2)
    have V := (ie.e W hsc h3).1
    have one : (assignEach [y] X.env).map (·.2) = [assign y X.env] := by rw [assign_of h1]; rfl
    by_cases hx : noComp x = true
    · refine PS.weak (ps_asg V T (noSwap hx _ _ _) ?_ one) fun _ _ _ q => s_asg q
      unfold swappedStores
      cases y <;> first | rfl | skip
      · cases h4
      · cases x <;> first | rfl | (simp [noTup] at h4)
    · cases x with
      | ListComp x gs csc q2 =>
        cases y with
        | Name nm q =>
          simp only [Bool.or_eq_true, Bool.and_eq_true, decide_eq_true_eq] at h4
          rcases h4 with hcel | h4
          · have hcel : sc.names.lookup nm = some .cell := of_decide_eq_true hcel
            have hsw : swapsWithSole [.Name nm q] (.ListComp x gs csc q2) p.line X.env = pure false := by
              have hb : X.env.blockKind = .function := by unfold Env.blockKind; rw [W.kind]; rfl
              have ky : X.env.kindOf nm = some .cell := by rw [← hsc] at hcel; exact hcel
              unfold swapsWithSole swapsWith
              simp only [hb, ky]
              rfl
            exact PS.weak (ps_asg V T hsw rfl one) fun _ _ _ q => s_asg q
          obtain ⟨⟨⟨hC, hL⟩, hQ⟩, hS⟩ := h4
          have h4 := And.intro (And.intro hL hQ) hS
          -- the store within the comprehension's frame
          cases e with
          | comp e' tg it c own =>
            obtain ⟨ie', itg', ii', ic'⟩ := comp e' tg it c own rfl
            cases t with
            | tv j =>
              subst hsc
              simp only [ck] at h2 h3
              split at h3
              · rename_i x' t' i' ifs csc' pos' heq
                cases heq
                simp only [Bool.and_eq_true, decide_eq_true_eq] at h2 h3
                obtain ⟨⟨⟨⟨⟨⟨⟨k1, k2⟩, k3⟩, k4⟩, k5⟩, k6⟩, k7⟩, k8⟩ := h3
                have ok := blkOk_by k1
                have inner : ∀ (s : Shared) (H : Hp) (C : Addr) (cl : List (Str × Addr)) (fp : List Addr), Wd G fs n N (X.blk s H csc (compEnvC csc cl C X.env) fp) :=
                  fun s H C cl fp => ⟨W.nN, W.nd, W.calm, ok.kind, W.room, W.gd, W.cst, W.fns, W.bis, W.dct⟩
                have loc : X.env.scope.names.lookup nm = some .local := of_decide_eq_true h4.1.1
                have sw : swapsWith (.ListComp x [⟨t', i', ifs, 0⟩] csc q2) (some (.Name nm q)) p.line X.env = pure true := by
                  refine sw_true W.kind loc ?_ ?_
                  · rw [h4.1.2]; exact beq_self_eq_true _
                  · have := h4.2
                    unfold swB at this
                    simpa using this
                have ps := ps_setLc (g := tR (K := X.K) E0 (some own) (sem (callN fs n) tg).t) (elt := x) (te := eR (K := X.K) E0 (sem (callN fs n) e').e) (pos := q2) (spos := p) (py := q) W.calm W.nd (by rw [W.nN]; exact h2.1.1) loc sw (ii'.w (tg := t') W rfl k4) (by rw [W.nN]; exact ok)
                  (fun s H C cl fp => itg'.t (o := some own) (inner s H C cl fp) rfl (fun o e => by cases e; exact k6) k5)
                  (ifs := ifs) (tt := bR (K := X.K) E0 (if isNil c = true then (fun _ s => R.ok true s) else (fun l s => ((sem (callN fs n) c).e l s).bind asB)))
                  (fun s H C cl fp => by
                    cases ifs with
                    | nil =>
                      rw [if_pos k8]
                      exact ⟨fun pins s σ H Q I q => pts_nil.run pins s σ H Q I (by obtain ⟨ρ, l, st, L, S, q⟩ := q; exact q ρ H Wle.refl S)⟩
                    | cons y ys =>
                      cases ys with
                      | nil =>
                        simp only [Bool.and_eq_true, Bool.not_eq_true'] at k8
                        rw [if_neg (by rw [k8.1]; decide)]
                        exact pts_one (ic'.e (inner s H C cl fp) rfl k8.2).2.1
                      | cons z zs => cases k8)
                  (fun s H C cl fp => (ie'.e (inner s H C cl fp) rfl k7).1)
                  (fun v => by cases i' <;> first | rfl | (simp [notSet] at k3))
                refine PS.weak ps fun D σ H q => ?_
                have q := s_asg q
                rw [k2]
                refine e_comp (own := own) ?_
                obtain ⟨ρ, l, st, L, S, q⟩ := q
                exact ⟨ρ, l, st, L, S, R.post_mono q (fun d st' q ρ' H' v w1 S1 r1 => t_name (fun _ e => by cases e) (q ρ' H' v w1 S1 r1)) fun _ _ x => x⟩
              · cases h3
            | _ => simp [ck, Ck.no] at h2
          | comp2 _ _ _ _ _ _ _ => cases hC
          | compD _ _ _ _ _ _ => cases hC
          | _ => simp [ck, Ck.no] at h3
        | Tuple _ _ _ =>
          refine PS.weak (ps_asg V T rfl rfl one) fun _ _ _ q => s_asg q
        | List _ _ => cases h4
        | _ => exact PS.weak (ps_asg V T rfl rfl one) fun _ _ _ q => s_asg q
      | SetComp _ _ _ _ =>
        cases e <;> simp [ck, Ck.no] at h3
      | DictComp x x2 gs csc q2 =>
        cases y with
        | Name nm q =>
          simp only [Bool.or_eq_true, Bool.and_eq_true, decide_eq_true_eq] at h4
          rcases h4 with hcel | h4
          · have hcel : sc.names.lookup nm = some .cell := of_decide_eq_true hcel
            have hsw : swapsWithSole [.Name nm q] (.DictComp x x2 gs csc q2) p.line X.env = pure false := by
              have hb : X.env.blockKind = .function := by unfold Env.blockKind; rw [W.kind]; rfl
              have ky : X.env.kindOf nm = some .cell := by rw [← hsc] at hcel; exact hcel
              unfold swapsWithSole swapsWith
              simp only [hb, ky]
              rfl
            exact PS.weak (ps_asg V T hsw rfl one) fun _ _ _ q => s_asg q
          obtain ⟨⟨⟨hC, hL⟩, hQ⟩, hS⟩ := h4
          have h4 := And.intro (And.intro hL hQ) hS
          -- the store within the comprehension's frame
          cases e with
          | compD e' e'' tg it c own =>
            obtain ⟨ie', ie'', itg', ii', ic'⟩ := compD e' e'' tg it c own rfl
            cases t with
            | tv j =>
              subst hsc
              simp only [ck] at h2 h3
              split at h3
              · rename_i x' z' t' i' ifs csc' pos' heq
                cases heq
                simp only [Bool.and_eq_true, decide_eq_true_eq] at h2 h3
                obtain ⟨⟨⟨⟨⟨⟨⟨⟨k1, k2⟩, k3⟩, k4⟩, k5⟩, k6⟩, k7⟩, k7'⟩, k8⟩ := h3
                have ok := blkOk_by k1
                have inner : ∀ (s : Shared) (H : Hp) (C : Addr) (cl : List (Str × Addr)) (fp : List Addr), Wd G fs n N (X.blk s H csc (compEnvC csc cl C X.env) fp) :=
                  fun s H C cl fp => ⟨W.nN, W.nd, W.calm, ok.kind, W.room, W.gd, W.cst, W.fns, W.bis, W.dct⟩
                have loc : X.env.scope.names.lookup nm = some .local := of_decide_eq_true h4.1.1
                have sw : swapsWith (.DictComp x x2 [⟨t', i', ifs, 0⟩] csc q2) (some (.Name nm q)) p.line X.env = pure true := by
                  refine sw_trueD W.kind loc ?_ ?_
                  · rw [h4.1.2]; exact beq_self_eq_true _
                  · have := h4.2
                    unfold swB at this
                    simpa using this
                have ps := ps_setDc (g := tR (K := X.K) E0 (some own) (sem (callN fs n) tg).t) (kx := x) (vx := x2) (tk := eR (K := X.K) E0 (sem (callN fs n) e').e) (tv := eR (K := X.K) E0 (sem (callN fs n) e'').e) (pos := q2) (spos := p) (py := q) W.calm W.nd (by rw [W.nN]; exact h2.1.1) loc sw (ii'.w (tg := t') W rfl k4) (by rw [W.nN]; exact ok)
                  (fun s H C cl fp => itg'.t (o := some own) (inner s H C cl fp) rfl (fun o e => by cases e; exact k6) k5)
                  (ifs := ifs) (tt := bR (K := X.K) E0 (if isNil c = true then (fun _ s => R.ok true s) else (fun l s => ((sem (callN fs n) c).e l s).bind asB)))
                  (fun s H C cl fp => by
                    cases ifs with
                    | nil =>
                      rw [if_pos k8]
                      exact ⟨fun pins s σ H Q I q => pts_nil.run pins s σ H Q I (by obtain ⟨ρ, l, st, L, S, q⟩ := q; exact q ρ H Wle.refl S)⟩
                    | cons y ys =>
                      cases ys with
                      | nil =>
                        simp only [Bool.and_eq_true, Bool.not_eq_true'] at k8
                        rw [if_neg (by rw [k8.1]; decide)]
                        exact pts_one (ic'.e (inner s H C cl fp) rfl k8.2).2.1
                      | cons z zs => cases k8)
                  (fun s H C cl fp => (ie'.e (inner s H C cl fp) rfl k7).1)
                  (fun s H C cl fp => (ie''.e (inner s H C cl fp) rfl k7').1)
                  (fun v => by cases i' <;> first | rfl | (simp [notSet] at k3))
                refine PS.weak ps fun D σ H q => ?_
                have q := s_asg q
                rw [k2]
                refine e_compD (own := own) ?_
                obtain ⟨ρ, l, st, L, S, q⟩ := q
                exact ⟨ρ, l, st, L, S, R.post_mono q (fun d st' q ρ' H' v w1 S1 r1 => t_name (fun _ e => by cases e) (q ρ' H' v w1 S1 r1)) fun _ _ x => x⟩
              · cases h3
            | _ => simp [ck, Ck.no] at h2
          | comp _ _ _ _ _ => cases hC
          | _ => simp [ck, Ck.no] at h3
        | Tuple _ _ _ =>
          refine PS.weak (ps_asg V T rfl rfl one) fun _ _ _ q => s_asg q
        | List _ _ => cases h4
        | _ => exact PS.weak (ps_asg V T rfl rfl one) fun _ _ _ q => s_asg q
      | _ => simp [noComp] at hx
  · cases h
theorem snd_all (G : Gt) (fs : List Fn) (N : List Str) : ∀ m, Snd G fs N m := by
  have sub : ∀ m, Snd G fs N m ∧ (∀ (e' tg it c : Ex) (own : List Nat), m = .comp e' tg it c own → Snd G fs N e' ∧ Snd G fs N tg ∧ Snd G fs N it ∧ Snd G fs N c) ∧
      ∀ (e1 e2 tg it c : Ex) (own : List Nat), m = .compD e1 e2 tg it c own → Snd G fs N e1 ∧ Snd G fs N e2 ∧ Snd G fs N tg ∧ Snd G fs N it ∧ Snd G fs N c := by
    intro m
    induction m with
    | nil => exact ⟨snd_nil, (fun _ _ _ _ _ e => by cases e), (fun _ _ _ _ _ _ e => by cases e)⟩
    | cons a r ia ir => exact ⟨snd_cons ia.1 ir.1, (fun _ _ _ _ _ e => by cases e), (fun _ _ _ _ _ _ e => by cases e)⟩
    | var i => exact ⟨snd_var i, (fun _ _ _ _ _ e => by cases e), (fun _ _ _ _ _ _ e => by cases e)⟩
    | glb i d => exact ⟨snd_glb i d, (fun _ _ _ _ _ e => by cases e), (fun _ _ _ _ _ _ e => by cases e)⟩
    | int i => exact ⟨snd_int i, (fun _ _ _ _ _ e => by cases e), (fun _ _ _ _ _ _ e => by cases e)⟩
    | str i => exact ⟨snd_str i, (fun _ _ _ _ _ e => by cases e), (fun _ _ _ _ _ _ e => by cases e)⟩
    | bl i => exact ⟨snd_bl i, (fun _ _ _ _ _ e => by cases e), (fun _ _ _ _ _ _ e => by cases e)⟩
    | non => exact ⟨snd_non, (fun _ _ _ _ _ e => by cases e), (fun _ _ _ _ _ _ e => by cases e)⟩
    | bin o a b ia ib => exact ⟨snd_bin o ia.1 ib.1, (fun _ _ _ _ _ e => by cases e), (fun _ _ _ _ _ _ e => by cases e)⟩
    | neg a ia => exact ⟨snd_neg ia.1, (fun _ _ _ _ _ e => by cases e), (fun _ _ _ _ _ _ e => by cases e)⟩
    | not a ia => exact ⟨snd_not ia.1, (fun _ _ _ _ _ e => by cases e), (fun _ _ _ _ _ _ e => by cases e)⟩
    | and a b ia ib => exact ⟨snd_and ia.1 ib.1, (fun _ _ _ _ _ e => by cases e), (fun _ _ _ _ _ _ e => by cases e)⟩
    | or a b ia ib => exact ⟨snd_or ia.1 ib.1, (fun _ _ _ _ _ e => by cases e), (fun _ _ _ _ _ _ e => by cases e)⟩
    | one a ia => exact ⟨snd_one ia.1, (fun _ _ _ _ _ e => by cases e), (fun _ _ _ _ _ _ e => by cases e)⟩
    | cmp o a b ia ib => exact ⟨snd_cmp o ia.1 ib.1, (fun _ _ _ _ _ e => by cases e), (fun _ _ _ _ _ _ e => by cases e)⟩
    | cmp2 o p a b c ia ib ic => exact ⟨snd_cmp2 o p ia.1 ib.1 ic.1, (fun _ _ _ _ _ e => by cases e), (fun _ _ _ _ _ _ e => by cases e)⟩
    | ite c a b ic ia ib => exact ⟨snd_ite ic.1 ia.1 ib.1, (fun _ _ _ _ _ e => by cases e), (fun _ _ _ _ _ _ e => by cases e)⟩
    | tup es ie => exact ⟨snd_tup ie.1, (fun _ _ _ _ _ e => by cases e), (fun _ _ _ _ _ _ e => by cases e)⟩
    | lst es ie => exact ⟨snd_lst ie.1, (fun _ _ _ _ _ e => by cases e), (fun _ _ _ _ _ _ e => by cases e)⟩
    | dct ks vs iv => exact ⟨snd_dct ks iv.1, (fun _ _ _ _ _ e => by cases e), (fun _ _ _ _ _ _ e => by cases e)⟩
    | ix a i ia ii => exact ⟨snd_ix ia.1 ii.1, (fun _ _ _ _ _ e => by cases e), (fun _ _ _ _ _ _ e => by cases e)⟩
    | sl a lo hi ia il ih => exact ⟨snd_sl ia.1 il.1 ih.1, (fun _ _ _ _ _ e => by cases e), (fun _ _ _ _ _ _ e => by cases e)⟩
    | rev a ia => exact ⟨snd_rev ia.1, (fun _ _ _ _ _ e => by cases e), (fun _ _ _ _ _ _ e => by cases e)⟩
    | call f as ia => exact ⟨snd_call f ia.1, (fun _ _ _ _ _ e => by cases e), (fun _ _ _ _ _ _ e => by cases e)⟩
    | bi b as ia => exact ⟨snd_bi b ia.1, (fun _ _ _ _ _ e => by cases e), (fun _ _ _ _ _ _ e => by cases e)⟩
    | isi a t ia => exact ⟨snd_isi t ia.1, (fun _ _ _ _ _ e => by cases e), (fun _ _ _ _ _ _ e => by cases e)⟩
    | mt m o as io ia => exact ⟨snd_mt m io.1 ia.1, (fun _ _ _ _ _ e => by cases e), (fun _ _ _ _ _ _ e => by cases e)⟩
    | comp e tg it c own ie itg ii ic => exact ⟨snd_comp own ie.1 itg.1 ii.1 ic.1, (fun _ _ _ _ _ e => by cases e; exact ⟨ie.1, itg.1, ii.1, ic.1⟩), (fun _ _ _ _ _ _ e => by cases e)⟩
    | callK f as kv d ia ik => exact ⟨snd_callK f d ia.1 ik.1, (fun _ _ _ _ _ e => by cases e), (fun _ _ _ _ _ _ e => by cases e)⟩
    | gix i kvs b ib => exact ⟨snd_gix i kvs ib.1, (fun _ _ _ _ _ e => by cases e), (fun _ _ _ _ _ _ e => by cases e)⟩
    | comp2 e tg it tg2 it2 own own2 ie itg ii itg2 ii2 => exact ⟨snd_comp2 own own2 ie.1 itg.1 ii.1 itg2.1 ii2.1, (fun _ _ _ _ _ e => by cases e), (fun _ _ _ _ _ _ e => by cases e)⟩
    | compD e e2 tg it c own ie ie2 itg ii ic => exact ⟨snd_compD own ie.1 ie2.1 itg.1 ii.1 ic.1, (fun _ _ _ _ _ e => by cases e), (fun _ _ _ _ _ _ e => by cases e; exact ⟨ie.1, ie2.1, itg.1, ii.1, ic.1⟩)⟩
    | itR3 a b c ia ib ic => exact ⟨snd_itR3 ia.1 ib.1 ic.1, (fun _ _ _ _ _ e => by cases e), (fun _ _ _ _ _ _ e => by cases e)⟩
    | sset b ib => exact ⟨snd_sset ib.1, (fun _ _ _ _ _ e => by cases e), (fun _ _ _ _ _ _ e => by cases e)⟩
    | lr1 b ib => exact ⟨snd_lr1 ib.1, (fun _ _ _ _ _ e => by cases e), (fun _ _ _ _ _ _ e => by cases e)⟩
    | lr2 a b ia ib => exact ⟨snd_lr2 ia.1 ib.1, (fun _ _ _ _ _ e => by cases e), (fun _ _ _ _ _ _ e => by cases e)⟩
    | itS e ie => exact ⟨snd_itS ie.1, (fun _ _ _ _ _ e => by cases e), (fun _ _ _ _ _ _ e => by cases e)⟩
    | itR1 b ib => exact ⟨snd_itR1 ib.1, (fun _ _ _ _ _ e => by cases e), (fun _ _ _ _ _ _ e => by cases e)⟩
    | itR2 a b ia ib => exact ⟨snd_itR2 ia.1 ib.1, (fun _ _ _ _ _ e => by cases e), (fun _ _ _ _ _ _ e => by cases e)⟩
    | tv i => exact ⟨snd_tv i, (fun _ _ _ _ _ e => by cases e), (fun _ _ _ _ _ _ e => by cases e)⟩
    | tt ts its => exact ⟨snd_tt its.1, (fun _ _ _ _ _ e => by cases e), (fun _ _ _ _ _ _ e => by cases e)⟩
    | tix o i io ii => exact ⟨snd_tix io.1 ii.1, (fun _ _ _ _ _ e => by cases e), (fun _ _ _ _ _ _ e => by cases e)⟩
    | tsl o lo hi io il ih => exact ⟨snd_tsl io.1 il.1 ih.1, (fun _ _ _ _ _ e => by cases e), (fun _ _ _ _ _ _ e => by cases e)⟩
    | expr e ie => exact ⟨snd_expr ie.1, (fun _ _ _ _ _ e => by cases e), (fun _ _ _ _ _ _ e => by cases e)⟩
    | asg t e it ie => exact ⟨snd_asg it.1 ie.1 ie.2.1 ie.2.2, (fun _ _ _ _ _ e => by cases e), (fun _ _ _ _ _ _ e => by cases e)⟩
    | sif c a b ic ia ib => exact ⟨snd_sif ic.1 ia.1 ib.1, (fun _ _ _ _ _ e => by cases e), (fun _ _ _ _ _ _ e => by cases e)⟩
    | sfor t it b itt ii ib => exact ⟨snd_sfor itt.1 ii.1 ib.1, (fun _ _ _ _ _ e => by cases e), (fun _ _ _ _ _ _ e => by cases e)⟩
    | swh c b ic ib => exact ⟨snd_swh ic.1 ib.1, (fun _ _ _ _ _ e => by cases e), (fun _ _ _ _ _ _ e => by cases e)⟩
    | ret e ie => exact ⟨snd_ret ie.1, (fun _ _ _ _ _ e => by cases e), (fun _ _ _ _ _ _ e => by cases e)⟩
    | retN => exact ⟨snd_retN, (fun _ _ _ _ _ e => by cases e), (fun _ _ _ _ _ _ e => by cases e)⟩
    | pass => exact ⟨snd_pass, (fun _ _ _ _ _ e => by cases e), (fun _ _ _ _ _ _ e => by cases e)⟩
    | brk => exact ⟨snd_brk, (fun _ _ _ _ _ e => by cases e), (fun _ _ _ _ _ _ e => by cases e)⟩
    | cnt => exact ⟨snd_cnt, (fun _ _ _ _ _ e => by cases e), (fun _ _ _ _ _ _ e => by cases e)⟩
  exact fun m => (sub m).1
end Z

/-! ZEnd: defs by their terms; a law by the evaluator's answer. -/
namespace Z
open PySem L2 PySem.Spec PyProof.Rows
/-- what a module's constant stands for -/
def CstIs (K : PySem.W.Frag) (mg : Str → Option Value) (x : Str) (d : D) : Prop := ∃ v u, mg x = some u ∧ RelV v u ∧ ∀ ρ H, RD K ρ H d v
/-- a def of the text, as it stands behind the top, and its term -/
def BndAt (K : PySem.W.Frag) (fd : FuncData) (ps : List Str) : Option (Str × D) → Prop
  | none => ∀ us : List Value, us.length = ps.length → bindArgs fd ⟨us, []⟩ = pure (ps.zip us)
  | some (k, d) => BindK K fd ps k d
theorem BndAt.any {K : PySem.W.Frag} {fd : FuncData} {ps : List Str} {o : Option (Str × D)} (h : BndAt K fd ps o) : BindAny K fd ps o := by
  cases o with
  | none => exact .all h
  | some p => exact h
structure DefAt (K : PySem.W.Frag) (mg : Str → Option Value) (G : Gt) (o : Option (Str × D)) (x : Str) (g : Fn) (f : Addr) (fd : FuncData) (qual : Str) (st : Stmt) (N ps : List Str) : Prop where
  at_ : mg x = some (.ref f)
  fn : Fun K x qual st f fd
  bnd : BndAt K fd ps o
  sc : FnScope N ps (defScope st)
  np : g.np = ps.length
  nn : g.nn = N.length
  ok : (ck G N g.body).b (defScope st) (defBody st) = true
structure TextOk (K : PySem.W.Frag) (mg : Str → Option Value) (G : Gt) (fs : List Fn) : Prop where
  cst : ∀ (i : Nat) (x : Str) (d : D), G.cs[i]? = some (x, d) → CstIs K mg x d
  fns : ∀ (i : Nat) (x : Str), G.fs[i]? = some x → ∃ g f fd qual st N ps, fs[i]? = some g ∧ DefAt K mg G (G.kw i) x g f fd qual st N ps
  bis : ∀ x ∈ biNames, mg x = none
  dct : ∀ (i : Nat) (x : Str) (kvs : List (Int × Int)), G.ds[i]? = some (x, kvs) → CstD K mg x kvs
section
variable {P : Program} {w : World} {K : PySem.W.Frag} {mg : Str → Option Value} {base : Heap} {G : Gt} {fs : List Fn}
theorem lr_start {ρ : List Addr} {H : Hp} {ds : List D} {vs : List V} {N : List Str} {nn np : Nat} (r : RDs K ρ H ds vs) (h1 : ds.length = np) (h2 : nn = N.length) (h3 : np ≤ nn) : LR K ρ H (ds.map some ++ List.replicate (nn - np) none) (L2.start N vs) := by
  have hl := r.length
  refine ⟨by unfold L2.start; simp; omega, fun i d e => ?_⟩
  by_cases hi : i < ds.length
  · rw [List.getElem?_append_left (by simpa using hi), List.getElem?_map] at e
    simp only [Option.map_eq_some_iff] at e
    obtain ⟨d', e, e2⟩ := e
    cases e2
    obtain ⟨v, e1, rv⟩ := r.get e
    refine ⟨v, ?_, rv⟩
    unfold L2.start
    rw [List.getElem?_append_left (by simp; omega), List.getElem?_map, e1]
    rfl
  · rw [List.getElem?_append_right (by simpa using hi), List.getElem?_replicate] at e
    split at e <;> cases e
/-- what is called is right at a depth -/
def FnsAt (P : Program) (w : World) (K : PySem.W.Frag) (mg : Str → Option Value) (base : Heap) (G : Gt) (fs : List Fn) (n : Nat) : Prop :=
  ∀ (i : Nat) (x : Str), G.fs[i]? = some x → ∃ f fd ps, mg x = some (.ref f) ∧ PySem.W.keepIn K (.ref f) = true ∧ BindAny K fd ps (G.kw i) ∧ FnG P w K mg base CX0 n f fd 0 ps (spF K fs n i)
theorem one_fn {n i : Nat} {x qual : Str} {g : Fn} {f : Addr} {fd : FuncData} {st : Stmt} {N ps : List Str} (T : TextOk K mg G fs) (ih : FnsAt P w K mg base G fs n) (hg : fs[i]? = some g) (D : DefAt K mg G (G.kw i) x g f fd qual st N ps) :
    FnG P w K mg base CX0 (n + 1) f fd 0 ps (spF K fs (n + 1) i) := by
  obtain ⟨e1, F, B, S, e2, e3, e4⟩ := D
  have runs : ∀ {ds s}, callN fs (n + 1) i ds s = runFn (callN fs n) g ds s := by
    intro ds s
    show (match fs[i]? with | some g => runFn (callN fs n) g ds s | none => .bad) = _
    rw [hg]
  have len : ∀ vs H Q E, spF K fs (n + 1) i vs H Q E → vs.length = ps.length := by
    rintro vs H Q E ⟨ρ, s, ds, _, r, h⟩
    rw [runs] at h
    unfold runFn at h
    split at h
    · rename_i hl
      rw [← r.length, hl, e2]
    · exact h.elim
  obtain ⟨oc, od, kV, doc, pm, an, cdv, ct, osl, rfl, lk, hcd⟩ := F.ex
  have npl : ps.length ≤ N.length := by
    have := congrArg List.length S.pre
    rw [List.length_take] at this
    omega
  refine fnG_of lk hcd S len fun A outer s H vs Q E hr gd hsp => ?_
  have W : Wd G fs n N (cxOf CX0 P w K mg base N qual (defScope st) f cdv A outer s H E).nox :=
    ⟨rfl, S.nd, rfl, S.kind, hr, gd, T.cst, fun j y hy => ih j y hy, T.bis, T.dct⟩
  have body := (snd_all G fs N g.body).b (X := (cxOf CX0 P w K mg base N qual (defScope st) f cdv A outer s H E).nox) W rfl (fun _ => rfl) PassesOwn.never e4
  refine ⟨_, body.nox, ?_⟩
  obtain ⟨ρ, s0, ds, SS, r, h⟩ := hsp
  rw [runs] at h
  unfold runFn at h
  split at h
  · rename_i hl
    refine ⟨ρ, _, s0, lr_start r hl e3 (by omega), SS, R.post_mono (R.post_bind.mp h) ?_ fun _ _ x => x⟩
    rintro ⟨fl, l1⟩ st1 h1 ρ1 H1 σ1 w1 S1 L1
    cases fl with
    | nx => exact h1 ρ1 H1 _ w1 S1 .non
    | ret d => exact fun v rv => h1 ρ1 H1 v w1 S1 rv
    | brk => exact h1.elim
    | cnt => exact h1.elim
  · exact h.elim
/-- every def of the text, at every depth -/
theorem all_fn (T : TextOk K mg G fs) : ∀ (n : Nat), FnsAt P w K mg base G fs n := by
  intro n
  induction n with
  | zero =>
    intro i x hx
    obtain ⟨g, f, fd, qual, st, N, ps, hg, D⟩ := T.fns i x hx
    refine ⟨f, fd, ps, D.at_, D.fn.kp, D.bnd.any, ?_, ?_⟩
    · rintro vs H Q E ⟨ρ, st, ds, _, _, h⟩
      exact h.elim
    · rintro A outer s H args us vs Q E _ _ _ _ _ ⟨ρ, st, ds, _, _, h⟩
      exact h.elim
  | succ n ih =>
    intro i x hx
    obtain ⟨g, f, fd, qual, st, N, ps, hg, D⟩ := T.fns i x hx
    exact ⟨f, fd, ps, D.at_, D.fn.kp, D.bnd.any, one_fn T ih hg D⟩
end
theorem klR {K : PySem.W.Frag} {ρ : List Addr} {H : Hp} : ∀ ns : List Int, RDs K ρ H (ns.map D.int) (ns.map V.int)
  | [] => .nil
  | n :: ns => .cons (.int n) (klR ns)
/-- a law whose text is told by terms, by what the evaluator answers -/
theorem law_end {l : PySem.W.OpenLaw} {q : Program} {loose : List Str} {XP : (Str → Option Value) → Heap → Prop} {YP : World → Heap → Prop} {d : DefRec} {K : Params → PySem.W.Frag} {G : Gt} {fs : List Fn} {x : Str} (n i : Nat)
    (hn : l.most = some 63) (hdf : d.params.defaults = []) (hr : Room (n + 1) callerA) (hY : ∀ (w : World) (h : Heap), YP w h → (K w.params).In h)
    (T : ∀ (w : World) (mg : Str → Option Value) (h : Heap), (K w.params).In h → h.Ns mainGlobals mg → TextOk (K w.params) mg G fs ∧ ∃ g f fd qual st N, fs[i]? = some g ∧ G.kw i = none ∧ DefAt (K w.params) mg G none d.name g f fd qual st N [x])
    (law : ∀ ns : List Int, ns.length ≤ 63 → (∀ z ∈ ns, Builtin.Int.intBits z ≤ 1048576) → ∃ st', callN fs (n + 1) i [.kl (ns.map .int)] [] = .ok (.bl true) st') :
    PySem.W.WalkO q loose XP YP l.row.toRowW d [] (fun f vs => PySem.call f vs) := by
  refine walkG (x := x) (m := 0) (CX := fun _ => CX0) (sp := fun w => spF (K w.params) fs (n + 1) i) hn hdf hr hY ?_ ?_ fun _ _ _ _ _ z => z
  · intro w mg fa h hK hG hf
    obtain ⟨tx, g, f, fd, qual, st, N, hg, hkw, D⟩ := T w mg h hK hG
    have e := D.at_.symm.trans hf
    cases e
    have B : ∀ us : List Value, us.length = 1 → bindArgs fd ⟨us, []⟩ = pure ([x].zip us) := D.bnd
    refine ⟨fd, fun s u => .of_eq (B [u] rfl), fun base hb hn => ?_⟩
    rw [← hkw] at D
    exact one_fn tx (all_fn tx n) hg D
  · intro w H a ns hl hb fl
    obtain ⟨st', e⟩ := law ns hl hb
    refine ⟨[], [], [.kl (ns.map .int)], ⟨rfl, fun i j a h => by simp at h, fun i o a h => by simp at h⟩, .cons (.kl fl (klR ns)) .nil, ?_⟩
    rw [e]
    intro ρ' H' v w1 S1 r1
    exact r1.bl_inv
end Z

/-! ZLaw: the text's facts, put together. -/
namespace Z
open PySem L2
/-- a def as the top left it -/
def DefFact (K : PySem.W.Frag) (x : Str) (st : Stmt) : Prop := ∃ (f : Addr) (oc : Value) (od : Option Addr) (osl : Array (Option Value)) (kV dc pm : Value) (an : Option Addr) (cd ct : Value),
  PySem.W.nsIn K mainGlobals x = some (some (.ref f)) ∧ K.lookup f = some ⟨oc, od, .func (PySem.W.fnOf x x (defArgs st) (defBody st) (defScope st) .none kV dc pm an cd ct), osl⟩ ∧ PySem.W.codeIn K cd x = true ∧ PySem.W.keepIn K (.ref f) = true
theorem DefFact.mk {K : PySem.W.Frag} {x : Str} {st : Stmt} {f : Addr} {oc : Value} {od : Option Addr} {osl : Array (Option Value)} {kV dc pm : Value} {an : Option Addr} {cd ct : Value} (a : PySem.W.nsIn K mainGlobals x = some (some (.ref f)))
    (l : K.lookup f = some ⟨oc, od, .func (PySem.W.fnOf x x (defArgs st) (defBody st) (defScope st) .none kV dc pm an cd ct), osl⟩) (c : PySem.W.codeIn K cd x = true) (k : PySem.W.keepIn K (.ref f) = true) : DefFact K x st :=
  ⟨f, oc, od, osl, kV, dc, pm, an, cd, ct, a, l, c, k⟩
section
variable {K : PySem.W.Frag} {h : Heap} {mg : Str → Option Value} {G : Gt}
/-- what the text shows of a def without running it -/
structure DefSeen (G : Gt) (st : Stmt) (g : Fn) (N ps : List Str) : Prop where
  sc : FnScope N ps (defScope st)
  np : g.np = ps.length
  nn : g.nn = N.length
  ok : (ck G N g.body).b (defScope st) (defBody st) = true
  bnd : ∀ (x : Str) (kV doc pm : Value) (an : Option Addr) (cdv ct : Value) (us : List Value), us.length = ps.length → bindArgs (PySem.W.fnOf x x (defArgs st) (defBody st) (defScope st) .none kV doc pm an cdv ct) ⟨us, []⟩ = pure (ps.zip us)
theorem def_at {x : Str} {st : Stmt} {g : Fn} {N ps : List Str} (X : K.In h) (Gn : h.Ns mainGlobals mg) (F : DefFact K x st) (S : DefSeen G st g N ps) : ∃ f fd, DefAt K mg G none x g f fd x st N ps := by
  obtain ⟨f, oc, od, osl, kV, dc, pm, an, cd, ct, a, l, c, k⟩ := F
  exact ⟨f, _, PySem.W.mg_of X Gn a, fun_mk l c k, fun us hu => S.bnd x kV dc pm an cd ct us hu, S.sc, S.np, S.nn, S.ok⟩
/-- a constant's value -/
def CstV (K : PySem.W.Frag) (u : Value) (d : D) : Prop := ∃ v, RelV v u ∧ ∀ ρ H, RD K ρ H d v
/-- a def with one keyword-only parameter, as the top left it -/
def DefFactK (K : PySem.W.Frag) (x : Str) (st : Stmt) (k : Str) (d : D) : Prop := ∃ (f : Addr) (oc : Value) (od : Option Addr) (osl : Array (Option Value)) (Da : Addr) (dc pm : Value) (an : Option Addr) (cd ct : Value) (u : Value),
  PySem.W.nsIn K mainGlobals x = some (some (.ref f)) ∧ K.lookup f = some ⟨oc, od, .func (PySem.W.fnOf x x (defArgs st) (defBody st) (defScope st) .none (.ref Da) dc pm an cd ct), osl⟩ ∧ PySem.W.codeIn K cd x = true ∧ PySem.W.keepIn K (.ref f) = true ∧
  PySem.W.nsIn K Da k = some (some u) ∧ CstV K u d
theorem DefFactK.mk {K : PySem.W.Frag} {x : Str} {st : Stmt} {kn : Str} {d : D} {f Da : Addr} {oc : Value} {od : Option Addr} {osl : Array (Option Value)} {dc pm : Value} {an : Option Addr} {cd ct u : Value} (a : PySem.W.nsIn K mainGlobals x = some (some (.ref f)))
    (l : K.lookup f = some ⟨oc, od, .func (PySem.W.fnOf x x (defArgs st) (defBody st) (defScope st) .none (.ref Da) dc pm an cd ct), osl⟩) (c : PySem.W.codeIn K cd x = true) (k : PySem.W.keepIn K (.ref f) = true)
    (n : PySem.W.nsIn K Da kn = some (some u)) (v : CstV K u d) : DefFactK K x st kn d :=
  ⟨f, oc, od, osl, Da, dc, pm, an, cd, ct, u, a, l, c, k, n, v⟩
/-- what the text shows of such a def; m: how many others -/
structure DefSeenK (G : Gt) (st : Stmt) (g : Fn) (N ps : List Str) (m : Nat) (k : Str) : Prop where
  sc : FnScope N ps (defScope st)
  np : g.np = ps.length
  nn : g.nn = N.length
  ok : (ck G N g.body).b (defScope st) (defBody st) = true
  hm : m + 1 = ps.length
  b1 : ∀ (x : Str) (kV doc pm : Value) (an : Option Addr) (cdv ct : Value) (us : List Value) (w : Value), us.length = m → bindArgs (PySem.W.fnOf x x (defArgs st) (defBody st) (defScope st) .none kV doc pm an cdv ct) ⟨us, [(k, w)]⟩ = pure (ps.zip (us ++ [w]))
  b0 : ∀ (x : Str) (Da : Addr) (doc pm : Value) (an : Option Addr) (cdv ct : Value) (us : List Value) (u : Value), us.length = m → KwChain Da [(k, u)] (bindArgs (PySem.W.fnOf x x (defArgs st) (defBody st) (defScope st) .none (.ref Da) doc pm an cdv ct) ⟨us, []⟩) (ps.zip (us ++ [u]))
theorem def_atK {x : Str} {st : Stmt} {g : Fn} {N ps : List Str} {m : Nat} {kn : Str} {d : D} (X : K.In h) (Gn : h.Ns mainGlobals mg) (F : DefFactK K x st kn d) (S : DefSeenK G st g N ps m kn) : ∃ f fd, DefAt K mg G (some (kn, d)) x g f fd x st N ps := by
  obtain ⟨f, oc, od, osl, Da, dc, pm, an, cd, ct, u, a, l, c, k, hn, v, rv, rd⟩ := F
  refine ⟨f, _, PySem.W.mg_of X Gn a, fun_mk l c k, ⟨fun s us w kin hu => .of_eq (S.b1 x _ dc pm an cd ct us w (by have := S.hm; omega)), v, u, rv, rd, fun s us kin hu => L2.BindsTo.of_looks fun M => ?_⟩, S.sc, S.np, S.nn, S.ok⟩
  refine KwChain.looks kin (fun q hq => ?_) (S.b0 x Da dc pm an cd ct us u (by have := S.hm; omega))
  rcases List.mem_cons.mp hq with rfl | hq
  · exact hn
  · cases hq
inductive DefsOk (K : PySem.W.Frag) (mg : Str → Option Value) (G : Gt) : List Str → List Fn → List (Option (Str × D)) → Prop
  | nil : DefsOk K mg G [] [] []
  | cons {x : Str} {g : Fn} {st : Stmt} {N ps : List Str} {o : Option (Str × D)} {xs : List Str} {gs : List Fn} {os : List (Option (Str × D))} : (∃ f fd, DefAt K mg G o x g f fd x st N ps) → DefsOk K mg G xs gs os → DefsOk K mg G (x :: xs) (g :: gs) (o :: os)
theorem DefsOk.get {xs : List Str} {gs : List Fn} {os : List (Option (Str × D))} (D : DefsOk K mg G xs gs os) : ∀ (i : Nat) (x : Str), xs[i]? = some x → ∃ g f fd qual st N ps, gs[i]? = some g ∧ DefAt K mg G (os.getD i none) x g f fd qual st N ps := by
  induction D with
  | nil => intro i x h; simp at h
  | cons hd _ ih =>
    intro i x h
    cases i with
    | zero =>
      cases h
      obtain ⟨f, fd, hd⟩ := hd
      exact ⟨_, f, fd, _, _, _, _, rfl, hd⟩
    | succ i => exact ih i x (by simpa using h)
theorem text_ok {fs : List Fn} (hc : ∀ p ∈ G.cs, CstIs K mg p.1 p.2) (hd : DefsOk K mg G G.fs fs G.kf) (hb : ∀ x ∈ biNames, mg x = none) (hds : ∀ p ∈ G.ds, CstD K mg p.1 p.2) : TextOk K mg G fs :=
  ⟨fun i x d e => hc (x, d) (List.mem_of_getElem? e), hd.get, hb, fun i x d e => hds (x, d) (List.mem_of_getElem? e)⟩
/-! constants -/
theorem cst_int {x : Str} {i : Int} {t : Tok} (X : K.In h) (Gn : h.Ns mainGlobals mg) (a : PySem.W.nsIn K mainGlobals x = some (some (.int i t))) : CstIs K mg x (.int i) :=
  ⟨.int i, _, PySem.W.mg_of X Gn a, ⟨t, rfl⟩, fun _ _ => .int i⟩
theorem cst_str {x : Str} {i : Str} {s : List Nat} {t : Tok} (X : K.In h) (Gn : h.Ns mainGlobals mg) (a : PySem.W.nsIn K mainGlobals x = some (some (.str i t))) (e : i.cps.toList = s) : CstIs K mg x (.str s) :=
  ⟨.str i, _, PySem.W.mg_of X Gn a, ⟨t, rfl⟩, fun _ _ => .str' e⟩
def intsV : List Value → Option (List Int)
  | [] => some []
  | .int i _ :: r => (intsV r).map (i :: ·)
  | _ => none
theorem intsV_ok : ∀ {us : List Value} {ns : List Int}, intsV us = some ns → Vals (ns.map V.int) us
  | [], _, h => by cases h; exact .nil
  | .int i t :: r, ns, h => by
    simp only [intsV, Option.map_eq_some_iff] at h
    obtain ⟨ms, h1, rfl⟩ := h
    exact .cons ⟨t, rfl⟩ (intsV_ok h1)
theorem ints_D : ∀ {ds : List D} {ns : List Int}, ints? ds = some ns → ds = ns.map .int
  | [], _, h => by cases h; rfl
  | .int i :: r, ns, h => by
    simp only [ints?, Option.map_eq_some_iff] at h
    obtain ⟨ms, h1, rfl⟩ := h
    rw [ints_D h1]; rfl
theorem cstV_int {i : Int} {t : Tok} : CstV K (.int i t) (.int i) := ⟨.int i, ⟨t, rfl⟩, fun _ _ => .int i⟩
theorem cstV_tup {a : Addr} {od : Option Addr} {its : Array Value} {n : Nat} {sl : Array (Option Value)} {ds : List D} {ns : List Int}
    (h2 : K.lookup a = some ⟨.type "tuple", od, .seq its n, sl⟩) (h3 : intsV its.toList = some ns) (h4 : ints? ds = some ns) (h5 : ns.length ≤ 1000) : CstV K (.ref a) (.tup ds) := by
  have e := ints_D h4
  subst e
  have hv := intsV_ok h3
  refine ⟨.ref a, rfl, fun ρ H => .tup (.inr ⟨_, its, n, h2, rfl, rfl, ?_, hv⟩) (rds_ints ns)⟩
  have hz : ns.length = its.size := by simpa using Paired.length hv
  rw [← hz, sizeLine_eq]
  omega
theorem cst_tup {x : Str} {a : Addr} {od : Option Addr} {its : Array Value} {n : Nat} {sl : Array (Option Value)} {ds : List D} {ns : List Int} (X : K.In h) (Gn : h.Ns mainGlobals mg) (h1 : PySem.W.nsIn K mainGlobals x = some (some (.ref a)))
    (h2 : K.lookup a = some ⟨.type "tuple", od, .seq its n, sl⟩) (h3 : intsV its.toList = some ns) (h4 : ints? ds = some ns) (h5 : ns.length ≤ 1000) : CstIs K mg x (.tup ds) := by
  obtain ⟨v, h6, h7⟩ := cstV_tup h2 h3 h4 h5
  exact ⟨v, _, PySem.W.mg_of X Gn h1, h6, h7⟩
theorem cst_dct {x : Str} {a : Addr} {es : Array DictEntry} {n : Nat} {kvs : List (Int × Int)} (X : K.In h) (Gn : h.Ns mainGlobals mg) (h1 : PySem.W.nsIn K mainGlobals x = some (some (.ref a)))
    (h2 : K.lookup a = some ⟨.type "dict", none, .dict es n, #[]⟩) (h3 : entsI es.toList = some kvs) : CstD K mg x kvs := ⟨a, es, n, PySem.W.mg_of X Gn h1, h2, h3⟩
end
end Z

/-! ZPl: plain tools: what a term comes to, one equation a kind. -/
namespace Z
open PySem
section
variable {cl : Cl} {l : Lo} {s : Sto} {a b c e r es vs o i as t lo hi tg it : Ex}
@[simp] theorem zl_nil : (sem cl .nil).l l s = .ok [] s := rfl
@[simp] theorem zl_cons : (sem cl (.cons a r)).l l s = ((sem cl a).e l s).bind fun x s1 => ((sem cl r).l l s1).bind fun xs s2 => .ok (x :: xs) s2 := rfl
@[simp] theorem zs_nil : (sem cl .nil).s l s = .ok (.nx, l) s := rfl
theorem zs_cons : (sem cl (.cons a r)).s l s = ((sem cl a).s l s).bind fun r1 s1 => (match r1.1 with | .nx => (sem cl r).s r1.2 s1 | _ => .ok r1 s1) := rfl
@[simp] theorem zts_nil : (sem cl .nil).ts [] l s = .ok l s := rfl
@[simp] theorem zts_cons {d : D} {ds : List D} : (sem cl (.cons a r)).ts (d :: ds) l s = ((sem cl a).t d l s).bind fun l1 s1 => (sem cl r).ts ds l1 s1 := rfl
@[simp] theorem ze_var {i : Nat} : (sem cl (.var i)).e l s = (match l[i]? with | some (some d) => .ok d s | _ => .bad) := rfl
@[simp] theorem ze_glb {i : Nat} {d : D} : (sem cl (.glb i d)).e l s = .ok d s := rfl
@[simp] theorem ze_int {i : Int} : (sem cl (.int i)).e l s = .ok (.int i) s := rfl
@[simp] theorem ze_str {x : List Nat} : (sem cl (.str x)).e l s = .ok (.str x) s := rfl
@[simp] theorem ze_bl {x : Bool} : (sem cl (.bl x)).e l s = .ok (.bl x) s := rfl
@[simp] theorem ze_non : (sem cl .non).e l s = .ok .non s := rfl
@[simp] theorem ze_bin {o : Bop} : (sem cl (.bin o a b)).e l s = ((sem cl a).e l s).bind fun x s1 => ((sem cl b).e l s1).bind fun y s2 => bin o x y s2 := rfl
@[simp] theorem ze_neg : (sem cl (.neg a)).e l s = ((sem cl a).e l s).bind fun x s1 => (match x with | .int i => .ok (.int (-i)) s1 | _ => .bad) := rfl
@[simp] theorem ze_not : (sem cl (.not a)).e l s = (((sem cl a).e l s).bind asB).bind fun b s1 => .ok (.bl (!b)) s1 := rfl
@[simp] theorem ze_and : (sem cl (.and a b)).e l s = (((sem cl a).e l s).bind asB).bind fun k s1 => if k = true then (sem cl b).e l s1 else .ok (.bl false) s1 := rfl
@[simp] theorem ze_or : (sem cl (.or a b)).e l s = (((sem cl a).e l s).bind asB).bind fun k s1 => if k = true then .ok (.bl true) s1 else (sem cl b).e l s1 := rfl
@[simp] theorem ze_one : (sem cl (.one a)).e l s = (sem cl a).e l s := rfl
@[simp] theorem ze_cmp {o : Cop} : (sem cl (.cmp o a b)).e l s = ((sem cl a).e l s).bind fun x s1 => ((sem cl b).e l s1).bind fun y s2 => cmp o x y s2 := rfl
@[simp] theorem ze_cmp2 {o p : Cop} : (sem cl (.cmp2 o p a b c)).e l s = ((sem cl a).e l s).bind fun x s1 => ((sem cl b).e l s1).bind fun y s2 => ((cmp o x y s2).bind asB).bind fun k s3 => if k = true then ((sem cl c).e l s3).bind fun z s4 => cmp p y z s4 else .ok (.bl false) s3 := rfl
@[simp] theorem ze_ite : (sem cl (.ite c a b)).e l s = (((sem cl c).e l s).bind asB).bind fun k s1 => if k = true then (sem cl a).e l s1 else (sem cl b).e l s1 := rfl
@[simp] theorem ze_tup : (sem cl (.tup es)).e l s = ((sem cl es).l l s).bind fun xs s1 => if xs.length ≤ line then .ok (.tup xs) s1 else .bad := rfl
@[simp] theorem ze_lst : (sem cl (.lst es)).e l s = ((sem cl es).l l s).bind fun xs s1 => if xs.length ≤ line then newL xs s1 else .bad := rfl
theorem ze_dct {ks : List Ky} : (sem cl (.dct ks vs)).e l s = ((sem cl vs).l l (s ++ [.dct []])).bind fun ys s2 => if ys.length = ks.length ∧ ks.length ≤ 15 ∧ (s2[s.length]? = some (MO.dct [])) then .ok (.obj s.length) (setO s.length (.dct ((ks.zip ys).foldl (fun acc kv => putK acc kv.1 kv.2) [])) s2) else .bad := rfl
@[simp] theorem ze_ix : (sem cl (.ix a i)).e l s = ((sem cl a).e l s).bind fun x s1 => ((sem cl i).e l s1).bind fun y s2 => opIx x y s2 := rfl
@[simp] theorem ze_sl : (sem cl (.sl a lo hi)).e l s = ((sem cl a).e l s).bind fun x s1 => (oInt lo (sem cl lo).e l s1).bind fun p s2 => (oInt hi (sem cl hi).e l s2).bind fun q s3 => opSl x p q s3 := rfl
@[simp] theorem ze_rev : (sem cl (.rev a)).e l s = ((sem cl a).e l s).bind fun x s1 => opRev x s1 := rfl
@[simp] theorem ze_call {f : Nat} : (sem cl (.call f as)).e l s = ((sem cl as).l l s).bind fun xs s1 => cl f xs s1 := rfl
@[simp] theorem ze_bi {b : Bi} : (sem cl (.bi b as)).e l s = ((sem cl as).l l s).bind fun xs s1 => biF b xs s1 := rfl
@[simp] theorem ze_isi {t : Ty} : (sem cl (.isi a t)).e l s = ((sem cl a).e l s).bind fun x s1 => (match isTy t x s1 with | some b => .ok (.bl b) s1 | none => .bad) := rfl
@[simp] theorem ze_mt {m : Mt} : (sem cl (.mt m o as)).e l s = ((sem cl o).e l s).bind fun x s1 => if mtOk m x s1 = true then ((sem cl as).l l s1).bind fun xs s2 => mth m x xs s2 else .bad := rfl
theorem ze_comp {own : List Nat} : (sem cl (.comp e tg it c own)).e l s = ((sem cl it).w l s).bind fun src s1 =>
      (comL src (wipe l own) (sem cl tg).t (if isNil c = true then (fun _ s => R.ok true s) else (fun l s => ((sem cl c).e l s).bind asB)) (sem cl e).e s1.length src.its [] (s1 ++ [.lst []])).noex.bind fun _ s2 => .ok (.obj s1.length) s2 := rfl
@[simp] theorem ze_callK {f : Nat} {d : D} {kv : Ex} : (sem cl (.callK f as kv d)).e l s = ((sem cl as).l l s).bind fun xs s1 => ((sem cl kv).l l s1).bind fun ys s2 => (match ys with
      | [] => cl f (xs ++ [d]) s2
      | [y] => cl f (xs ++ [y]) s2
      | _ => .bad) := rfl
@[simp] theorem ze_gix {i : Nat} {kvs : List (Int × Int)} : (sem cl (.gix i kvs a)).e l s = ((sem cl a).e l s).bind fun x s1 => (match x with
      | .int z => (match kvs.find? (fun kv => decide (kv.1 = z)) with
        | some kv => .ok (.int kv.2) s1
        | none => .bad)
      | _ => .bad) := rfl
theorem ze_comp2 {own own2 : List Nat} {tg it tg2 it2 : Ex} : (sem cl (.comp2 e tg it tg2 it2 own own2)).e l s = ((sem cl it).w l s).bind fun src s1 =>
      (com2 src (wipe l own) (sem cl tg).t (sem cl it2).w own2 (sem cl tg2).t (sem cl e).e s1.length src.its [] (s1 ++ [.lst []])).noex.bind fun _ s2 => .ok (.obj s1.length) s2 := rfl
theorem ze_compD {own : List Nat} {ek ev tg it c : Ex} : (sem cl (.compD ek ev tg it c own)).e l s = ((sem cl it).w l s).bind fun src s1 =>
      (comD src (wipe l own) (sem cl tg).t (if isNil c = true then (fun _ s => R.ok true s) else (fun l s => ((sem cl c).e l s).bind asB)) (sem cl ek).e (sem cl ev).e s1.length src.its [] (s1 ++ [.dct []])).noex.bind fun _ s2 => .ok (.obj s1.length) s2 := rfl
@[simp] theorem zw_r3 : (sem cl (.itR3 a b c)).w l s = ((sem cl a).e l s).bind fun x s1 => ((sem cl b).e l s1).bind fun y s2 => ((sem cl c).e l s2).bind fun z s3 => (match x, y, z with
      | .int i, .int j, .int k => if rgOk i j = true ∧ 0 < k ∧ k ≤ 1000000 then .ok ⟨rng3 i j k, none⟩ s3 else .bad
      | _, _, _ => .bad) := rfl
@[simp] theorem ze_sset : (sem cl (.sset a)).e l s = ((sem cl a).e l s).bind fun x s1 => (match x with
      | .tup xs => (match ints? xs with
        | some ns => if ns.length ≤ 60 then newL ((Z.sset ns).map .int) s1 else .bad
        | none => .bad)
      | _ => .bad) := rfl
@[simp] theorem ze_lr1 : (sem cl (.lr1 b)).e l s = ((sem cl b).e l s).bind fun y s1 => (match y with
      | .int j => if rgOk 0 j = true ∧ j ≤ 16777216 then newL (rng 0 j) s1 else .bad
      | _ => .bad) := rfl
@[simp] theorem ze_lr2 : (sem cl (.lr2 a b)).e l s = ((sem cl a).e l s).bind fun x s1 => ((sem cl b).e l s1).bind fun y s2 => (match x, y with
      | .int i, .int j => if rgOk i j = true ∧ j - i ≤ 16777216 then newL (rng i j) s2 else .bad
      | _, _ => .bad) := rfl
@[simp] theorem zw_itS : (sem cl (.itS e)).w l s = ((sem cl e).e l s).bind fun x s1 => (match x with
      | .tup xs => .ok ⟨xs, none⟩ s1
      | .kl xs => .ok ⟨xs, none⟩ s1
      | .str z => .ok ⟨z.map fun c => .str [c], none⟩ s1
      | .obj i => (match s1[i]? with
        | some (.lst xs) => .ok ⟨xs, some (i, .lst xs)⟩ s1
        | _ => .bad)
      | _ => .bad) := rfl
@[simp] theorem zw_r1 : (sem cl (.itR1 b)).w l s = ((sem cl b).e l s).bind fun y s1 => (match y with
      | .int j => if rgOk 0 j then .ok ⟨rng 0 j, none⟩ s1 else .bad
      | _ => .bad) := rfl
@[simp] theorem zw_r2 : (sem cl (.itR2 a b)).w l s = ((sem cl a).e l s).bind fun x s1 => ((sem cl b).e l s1).bind fun y s2 => (match x, y with
      | .int i, .int j => if rgOk i j then .ok ⟨rng i j, none⟩ s2 else .bad
      | _, _ => .bad) := rfl
@[simp] theorem zt_tv {i : Nat} {d : D} : (sem cl (.tv i)).t d l s = .ok (l.set i (some d)) s := rfl
@[simp] theorem zt_tt {ds : List D} : (sem cl (.tt t)).t (.tup ds) l s = (sem cl t).ts ds l s := rfl
@[simp] theorem zt_tix {d : D} : (sem cl (.tix o i)).t d l s = ((sem cl o).e l s).bind fun x s1 => ((sem cl i).e l s1).bind fun y s2 => (stIx x y d s2).bind fun _ s3 => .ok l s3 := rfl
@[simp] theorem zt_tsl {d : D} : (sem cl (.tsl o lo hi)).t d l s = ((sem cl o).e l s).bind fun x s1 => ((sem cl lo).e l s1).bind fun p s2 => ((sem cl hi).e l s2).bind fun q s3 => (stSl x p q d s3).bind fun _ s4 => .ok l s4 := rfl
@[simp] theorem zs_expr : (sem cl (.expr e)).s l s = ((sem cl e).e l s).bind fun _ s1 => .ok (.nx, l) s1 := rfl
@[simp] theorem zs_asg : (sem cl (.asg t e)).s l s = ((sem cl e).e l s).bind fun d s1 => ((sem cl t).t d l s1).bind fun l1 s2 => .ok (.nx, l1) s2 := rfl
@[simp] theorem zs_if : (sem cl (.sif c a b)).s l s = (((sem cl c).e l s).bind asB).bind fun k s1 => if k = true then (sem cl a).s l s1 else (sem cl b).s l s1 := rfl
@[simp] theorem zs_for : (sem cl (.sfor t it b)).s l s = ((sem cl it).w l s).bind fun src s1 => forL src (sem cl t).t (sem cl b).s src.its l s1 := rfl
@[simp] theorem zs_wh : (sem cl (.swh c b)).s l s = whL (fun l s => ((sem cl c).e l s).bind asB) (sem cl b).s whFuel l s := by simp only [sem]
@[simp] theorem zs_ret : (sem cl (.ret e)).s l s = ((sem cl e).e l s).bind fun d s1 => .ok (.ret d, l) s1 := rfl
@[simp] theorem zs_retN : (sem cl .retN).s l s = .ok (.ret .non, l) s := rfl
@[simp] theorem zs_pass : (sem cl .pass).s l s = .ok (.nx, l) s := rfl
@[simp] theorem zs_brk : (sem cl .brk).s l s = .ok (.brk, l) s := rfl
@[simp] theorem zs_cnt : (sem cl .cnt).s l s = .ok (.cnt, l) s := rfl
end
@[simp] theorem asB_bl {b : Bool} {s : Sto} : asB (.bl b) s = .ok b s := rfl
@[simp] theorem post_ok {α : Type} {a : α} {s : Sto} {Q : α → Sto → Prop} {E : D → Sto → Prop} : (R.ok a s).post Q E = Q a s := rfl
@[simp] theorem post_bindS {α β : Type} {r : R α} {f : α → Sto → R β} {Q : β → Sto → Prop} {E : D → Sto → Prop} : (r.bind f).post Q E ↔ r.post (fun a s => (f a s).post Q E) E := R.post_bind
theorem post_exists {α : Type} {r : R α} {Q : α → Sto → Prop} (h : r.post Q (fun _ _ => False)) : ∃ a s, r = .ok a s ∧ Q a s := by
  cases r with
  | ok a s => exact ⟨a, s, rfl, h⟩
  | ex => exact h.elim
  | bad => exact h.elim
/-- a block: one statement, then what is behind it -/
theorem seq_post {cl : Cl} {a r : Ex} {l : Lo} {s : Sto} {Q : Fl × Lo → Sto → Prop} {E : D → Sto → Prop}
    (h : ((sem cl a).s l s).post (fun r1 s1 => match r1.1 with | .nx => ((sem cl r).s r1.2 s1).post Q E | _ => Q r1 s1) E) : ((sem cl (.cons a r)).s l s).post Q E := by
  rw [zs_cons, R.post_bind]
  refine R.post_mono h (fun r1 s1 k => ?_) fun _ _ k => k
  obtain ⟨fl, l1⟩ := r1
  cases fl <;> exact k
/-! numbers -/
section
variable {s : Sto} {x y : Int}
@[simp] theorem bin_add : bin .add (.int x) (.int y) s = .ok (.int (x + y)) s := rfl
@[simp] theorem bin_sub : bin .sub (.int x) (.int y) s = .ok (.int (x - y)) s := rfl
theorem bin_mulL (h : -18446744073709551616 < x) (k : x < 18446744073709551616) : bin .mul (.int x) (.int y) s = .ok (.int (x * y)) s := if_pos (Or.inl ⟨h, k⟩)
theorem bin_mulR (h : -18446744073709551616 < y) (k : y < 18446744073709551616) : bin .mul (.int x) (.int y) s = .ok (.int (x * y)) s := if_pos (Or.inr ⟨h, k⟩)
theorem bin_div (h : 0 < y) (k : y < 18446744073709551616) : bin .div (.int x) (.int y) s = .ok (.int (x / y)) s := if_pos ⟨h, k⟩
theorem bin_mod (h : 0 < y) : bin .mod (.int x) (.int y) s = .ok (.int (x % y)) s := if_pos h
theorem bin_pow (h : 0 ≤ y) (h2 : y ≤ 1000000) (k : x.natAbs < 18446744073709551616) : bin .pow (.int x) (.int y) s = .ok (.int (x ^ y.toNat)) s := if_pos ⟨h, h2, k⟩
theorem eqD_int : eqD s (.int x) (.int y) = some (decide (x = y)) := by
  show some (x == y) = _
  by_cases h : x = y <;> simp [h]
@[simp] theorem eqD_str {a b : List Nat} : eqD s (.str a) (.str b) = some (decide (a = b)) := by
  show some (a == b) = _
  by_cases h : a = b <;> simp [h]
@[simp] theorem cmp_eqI : cmp .eq (.int x) (.int y) s = .ok (.bl (decide (x = y))) s := by unfold cmp cmpO; rw [eqD_int]
@[simp] theorem cmp_neI : cmp .ne (.int x) (.int y) s = .ok (.bl (!decide (x = y))) s := by unfold cmp cmpO; rw [eqD_int]; rfl
@[simp] theorem cmp_lt : cmp .lt (.int x) (.int y) s = .ok (.bl (decide (x < y))) s := rfl
@[simp] theorem cmp_le : cmp .le (.int x) (.int y) s = .ok (.bl (decide (x ≤ y))) s := rfl
@[simp] theorem cmp_gt : cmp .gt (.int x) (.int y) s = .ok (.bl (decide (y < x))) s := rfl
@[simp] theorem cmp_ge : cmp .ge (.int x) (.int y) s = .ok (.bl (decide (y ≤ x))) s := rfl
@[simp] theorem cmp_eqS {a b : List Nat} : cmp .eq (.str a) (.str b) s = .ok (.bl (decide (a = b))) s := by unfold cmp cmpO; rw [eqD_str]
@[simp] theorem cmp_neS {a b : List Nat} : cmp .ne (.str a) (.str b) s = .ok (.bl (!decide (a = b))) s := by unfold cmp cmpO; rw [eqD_str]; rfl
@[simp] theorem ix_tup {xs : List D} : opIx (.tup xs) (.int x) s = match L2.atI xs x with | some d => .ok d s | none => .bad := rfl
@[simp] theorem ix_kl {xs : List D} : opIx (.kl xs) (.int x) s = match L2.atI xs x with | some d => .ok d s | none => .bad := rfl
theorem ix_lst {i : Nat} {xs : List D} (h : s[i]? = some (.lst xs)) : opIx (.obj i) (.int x) s = match L2.atI xs x with | some d => .ok d s | none => .bad := by
  simp only [opIx, h]
  all_goals rfl
theorem ix_dct {i : Nat} {q : List Nat} {kvs : List (Ky × D)} (h : s[i]? = some (.dct kvs)) : opIx (.obj i) (.str q) s = match lookK kvs (.inr q) with | some d => .ok d s | none => .bad := by
  simp only [opIx, h, D.key]
  all_goals rfl
theorem st_dct {i : Nat} {q : List Nat} {v : D} {kvs : List (Ky × D)} (h : s[i]? = some (.dct kvs)) (k : kvs.length < line) : stIx (.obj i) (.str q) v s = .ok () (setO i (.dct (putK kvs (.inr q) v)) s) := by
  simp only [stIx, h, D.key, if_pos k]
end
@[simp] theorem newL_eq {xs : List D} {s : Sto} : newL xs s = .ok (.obj s.length) (s ++ [.lst xs]) := rfl
theorem list_lit {s : Sto} {xs : List D} (h : xs.length ≤ line) : (if xs.length ≤ line then newL xs s else .bad) = .ok (.obj s.length) (s ++ [.lst xs]) := if_pos h
@[simp] theorem get_last {s : Sto} {o : MO} : (s ++ [o])[s.length]? = some o := by simp
theorem get_old {s t : Sto} {i : Nat} (h : i < s.length) : (s ++ t)[i]? = s[i]? := List.getElem?_append_left h
theorem keep_app {s t : Sto} {i : Nat} {o : MO} (h : s[i]? = some o) : (s ++ t)[i]? = some o := by
  obtain ⟨hi, e⟩ := List.getElem?_eq_some_iff.mp h
  rw [List.getElem?_append_left hi, h]
theorem lt_of_get {s : Sto} {i : Nat} {o : MO} (h : s[i]? = some o) : i < s.length := by
  obtain ⟨hi, _⟩ := List.getElem?_eq_some_iff.mp h
  exact hi
theorem get_set {s : Sto} {i : Nat} {o : MO} (h : i < s.length) : (setO i o s)[i]? = some o := by unfold setO; simp [h]
theorem get_set_ne {s : Sto} {i j : Nat} {o : MO} (h : i ≠ j) : (setO i o s)[j]? = s[j]? := by unfold setO; simp [h]
@[simp] theorem len_set {s : Sto} {i : Nat} {o : MO} : (setO i o s).length = s.length := by unfold setO; simp
@[simp] theorem set_last {s : Sto} {o p : MO} : setO s.length p (s ++ [o]) = s ++ [p] := by unfold setO; simp
/-! loops -/
theorem forL_post {src : Src} {t : D → Lo → Sto → R Lo} {b : Lo → Sto → R (Fl × Lo)} {Q : Fl × Lo → Sto → Prop} {E : D → Sto → Prop} (I : Nat → Lo → Sto → Prop)
    (hsrc : ∀ k l s, I k l s → src.ok s = true) : ∀ (its : List D) (k0 : Nat) (l : Lo) (s : Sto),
    (∀ k d l s, its[k]? = some d → I (k0 + k) l s → (t d l s).post (fun l1 s1 => (b l1 s1).post (fun r s2 => match r.1 with | .nx => I (k0 + k + 1) r.2 s2 | .cnt => I (k0 + k + 1) r.2 s2 | .brk => Q (.nx, r.2) s2 | .ret v => Q (.ret v, r.2) s2) E) E) →
    (∀ l s, I (k0 + its.length) l s → Q (.nx, l) s) → I k0 l s → (forL src t b its l s).post Q E
  | [], k0, l, s, _, fin, h => by
    unfold forL
    rw [if_pos (hsrc _ _ _ h)]
    exact fin l s h
  | d :: ds, k0, l, s, step, fin, h => by
    unfold forL
    rw [if_pos (hsrc _ _ _ h), R.post_bind]
    refine R.post_mono (step 0 d l s rfl h) (fun l1 s1 h1 => ?_) fun _ _ k => k
    rw [R.post_bind]
    refine R.post_mono h1 (fun r s2 h2 => ?_) fun _ _ k => k
    have next : ∀ l s, I (k0 + 1) l s → (forL src t b ds l s).post Q E := fun l s h => forL_post I hsrc ds (k0 + 1) l s
      (fun k d l s e i => by
        have := step (k + 1) d l s (by simpa using e) (by rw [show k0 + (k + 1) = k0 + 1 + k by omega]; exact i)
        rw [show k0 + (k + 1) = k0 + 1 + k by omega] at this
        exact this) (fun l s i => fin l s (by rw [List.length_cons, show k0 + (ds.length + 1) = k0 + 1 + ds.length by omega]; exact i)) h
    obtain ⟨fl, l2⟩ := r
    cases fl with
    | nx => exact next _ _ h2
    | cnt => exact next _ _ h2
    | brk => exact h2
    | ret v => exact h2
/-- a for over what can't change -/
theorem for_post {its : List D} {t : D → Lo → Sto → R Lo} {b : Lo → Sto → R (Fl × Lo)} {Q : Fl × Lo → Sto → Prop} {E : D → Sto → Prop} (I : Nat → Lo → Sto → Prop) {l : Lo} {s : Sto}
    (step : ∀ k d l s, its[k]? = some d → I k l s → (t d l s).post (fun l1 s1 => (b l1 s1).post (fun r s2 => match r.1 with | .nx => I (k + 1) r.2 s2 | .cnt => I (k + 1) r.2 s2 | .brk => Q (.nx, r.2) s2 | .ret v => Q (.ret v, r.2) s2) E) E)
    (fin : ∀ l s, I its.length l s → Q (.nx, l) s) (h : I 0 l s) : (forL ⟨its, none⟩ t b its l s).post Q E :=
  forL_post I (fun _ _ _ _ => rfl) its 0 l s (fun k d l s e i => by simpa using step k d l s e (by simpa using i)) (fun l s i => fin l s (by simpa using i)) h
theorem rng_len {a b : Int} : (rng a b).length = (b - a).toNat := by unfold rng; simp
theorem rng_get {a b : Int} {k : Nat} {d : D} (h : (rng a b)[k]? = some d) : d = .int (a + k) ∧ a + k < b := by
  unfold rng at h
  rw [List.getElem?_map, Option.map_eq_some_iff] at h
  obtain ⟨j, e, rfl⟩ := h
  obtain ⟨hk, e⟩ := List.getElem?_eq_some_iff.mp e
  simp at e hk
  subst e
  exact ⟨rfl, by omega⟩
/-! what is shown -/
structure Rd (s : Sto) (n : Nat) (d : D) (p : PyData) (w : Nat) : Prop where
  rd : ∀ m, n ≤ m → pd s (m + 1) d = some p
  lay : p.canLay0 = true
  dep : p.depth ≤ n
  lvs : p.leavesShort 13 = true
  shw : p.showable = true
  wei : p.bulk ≤ w
theorem eqP_rd {s : Sto} {n m : Nat} {x y : D} {p q : PyData} {w v : Nat} (a : Rd s n x p w) (b : Rd s m y q v) (hn : n ≤ 39) (hm : m ≤ 39) : eqP s x y = some (PyData.eqv p q) := by
  unfold eqP fuel
  rw [a.rd 39 hn, b.rd 39 hm]
  have h1 : SeqAt.shaped p = true := by unfold SeqAt.shaped; rw [a.lay, Bool.true_and, decide_eq_true_eq]; have := a.dep; omega
  have h2 : SeqAt.shaped q = true := by unfold SeqAt.shaped; rw [b.lay, Bool.true_and, decide_eq_true_eq]; have := b.dep; omega
  simp only [h1, h2, and_self, if_true]
theorem optAll_len {α β : Type} {f : α → Option β} : ∀ {xs : List α} {ys : List β}, optAll f xs = some ys → ys.length = xs.length
  | [], _, h => by cases h; rfl
  | x :: xs, ys, h => by
    unfold optAll at h
    split at h
    · rename_i a b
      cases h
      simp [optAll_len b]
    · cases h
theorem pd_list {s : Sto} {x : D} {xs : List D} {m : Nat} {p : PyData} (h : lst? s x = some xs) (e : pd s (m + 1) x = some p) : ∃ ps, p = .list ps ∧ ps.length = xs.length := by
  unfold lst? at h
  split at h
  · cases h
    simp only [pd, Option.map_eq_some_iff] at e
    obtain ⟨ps, e, rfl⟩ := e
    exact ⟨ps, rfl, optAll_len e⟩
  · split at h
    · rename_i hi
      cases h
      simp only [pd, hi, Option.map_eq_some_iff] at e
      obtain ⟨ps, e, rfl⟩ := e
      exact ⟨ps, rfl, optAll_len e⟩
    · cases h
  · cases h
theorem eqvAll_len : ∀ (a b : List PyData), a.length ≠ b.length → PyData.eqvAll a b = false
  | [], [], h => absurd rfl h
  | [], _ :: _, _ => by simp [PyData.eqvAll]
  | _ :: _, [], _ => by simp [PyData.eqvAll]
  | x :: a, y :: b, h => by
    have := eqvAll_len a b (by simpa using h)
    simp [PyData.eqvAll, this]
theorem eqD_rd {s : Sto} {n m : Nat} {x y : D} {p q : PyData} {w v : Nat} (a : Rd s n x p w) (b : Rd s m y q v) (hn : n ≤ 39) (hm : m ≤ 39) : eqD s x y = some (PyData.eqv p q) := by
  unfold eqD
  split
  · rename_i i j
    have e1 := a.rd n (Nat.le_refl _)
    have e2 := b.rd m (Nat.le_refl _)
    cases e1; cases e2
    by_cases h : i = j
    · subst h; simp [PyData.eqv]
    · have : ¬ ((⟨i.toArray⟩ : Str) = ⟨j.toArray⟩) := fun e => h (by injection e with e; simpa using congrArg Array.toList e)
      simp only [PyData.eqv]
      rw [beq_eq_false_iff_ne.mpr h, beq_eq_false_iff_ne.mpr this]
  · split
    · rename_i hln
      unfold lenNe at hln
      split at hln
      · rename_i e1 e2
        obtain ⟨ps, rfl, l1⟩ := pd_list e1 (a.rd n (Nat.le_refl _))
        obtain ⟨qs, rfl, l2⟩ := pd_list e2 (b.rd m (Nat.le_refl _))
        simp only [PyData.eqv]
        rw [eqvAll_len _ _ (by rw [l1, l2]; exact bne_iff_ne.mp hln)]
      · cases hln
    · exact eqP_rd a b hn hm
theorem shown_rd {s : Sto} {n : Nat} {x : D} {p : PyData} {w : Nat} (a : Rd s n x p w) (hn : n ≤ 39) (hw : w ≤ 1048576) : shownD x s = some p.shown.cps.toList := by
  unfold shownD fuel
  rw [a.rd 39 hn]
  have h1 := PyData.shown_le_bulk 13 (by omega) p a.lvs
  have h2 : p.shown.length ≤ line := by
    have := a.wei
    unfold line
    omega
  simp only [a.shw, h2, and_self, if_true]
theorem rd_int {s : Sto} {i : Int} (h : i.natAbs < 10 ^ 12) : Rd s 0 (.int i) (.int i) 0 := by
  refine ⟨fun m _ => rfl, rfl, Nat.le_refl _, ?_, ?_, by simp [PyData.bulk]⟩
  · simp only [PyData.leavesShort, decide_eq_true_eq]
    exact PyData.shown_int_le h
  · simp only [PyData.showable, decide_eq_true_eq]
    by_cases h0 : i.natAbs = 0
    · rw [h0]; decide
    · have h1 : (10 : Nat) ^ 12 < 2 ^ 40 := by decide
      have h2 := (Nat.log2_lt h0 (k := 40)).mpr (Nat.lt_trans h h1)
      omega
theorem rd_ints {s : Sto} : ∀ (ns : List Int), (∀ i ∈ ns, i.natAbs < 10 ^ 12) → (∀ m, optAll (pd s (m + 1)) (ns.map D.int) = some (ns.map PyData.int)) ∧ PyData.canLayAll0 (ns.map .int) = true ∧ PyData.depthAll (ns.map .int) ≤ 0 ∧ PyData.leavesShortAll 13 (ns.map .int) = true ∧ PyData.showableAll (ns.map .int) = true ∧ PyData.bulkAll (ns.map .int) ≤ ns.length
  | [], _ => ⟨fun _ => rfl, rfl, Nat.le_refl _, rfl, rfl, Nat.le_refl _⟩
  | i :: ns, h => by
    have a := rd_int (s := s) (h i List.mem_cons_self)
    obtain ⟨b1, b2, b3, b4, b5, b6⟩ := rd_ints (s := s) ns fun i hi => h i (List.mem_cons_of_mem _ hi)
    refine ⟨fun m => ?_, ?_, ?_, ?_, ?_, ?_⟩
    · simp only [List.map_cons, optAll, a.rd m (Nat.zero_le _), b1 m]
    · simp only [List.map_cons, PyData.canLayAll0, a.lay, b2, Bool.and_self]
    · have := a.dep
      simp only [List.map_cons, PyData.depthAll]
      omega
    · simp only [List.map_cons, PyData.leavesShortAll, a.lvs, b4, Bool.and_self]
    · simp only [List.map_cons, PyData.showableAll, a.shw, b5, Bool.and_self]
    · have := a.wei
      simp only [List.map_cons, PyData.bulkAll, List.length_cons]
      omega
theorem rd_tupI {s : Sto} {ns : List Int} (h : ∀ i ∈ ns, i.natAbs < 10 ^ 12) : Rd s 1 (.tup (ns.map .int)) (.tuple (ns.map .int)) ns.length := by
  obtain ⟨b1, b2, b3, b4, b5, b6⟩ := rd_ints (s := s) ns h
  refine ⟨fun m hm => ?_, ?_, ?_, ?_, ?_, ?_⟩
  · obtain ⟨k, rfl⟩ : ∃ k, m = k + 1 := ⟨m - 1, by omega⟩
    show (optAll (pd s (k + 1)) (ns.map D.int)).map PyData.tuple = _
    rw [b1 k]; rfl
  · simpa only [PyData.canLay0] using b2
  · simp only [PyData.depth]; omega
  · simpa only [PyData.leavesShort] using b4
  · simpa only [PyData.showable] using b5
  · simpa only [PyData.bulk] using b6
/-- how a tuple of numbers is shown -/
def shI (ns : List Int) : List Nat := (PyData.tuple (ns.map .int)).shown.cps.toList
theorem eqv_ints : ∀ (a b : List Int), PyData.eqvAll (a.map .int) (b.map .int) = decide (a = b)
  | [], [] => by simp [PyData.eqvAll]
  | [], _ :: _ => by simp [PyData.eqvAll]
  | _ :: _, [] => by simp [PyData.eqvAll]
  | x :: a, y :: b => by
    have := eqv_ints a b
    by_cases h : x = y <;> by_cases k : a = b <;> simp_all [PyData.eqvAll, PyData.eqv]
theorem cmp_eqT {s : Sto} {a b : List Int} (ha : ∀ i ∈ a, i.natAbs < 10 ^ 12) (hb : ∀ i ∈ b, i.natAbs < 10 ^ 12) : cmp .eq (.tup (a.map .int)) (.tup (b.map .int)) s = .ok (.bl (decide (a = b))) s := by
  unfold cmp cmpO
  rw [eqD_rd (rd_tupI ha) (rd_tupI hb) (by omega) (by omega)]
  simp [PyData.eqv, eqv_ints]
theorem cmp_neT {s : Sto} {a b : List Int} (ha : ∀ i ∈ a, i.natAbs < 10 ^ 12) (hb : ∀ i ∈ b, i.natAbs < 10 ^ 12) : cmp .ne (.tup (a.map .int)) (.tup (b.map .int)) s = .ok (.bl (!decide (a = b))) s := by
  unfold cmp cmpO
  rw [eqD_rd (rd_tupI ha) (rd_tupI hb) (by omega) (by omega)]
  simp [PyData.eqv, eqv_ints]
theorem repr_tupI {s : Sto} {ns : List Int} (h : ∀ i ∈ ns, i.natAbs < 10 ^ 12) (hl : ns.length ≤ 1048576) : biF .repr [.tup (ns.map .int)] s = .ok (.str (shI ns)) s := by
  show (match shownD (.tup (ns.map .int)) s with | some t => R.ok (D.str t) s | none => (.bad : R D)) = _
  rw [shown_rd (rd_tupI h) (by omega) hl]
  rfl
end Z

/-! ZDraw: the laws' pen and their draws. -/
namespace Z
open PySem
def b_law_pen : Ex := (.cons (.ret (.dct [.inr [99, 101, 108, 108, 115], .inr [97, 116], .inr [108, 101, 102, 116]] (.cons (.bi .list (.cons (.sl (.var 0) .nil (.int 63)) .nil)) (.cons (.int 0) (.cons (.int 0) .nil))))) .nil)
def b_law_draw_8 : Ex := (.cons (.ret (.bin .mod (.bin .div (.var 7) (.int 32)) (.var 1))) .nil)
def b_law_draw_7 : Ex := (.cons (.asg (.tv 7) (.bin .mod (.bin .pow (.bin .add (.bin .mul (.var 6) (.bin .add (.var 3) (.int 65551))) (.bin .mul (.bin .mul (.int 86291) (.var 3)) (.var 3))) (.int 3)) (.int 2147483477))) b_law_draw_8)
def b_law_draw_6 : Ex := (.cons (.asg (.tv 6) (.bin .mod (.bin .pow (.bin .add (.bin .add (.bin .mod (.var 4) (.int 2147483587)) (.bin .mul (.int 70913) (.var 3))) (.int 53)) (.int 5)) (.int 2147483647))) b_law_draw_7)
def b_law_draw_5a_2 : Ex := (.cons (.ret (.bin .mod (.var 5) (.var 1))) .nil)
def b_law_draw_5a_1 : Ex := (.cons (.asg (.tix (.var 0) (.str [108, 101, 102, 116])) (.bin .div (.var 5) (.var 1))) b_law_draw_5a_2)
def b_law_draw_5a_0 : Ex := (.cons (.asg (.tv 5) (.bin .add (.bin .mul (.int 2) (.bi .abs (.cons (.var 4) .nil))) (.bi .int (.cons (.cmp .lt (.var 4) (.int 0)) .nil)))) b_law_draw_5a_1)
def b_law_draw_5 : Ex := (.cons (.sif (.and (.cmp .lt (.var 3) (.bi .len (.cons (.ix (.var 0) (.str [99, 101, 108, 108, 115])) .nil))) (.one (.cmp .ge (.bi .abs (.cons (.var 4) .nil)) (.bin .pow (.int 10) (.int 18))))) b_law_draw_5a_0 .nil) b_law_draw_6)
def b_law_draw_4 : Ex := (.cons (.sif (.cmp .ne (.ix (.var 0) (.str [99, 101, 108, 108, 115])) (.lst .nil)) (.cons (.asg (.tv 4) (.ix (.ix (.var 0) (.str [99, 101, 108, 108, 115])) (.bin .mod (.var 3) (.bi .len (.cons (.ix (.var 0) (.str [99, 101, 108, 108, 115])) .nil))))) .nil) .nil) b_law_draw_5)
def b_law_draw_3 : Ex := (.cons (.asg (.tv 4) (.bin .add (.bin .mul (.int 1877) (.var 3)) (.int 509))) b_law_draw_4)
def b_law_draw_2 : Ex := (.cons (.asg (.tix (.var 0) (.str [97, 116])) (.bin .add (.var 3) (.int 1))) b_law_draw_3)
def b_law_draw_1 : Ex := (.cons (.asg (.tv 3) (.ix (.var 0) (.str [97, 116]))) b_law_draw_2)
def b_law_draw_0a_2 : Ex := (.cons (.ret (.var 2)) .nil)
def b_law_draw_0a_1 : Ex := (.cons (.asg (.tix (.var 0) (.str [108, 101, 102, 116])) (.bin .div (.ix (.var 0) (.str [108, 101, 102, 116])) (.var 1))) b_law_draw_0a_2)
def b_law_draw_0a_0 : Ex := (.cons (.asg (.tv 2) (.bin .mod (.ix (.var 0) (.str [108, 101, 102, 116])) (.var 1))) b_law_draw_0a_1)
def b_law_draw_0 : Ex := (.cons (.sif (.cmp .gt (.ix (.var 0) (.str [108, 101, 102, 116])) (.int 0)) b_law_draw_0a_0 .nil) b_law_draw_1)
abbrev kCells : Ky := .inr [99, 101, 108, 108, 115]
abbrev kAt : Ky := .inr [97, 116]
abbrev kLeft : Ky := .inr [108, 101, 102, 116]
/-- what stays -/
structure Kp (p : Nat) (s t : Sto) : Prop where
  len : s.length ≤ t.length
  old : ∀ j o, j ≠ p → s[j]? = some o → t[j]? = some o
theorem Kp.refl {p : Nat} {s : Sto} : Kp p s s := ⟨Nat.le_refl _, fun _ _ _ h => h⟩
theorem Kp.trans {p : Nat} {s t u : Sto} (a : Kp p s t) (b : Kp p t u) : Kp p s u := ⟨Nat.le_trans a.len b.len, fun j o n h => b.old j o n (a.old j o n h)⟩
theorem Kp.app {p : Nat} {s t : Sto} : Kp p s (s ++ t) := ⟨by simp, fun _ _ _ h => keep_app h⟩
theorem Kp.set {p : Nat} {s : Sto} {o : MO} : Kp p s (setO p o s) := ⟨by simp, fun _ _ n h => by rw [get_set_ne (Ne.symm n)]; exact h⟩
/-- a pen at p, its cells at j, asked at most a times -/
structure Pen (p j a : Nat) (s : Sto) : Prop where
  ex : ∃ (ns : List Int) (at_ : Nat) (left : Int), s[p]? = some (.dct [(kCells, .obj j), (kAt, .int at_), (kLeft, .int left)]) ∧ s[j]? = some (.lst (ns.map .int)) ∧ at_ ≤ a
theorem Pen.le {p j a b : Nat} {s : Sto} (h : Pen p j a s) (k : a ≤ b) : Pen p j b s := by
  obtain ⟨ns, t, l, h1, h2, h3⟩ := h.ex
  exact ⟨ns, t, l, h1, h2, by omega⟩
theorem Pen.app {p j a : Nat} {s t : Sto} (h : Pen p j a s) : Pen p j a (s ++ t) := by
  obtain ⟨ns, at_, l, h1, h2, h3⟩ := h.ex
  exact ⟨ns, at_, l, keep_app h1, keep_app h2, h3⟩
theorem Pen.lt {p j a : Nat} {s : Sto} (h : Pen p j a s) : p < s.length ∧ j < s.length ∧ p ≠ j := by
  obtain ⟨ns, at_, l, h1, h2, h3⟩ := h.ex
  refine ⟨lt_of_get h1, lt_of_get h2, ?_⟩
  rintro rfl
  rw [h1] at h2
  cases h2
theorem Pen.kp {p j q a : Nat} {s t : Sto} (h : Pen p j a s) (k : Kp q s t) (n : q ≠ p) (m : q ≠ j) : Pen p j a t := by
  obtain ⟨ns, at_, l, h1, h2, h3⟩ := h.ex
  exact ⟨ns, at_, l, k.old _ _ (Ne.symm n) h1, k.old _ _ (Ne.symm m) h2, h3⟩
theorem Pen.set {p j q a : Nat} {s : Sto} {o : MO} (h : Pen p j a s) (n : q ≠ p) (m : q ≠ j) : Pen p j a (setO q o s) := h.kp .set n m
theorem optAll_ints {s : Sto} {m : Nat} : ∀ ns : List Int, optAll (pd s (m + 1)) (ns.map D.int) = some (ns.map PyData.int)
  | [] => rfl
  | n :: ns => by simp only [List.map_cons, optAll, optAll_ints ns]; rfl
theorem lay_ints : ∀ ns : List Int, PyData.canLayAll0 (ns.map .int) = true ∧ PyData.depthAll (ns.map .int) = 0
  | [] => ⟨rfl, rfl⟩
  | n :: ns => by simp [PyData.canLayAll0, PyData.canLay0, PyData.depthAll, PyData.depth, lay_ints ns]
theorem eqP_lists {s : Sto} {i j : Nat} {a b : List Int} (hi : s[i]? = some (.lst (a.map .int))) (hj : s[j]? = some (.lst (b.map .int))) : eqD s (.obj i) (.obj j) = some (decide (a = b)) := by
  show (if lenNe s (.obj i) (.obj j) = true then some false else eqP s (.obj i) (.obj j)) = _
  have el : lenNe s (.obj i) (.obj j) = (a.length != b.length) := by simp [lenNe, lst?, hi, hj]
  rw [el]
  by_cases h : a.length = b.length
  · rw [if_neg (by simp [h])]
    have e : ∀ {i : Nat} {a : List Int}, s[i]? = some (.lst (a.map .int)) → pd s fuel (.obj i) = some (.list (a.map .int)) := by
      intro i a h
      show (match s[i]? with | some (MO.lst xs) => (optAll (pd s 39) xs).map PyData.list | some (.dct kvs) => _ | none => none) = _
      rw [h]
      show (optAll (pd s (38 + 1)) (a.map D.int)).map PyData.list = _
      rw [optAll_ints]; rfl
    unfold eqP
    rw [e hi, e hj]
    have sh : ∀ a : List Int, SeqAt.shaped (.list (a.map .int)) = true := by
      intro a
      obtain ⟨h1, h2⟩ := lay_ints a
      simp [SeqAt.shaped, PyData.canLay0, PyData.depth, h1, h2]
    simp only [sh, and_self, if_true, PyData.eqv, eqv_ints]
  · rw [if_pos (by simp [h])]
    have : ¬ a = b := fun e => h (by rw [e])
    simp [this]
theorem cmp_neL {s : Sto} {i j : Nat} {a b : List Int} (hi : s[i]? = some (.lst (a.map .int))) (hj : s[j]? = some (.lst (b.map .int))) : cmp .ne (.obj i) (.obj j) s = .ok (.bl (!decide (a = b))) s := by
  unfold cmp cmpO; rw [eqP_lists hi hj]; rfl
@[simp] theorem bi_len_lst {s : Sto} {i : Nat} {xs : List D} (h : s[i]? = some (.lst xs)) : biF .len [.obj i] s = .ok (.int xs.length) s := by
  show bLen (.obj i) s = _
  unfold bLen
  simp only [h]
@[simp] theorem bi_abs {s : Sto} {i : Int} : biF .abs [.int i] s = .ok (.int (if i < 0 then -i else i)) s := rfl
@[simp] theorem bi_intB {s : Sto} {b : Bool} : biF .int [.bl b] s = .ok (.int (if b then 1 else 0)) s := rfl
@[simp] theorem bi_intI {s : Sto} {b : Int} : biF .int [.int b] s = .ok (.int b) s := rfl
/-- what a draw tells -/
def DrawQ (p j a : Nat) (m : Int) (s : Sto) (r : Fl × Lo) (s1 : Sto) : Prop := ∃ v, r.1 = .ret (.int v) ∧ 0 ≤ v ∧ v < m ∧ Pen p j (a + 1) s1 ∧ Kp p s s1
theorem pow18 {s : Sto} : bin .pow (.int 10) (.int 18) s = .ok (.int 1000000000000000000) s := by
  rw [bin_pow (by omega) (by omega) (by decide)]
  have : (10 : Int) ^ (18 : Int).toNat = 1000000000000000000 := by simp
  rw [this]
theorem pow5 {s : Sto} {x : Int} (h : x.natAbs < 18446744073709551616) : bin .pow (.int x) (.int 5) s = .ok (.int (x ^ 5)) s := bin_pow (by omega) (by omega) h
theorem pow3 {s : Sto} {x : Int} (h : x.natAbs < 18446744073709551616) : bin .pow (.int x) (.int 3) s = .ok (.int (x ^ 3)) s := bin_pow (by omega) (by omega) h
section
variable {cl : Cl} {p a j t : Nat} {m : Int} {s s2 : Sto} {E : D → Sto → Prop} {ns : List Int} {left : Int}
theorem draw_last {t : Int} (h0 : 0 ≤ t) (ha : t ≤ 1000000) (hm : 0 < m) (hb : m < 18446744073709551616) (c : Int) (hp : Pen p j (a + 1) s2) (k2 : Kp p s s2) :
    ((sem cl b_law_draw_6).s [some (.obj p), some (.int m), none, some (.int t), some (.int c), none, none, none] s2).post (DrawQ p j a m s) E := by
  unfold b_law_draw_6
  refine seq_post ?_
  have b1 : 0 ≤ c % 2147483587 := Int.emod_nonneg _ (by decide)
  have b2 : c % 2147483587 < 2147483587 := Int.emod_lt_of_pos _ (by decide)
  simp [bin_mulL, bin_mod]
  rw [pow5 (by omega)]
  simp [bin_mod]
  generalize hu : (c % 2147483587 + 70913 * t + 53) ^ 5 % 2147483647 = u
  have b3 : 0 ≤ u := hu ▸ Int.emod_nonneg _ (by decide)
  have b4 : u < 2147483647 := hu ▸ Int.emod_lt_of_pos _ (by decide)
  clear hu
  unfold b_law_draw_7
  refine seq_post ?_
  have b5 : u * (t + 65551) ≤ 2147483647 * 1065551 := Int.mul_le_mul (by omega) (by omega) (by omega) (by omega)
  have b6 : 0 ≤ u * (t + 65551) := Int.mul_nonneg b3 (by omega)
  have b7 : (86291 * t) * t ≤ (86291 * 1000000) * 1000000 := Int.mul_le_mul (by omega) (by omega) (by omega) (by omega)
  have b8 : 0 ≤ (86291 * t) * t := Int.mul_nonneg (by omega) (by omega)
  have c1 : bin .mul (.int u) (.int (t + 65551)) s2 = .ok (.int (u * (t + 65551))) s2 := bin_mulL (by omega) (by omega)
  have c2 : bin .mul (.int (86291 * t)) (.int t) s2 = .ok (.int (86291 * t * t)) s2 := bin_mulL (by omega) (by omega)
  have c0 : bin .mul (.int 86291) (.int t) s2 = .ok (.int (86291 * t)) s2 := bin_mulL (by omega) (by omega)
  simp [c0, c1, c2]
  rw [pow3 (by omega)]
  simp [bin_mod]
  unfold b_law_draw_8
  refine seq_post ?_
  simp [bin_div, bin_mod hm]
  exact ⟨_, rfl, Int.emod_nonneg _ (by omega), Int.emod_lt_of_pos _ hm, hp, k2⟩
theorem draw_mid (ha : t ≤ 1000000) (hm : 0 < m) (hb : m < 18446744073709551616) (c : Int) (hp2 : s2[p]? = some (MO.dct [(kCells, D.obj j), (kAt, D.int (↑t + 1)), (kLeft, D.int left)])) (hc2 : s2[j]? = some (MO.lst (List.map D.int ns))) (k2 : Kp p s s2) (ht : t ≤ a) :
    ((sem cl b_law_draw_5).s [some (.obj p), some (.int m), none, some (.int ↑t), some (.int c), none, none, none] s2).post (DrawQ p j a m s) E := by
  have lp := lt_of_get hp2
  have pj : p ≠ j := by
    rintro rfl
    rw [hp2] at hc2
    cases hc2
  have last := draw_last (cl := cl) (E := E) (a := a) (t := (t : Int)) (by omega) (by omega) hm hb c ⟨ns, t + 1, left, by simpa using hp2, hc2, by omega⟩ k2
  unfold b_law_draw_5
  refine seq_post ?_
  simp [ix_dct hp2, lookK, bi_len_lst hc2, pow18]
  split
  · simp only [R.bind_ok, cmp_ge, asB_bl, post_ok]
    generalize decide ((1000000000000000000 : Int) ≤ (if c < 0 then -c else c)) = k
    cases k
    · simpa using last
    · simp only [if_true]
      unfold b_law_draw_5a_0
      refine seq_post ?_
      simp [bin_mulL]
      generalize (2 * (if c < 0 then -c else c) + if c < 0 then 1 else 0 : Int) = w
      unfold b_law_draw_5a_1
      refine seq_post ?_
      simp [bin_div hm hb, st_dct hp2 (by show 3 < 16777216; omega), putK]
      unfold b_law_draw_5a_2
      refine seq_post ?_
      simp [bin_mod hm]
      exact ⟨_, rfl, Int.emod_nonneg _ (by omega), Int.emod_lt_of_pos _ hm, ⟨ns, t + 1, w / m, by simpa using get_set lp, by rw [get_set_ne pj]; exact hc2, by omega⟩, k2.trans .set⟩
  · simpa using last
theorem atI_nn {α : Type} {xs : List α} {i : Int} (h : 0 ≤ i) (k : i < xs.length) : L2.atI xs i = xs[i.toNat]? := by
  unfold L2.atI L2.ixN
  rw [if_pos h, if_pos k]
  rfl
end
theorem draw_post {cl : Cl} {p j a : Nat} {m : Int} {s : Sto} {E : D → Sto → Prop} (h : Pen p j a s) (ha : a ≤ 1000000) (hm : 0 < m) (hb : m < 18446744073709551616) :
    ((sem cl b_law_draw_0).s [some (.obj p), some (.int m), none, none, none, none, none, none] s).post (DrawQ p j a m s) E := by
  obtain ⟨ns, t, left, hp, hc, ht⟩ := h.ex
  have lp := lt_of_get hp
  have lj := lt_of_get hc
  have pj : p ≠ j := by
    rintro rfl
    rw [hp] at hc
    cases hc
  have e0 : (0 : Nat) ≤ t := Nat.zero_le _
  refine seq_post ?_
  simp [ix_dct hp, lookK]
  split
  · unfold b_law_draw_0a_0
    refine seq_post ?_
    simp [ix_dct hp, lookK, bin_mod hm]
    unfold b_law_draw_0a_1
    refine seq_post ?_
    simp [ix_dct hp, lookK, bin_div hm hb, st_dct hp (by show 3 < 16777216; omega)]
    unfold b_law_draw_0a_2
    refine seq_post ?_
    simp
    refine ⟨_, rfl, Int.emod_nonneg _ (by omega), Int.emod_lt_of_pos _ hm, ⟨ns, t, left / m, ?_, ?_, by omega⟩, .set⟩
    · rw [get_set lp]
      simp [putK]
    · rw [get_set_ne pj]; exact hc
  · simp
    unfold b_law_draw_1
    refine seq_post ?_
    simp [ix_dct hp, lookK]
    unfold b_law_draw_2
    refine seq_post ?_
    simp [st_dct hp (by show 3 < 16777216; omega), putK]
    generalize hs1 : setO p (MO.dct [(kCells, D.obj j), (kAt, D.int (↑t + 1)), (kLeft, D.int left)]) s = s1
    have hp1 : s1[p]? = some (MO.dct [(kCells, D.obj j), (kAt, D.int (↑t + 1)), (kLeft, D.int left)]) := by rw [← hs1, get_set lp]
    have hc1 : s1[j]? = some (MO.lst (List.map D.int ns)) := by rw [← hs1, get_set_ne pj]; exact hc
    have k1 : Kp p s s1 := hs1 ▸ .set
    clear hs1 hp hc
    unfold b_law_draw_3
    refine seq_post ?_
    simp [bin_mulL]
    unfold b_law_draw_4
    refine seq_post ?_
    simp [ix_dct hp1, lookK, cmp_neL (s := s1 ++ [MO.lst []]) (a := ns) (b := []) (keep_app hc1) get_last]
    generalize hs2 : s1 ++ [MO.lst []] = s2
    have hp2 : s2[p]? = some (MO.dct [(kCells, D.obj j), (kAt, D.int (↑t + 1)), (kLeft, D.int left)]) := hs2 ▸ keep_app hp1
    have hc2 : s2[j]? = some (MO.lst (List.map D.int ns)) := hs2 ▸ keep_app hc1
    have k2 : Kp p s s2 := hs2 ▸ k1.trans .app
    clear hs2 hp1 hc1 k1
    have step := fun c : Int => draw_mid (cl := cl) (E := E) (t := t) (by omega) hm hb c hp2 hc2 k2 ht
    split
    · simpa using step _
    · rename_i hn
      have hl : 0 < (ns.length : Int) := by have := List.length_pos_iff.mpr hn; omega
      have i1 : 0 ≤ (t : Int) % ns.length := Int.emod_nonneg _ (by omega)
      have i2 : (t : Int) % ns.length < ns.length := Int.emod_lt_of_pos _ hl
      obtain ⟨c, hc⟩ : ∃ c, L2.atI (ns.map D.int) ((t : Int) % ns.length) = some (.int c) := by
        rw [atI_nn i1 (by simpa using i2), List.getElem?_map]
        have : ((t : Int) % ns.length).toNat < ns.length := by omega
        rw [List.getElem?_eq_getElem this]
        exact ⟨_, rfl⟩
      simp [zs_cons, ix_dct hp2, lookK, bi_len_lst hc2, bin_mod hl, ix_lst hc2, hc]
      exact step c
theorem cut_map {α β : Type} {f : α → β} {xs : List α} {lo hi : Option Int} : cut (xs.map f) lo hi = (cut xs lo hi).map f := by
  unfold cut
  rw [List.length_map, List.map_take, List.map_drop]
/-- what the pen is -/
def PenQ (s : Sto) (r : Fl × Lo) (s1 : Sto) : Prop := r.1 = .ret (.obj s.length) ∧ Pen s.length (s.length + 2) 0 s1 ∧ ∀ (j : Nat) (o : MO), s[j]? = some o → s1[j]? = some o
theorem pen_post {cl : Cl} {s : Sto} {ns : List Int} {E : D → Sto → Prop} : ((sem cl b_law_pen).s [some (.kl (ns.map .int))] s).post (PenQ s) E := by
  unfold b_law_pen
  refine seq_post ?_
  generalize hx : cut ns none (some 63) = xs
  have h1 : opSl (.kl (ns.map .int)) none (some 63) (s ++ [.dct []]) = .ok (.obj (s.length + 1)) (s ++ [.dct []] ++ [.lst (xs.map .int)]) := by
    show newL (cut (ns.map D.int) none (some 63)) _ = _
    rw [cut_map, hx, newL_eq]
    simp
  have h2 : biF .list [.obj (s.length + 1)] (s ++ [.dct []] ++ [.lst (xs.map .int)]) = .ok (.obj (s.length + 2)) (s ++ [.dct []] ++ [.lst (xs.map .int)] ++ [.lst (xs.map .int)]) := by
    have e : (s ++ [.dct []] ++ [.lst (xs.map .int)])[s.length + 1]? = some (MO.lst (xs.map .int)) := by
      rw [List.getElem?_append_right (by simp)]; simp
    show (match seq? _ (.obj (s.length + 1)) with | some xs => newL xs _ | none => .bad) = _
    unfold seq? lst?
    simp only [e, newL_eq]
    simp
  have e0 : (s ++ [.dct []] ++ [.lst (xs.map .int)] ++ [.lst (xs.map .int)])[s.length]? = some (MO.dct []) := by
    rw [List.append_assoc, List.append_assoc, List.getElem?_append_right (Nat.le_refl _)]; simp
  have e2 : (s ++ [.dct []] ++ [.lst (xs.map .int)] ++ [.lst (xs.map .int)])[s.length + 2]? = some (MO.lst (xs.map .int)) := by
    rw [List.append_assoc, List.append_assoc, List.getElem?_append_right (by omega)]; simp
  have ev : ((sem cl (.dct [.inr [99, 101, 108, 108, 115], .inr [97, 116], .inr [108, 101, 102, 116]] (.cons (.bi .list (.cons (.sl (.var 0) .nil (.int 63)) .nil)) (.cons (.int 0) (.cons (.int 0) .nil))))).e [some (.kl (ns.map .int))] s) =
      .ok (.obj s.length) (setO s.length (.dct [(kCells, .obj (s.length + 2)), (kAt, .int 0), (kLeft, .int 0)]) (s ++ [.dct []] ++ [.lst (xs.map .int)] ++ [.lst (xs.map .int)])) := by
    rw [ze_dct]
    simp only [zl_cons, zl_nil, ze_bi, ze_sl, ze_var, ze_int, oInt, List.getElem?_cons_zero, R.bind_ok, h1, h2]
    rw [if_pos ⟨rfl, by decide, e0⟩]
    rfl
  simp only [zs_ret, ev, R.bind_ok, post_ok]
  have l0 := lt_of_get e0
  refine ⟨rfl, ⟨xs, 0, 0, get_set l0, by rw [get_set_ne (by omega)]; exact e2, Nat.le_refl _⟩, fun j o hj => ?_⟩
  have := lt_of_get hj
  rw [get_set_ne (by omega), List.append_assoc, List.append_assoc]
  exact keep_app hj
/-- a call's end -/
theorem fin_post {r : R (Fl × Lo)} {Q : D → Sto → Prop} {E : D → Sto → Prop} (h : r.post (fun r s1 => match r.1 with | .ret d => Q d s1 | .nx => Q .non s1 | _ => False) E) :
    (r.bind (fun r s1 => (match r.1 with | .ret d => .ok d s1 | .nx => .ok .non s1 | _ => .bad))).post Q E := by
  rw [R.post_bind]
  refine R.post_mono h (fun r s1 k => ?_) fun _ _ k => k
  obtain ⟨fl, l⟩ := r
  cases fl <;> exact k
def DrawD (p j a : Nat) (m : Int) (s : Sto) (d : D) (s1 : Sto) : Prop := ∃ v, d = .int v ∧ 0 ≤ v ∧ v < m ∧ Pen p j (a + 1) s1 ∧ Kp p s s1
theorem draw_call {cl : Cl} {p j a : Nat} {m : Int} {s : Sto} {E : D → Sto → Prop} (h : Pen p j a s) (ha : a ≤ 1000000) (hm : 0 < m) (hb : m < 18446744073709551616) :
    (((sem cl b_law_draw_0).s [some (.obj p), some (.int m), none, none, none, none, none, none] s).bind (fun r s1 => (match r.1 with | .ret d => .ok d s1 | .nx => .ok .non s1 | _ => .bad))).post (DrawD p j a m s) E := by
  refine fin_post (R.post_mono (draw_post h ha hm hb) ?_ fun _ _ k => k)
  rintro ⟨fl, l⟩ s1 ⟨v, e, h⟩
  cases e
  exact ⟨v, rfl, h⟩
def PenD (s : Sto) (d : D) (s1 : Sto) : Prop := d = .obj s.length ∧ Pen s.length (s.length + 2) 0 s1 ∧ ∀ (j : Nat) (o : MO), s[j]? = some o → s1[j]? = some o
theorem pen_call {cl : Cl} {s : Sto} {ns : List Int} {E : D → Sto → Prop} : (((sem cl b_law_pen).s [some (.kl (ns.map .int))] s).bind (fun r s1 => (match r.1 with | .ret d => .ok d s1 | .nx => .ok .non s1 | _ => .bad))).post (PenD s) E := by
  refine fin_post (R.post_mono pen_post ?_ fun _ _ k => k)
  rintro ⟨fl, l⟩ s1 ⟨e, h⟩
  cases e
  exact ⟨rfl, h⟩
theorem post_eq {α : Type} {r : R α} {a : α} {s : Sto} (h : r.post (fun b t => b = a ∧ t = s) fun _ _ => False) : r = .ok a s := by
  obtain ⟨b, t, e, rfl, rfl⟩ := post_exists h
  exact e
theorem rgOkI {a b : Int} (h : -1000000000 ≤ a) (h1 : a ≤ 1000000000) (h2 : -1000000000 ≤ b) (h3 : b ≤ 1000000000) : rgOk a b = true := by
  unfold rgOk; rw [decide_eq_true_eq]; exact ⟨h, h1, h2, h3⟩
theorem mtOk_lst {m : Mt} {i : Nat} {s : Sto} {xs : List D} (h : s[i]? = some (.lst xs)) (hm : m ≠ .join ∧ m ≠ .upper) : mtOk m (.obj i) s = true := by
  cases m <;> simp_all [mtOk]
theorem append_lst {i : Nat} {s : Sto} {xs : List D} {y : D} (h : s[i]? = some (.lst xs)) (k : xs.length < 16777216) : mth .append (.obj i) [y] s = .ok .non (setO i (.lst (xs ++ [y])) s) := by
  simp only [mth, h]; exact if_pos k
theorem reverse_lst {i : Nat} {s : Sto} {xs : List D} (h : s[i]? = some (.lst xs)) : mth .reverse (.obj i) [] s = .ok .non (setO i (.lst xs.reverse) s) := by
  simp only [mth, h]
theorem bi_tuple_lst {i : Nat} {s : Sto} {xs : List D} (h : s[i]? = some (.lst xs)) : biF .tuple [.obj i] s = .ok (.tup xs) s := by
  show (match seq? s (.obj i) with | some xs => R.ok (D.tup xs) s | none => (.bad : R D)) = _
  unfold seq? lst?
  simp only [h]
@[simp] theorem bi_divmod {s : Sto} {x y : Int} (h : 0 < y) (k : y < 1073741824) : biF .divmod [.int x, .int y] s = .ok (.tup [.int (x / y), .int (x % y)]) s := if_pos ⟨h, k⟩
@[simp] theorem rev_tup {s : Sto} {xs : List D} : opRev (.tup xs) s = .ok (.tup xs.reverse) s := rfl
theorem rev_lst {i : Nat} {s : Sto} {xs : List D} (h : s[i]? = some (.lst xs)) : opRev (.obj i) s = .ok (.obj s.length) (s ++ [.lst xs.reverse]) := by
  simp only [opRev, h]; rfl
@[simp] theorem oInt_nil {f : Lo → Sto → R D} {l : Lo} {s : Sto} : oInt .nil f l s = .ok none s := rfl
theorem append_last {s : Sto} {xs : List D} {y : D} (k : xs.length < 16777216) : mth .append (.obj s.length) [y] (s ++ [.lst xs]) = .ok .non (s ++ [.lst (xs ++ [y])]) := by
  rw [append_lst get_last k, set_last]
@[simp] theorem reverse_last {s : Sto} {xs : List D} : mth .reverse (.obj s.length) [] (s ++ [.lst xs]) = .ok .non (s ++ [.lst xs.reverse]) := by
  rw [reverse_lst get_last, set_last]
@[simp] theorem tuple_last {s : Sto} {xs : List D} : biF .tuple [.obj s.length] (s ++ [.lst xs]) = .ok (.tup xs) (s ++ [.lst xs]) := bi_tuple_lst get_last
@[simp] theorem mtOk_last {m : Mt} {s : Sto} {xs : List D} (hm : m ≠ .join ∧ m ≠ .upper) : mtOk m (.obj s.length) (s ++ [.lst xs]) = true := mtOk_lst get_last hm
end Z

/-! ZNum: comprehensions; the laws' drawn numbers. -/
namespace Z
open PySem
theorem comL_post {src : Src} {l : Lo} {t : D → Lo → Sto → R Lo} {c : Lo → Sto → R Bool} {e : Lo → Sto → R D} {q : Nat} {Q : Unit → Sto → Prop} {E : D → Sto → Prop} (I : Nat → List D → Sto → Prop) (hsrc : ∀ k acc s, I k acc s → src.ok s = true) :
    ∀ (its : List D) (k0 : Nat) (acc : List D) (s : Sto),
    (∀ k d acc s, its[k]? = some d → I (k0 + k) acc s → s[q]? = some (.lst acc) → (t d l s).post (fun l1 s1 => (c l1 s1).post (fun b s2 => if b = true then (e l1 s2).post (fun y s3 => s3[q]? = some (.lst acc) ∧ acc.length < 16777216 ∧ I (k0 + k + 1) (acc ++ [y]) (setO q (.lst (acc ++ [y])) s3)) E else s2[q]? = some (.lst acc) ∧ I (k0 + k + 1) acc s2) E) E) →
    (∀ acc s, I (k0 + its.length) acc s → s[q]? = some (.lst acc) → Q () s) → I k0 acc s → s[q]? = some (.lst acc) → (comL src l t c e q its acc s).post Q E
  | [], k0, acc, s, _, fin, h, g => by
    unfold comL
    rw [if_pos ⟨hsrc _ _ _ h, g⟩]
    exact fin acc s h g
  | d :: ds, k0, acc, s, step, fin, h, g => by
    unfold comL
    rw [if_pos ⟨hsrc _ _ _ h, g⟩, R.post_bind]
    have next : ∀ acc s, I (k0 + 1) acc s → s[q]? = some (.lst acc) → (comL src l t c e q ds acc s).post Q E := fun acc s h g => comL_post I hsrc ds (k0 + 1) acc s
      (fun k d acc s e1 i g => by
        have := step (k + 1) d acc s (by simpa using e1) (by rw [show k0 + (k + 1) = k0 + 1 + k by omega]; exact i) g
        rw [show k0 + (k + 1) = k0 + 1 + k by omega] at this
        exact this) (fun acc s i g => fin acc s (by rw [List.length_cons, show k0 + (ds.length + 1) = k0 + 1 + ds.length by omega]; exact i) g) h g
    refine R.post_mono (step 0 d acc s rfl h g) (fun l1 s1 h1 => ?_) fun _ _ k => k
    rw [R.post_bind]
    refine R.post_mono h1 (fun b s2 h2 => ?_) fun _ _ k => k
    cases b with
    | true =>
      rw [if_pos rfl] at h2 ⊢
      rw [R.post_bind]
      refine R.post_mono h2 (fun y s3 h3 => ?_) fun _ _ k => k
      obtain ⟨g3, hl, h3⟩ := h3
      rw [if_pos ⟨g3, hl⟩]
      exact next _ _ h3 (get_set (lt_of_get g3))
    | false =>
      rw [if_neg (by decide)] at h2 ⊢
      exact next _ _ h2.2 h2.1
theorem noexPost {α : Type} {r : R α} {Q : α → Sto → Prop} {E : D → Sto → Prop} (h : r.post Q fun _ _ => False) : r.noex.post Q E := by
  cases r with
  | ok a s => exact h
  | ex => exact h.elim
  | bad => exact h.elim
/-- a comprehension over what can't change: l0 the names inside, q the list that is made -/
theorem comp_post {cl : Cl} {e tg it c : Ex} {own : List Nat} {l l0 : Lo} {s s1 : Sto} {its : List D} {Q : D → Sto → Prop} {E : D → Sto → Prop} (I : Nat → List D → Sto → Prop) (hit : (sem cl it).w l s = .ok ⟨its, none⟩ s1) (hl0 : wipe l own = l0)
    (step : ∀ k d acc s, its[k]? = some d → I k acc s → s[s1.length]? = some (.lst acc) → ((sem cl tg).t d l0 s).post (fun l1 s2 => ((if isNil c = true then (fun _ s => R.ok true s) else (fun l s => ((sem cl c).e l s).bind asB)) l1 s2).post (fun b s3 => if b = true then ((sem cl e).e l1 s3).post (fun y s4 => s4[s1.length]? = some (.lst acc) ∧ acc.length < 16777216 ∧ I (k + 1) (acc ++ [y]) (setO s1.length (.lst (acc ++ [y])) s4)) (fun _ _ => False) else s3[s1.length]? = some (.lst acc) ∧ I (k + 1) acc s3) (fun _ _ => False)) (fun _ _ => False))
    (fin : ∀ acc s, I its.length acc s → s[s1.length]? = some (.lst acc) → Q (.obj s1.length) s) (h : I 0 [] (s1 ++ [.lst []])) : ((sem cl (.comp e tg it c own)).e l s).post Q E := by
  rw [ze_comp, hit, R.bind_ok, R.post_bind, hl0]
  refine noexPost ?_
  refine comL_post (q := s1.length) I (fun _ _ _ _ => rfl) its 0 [] _ (fun k d acc s e i g => by simpa using step k d acc s e (by simpa using i) g) (fun acc s i g => ?_) h get_last
  exact fin acc s (by simpa using i) g
def b_law_numbers_1 (dr : Nat) : Ex := (.cons (.ret (.bi .tuple (.cons (.comp (.ix (.lst (.cons (.ix (.var 3) (.call dr (.cons (.var 0) (.cons (.int 4) .nil)))) (.cons (.call dr (.cons (.var 0) (.cons (.var 2) .nil))) .nil))) (.call dr (.cons (.var 0) (.cons (.int 2) .nil)))) (.tv 4) (.itR1 (.var 1)) .nil [4]) .nil))) .nil)
def b_law_numbers_0 (dr : Nat) : Ex := (.cons (.asg (.tv 3) (.lst (.cons (.int 0) (.cons (.int 1) (.cons (.bin .sub (.var 2) (.int 1)) (.cons (.bin .div (.var 2) (.int 2)) .nil)))))) (b_law_numbers_1 dr))
/-- a call that draws -/
def Draws (cl : Cl) (dr : Nat) : Prop := ∀ {p j a : Nat} {m : Int} {s : Sto} {E : D → Sto → Prop}, Pen p j a s → a ≤ 1000000 → 0 < m → m < 18446744073709551616 → (cl dr [.obj p, .int m] s).post (DrawD p j a m s) E
def NumsD (p j a : Nat) (k lim : Int) (s : Sto) (d : D) (s1 : Sto) : Prop := ∃ ns : List Int, d = .tup (ns.map .int) ∧ ns.length = k.toNat ∧ (∀ z ∈ ns, 0 ≤ z ∧ z < lim) ∧ Pen p j (a + 3 * k.toNat) s1 ∧ Kp p s s1
/-- ahead of the comprehension's turn k: q the list that is made, r that of the ends -/
def INum (p j a r q : Nat) (lim : Int) (ends : List D) (s0 : Sto) (k : Nat) (acc : List D) (s : Sto) : Prop :=
  (∃ ns : List Int, acc = ns.map .int ∧ ns.length = k ∧ ∀ z ∈ ns, 0 ≤ z ∧ z < lim) ∧ Pen p j (a + 3 * k) s ∧ s[r]? = some (.lst ends) ∧ s0.length ≤ s.length ∧ (∀ (i : Nat) (o : MO), i ≠ p → s0[i]? = some o → s[i]? = some o) ∧ q < s.length
theorem numbers_post {cl : Cl} {dr : Nat} (hd : Draws cl dr) {p j a : Nat} {k lim : Int} {s : Sto} {E : D → Sto → Prop} (h : Pen p j a s) (hk : 0 ≤ k) (hk2 : k ≤ 1000) (ha : a + 3 * k.toNat ≤ 1000000) (hl : 2 ≤ lim) (hl2 : lim < 18446744073709551616) :
    ((sem cl (b_law_numbers_0 dr)).s [some (.obj p), some (.int k), some (.int lim), none, none] s).post (fun r s1 => ∃ d, r.1 = .ret d ∧ NumsD p j a k lim s d s1) E := by
  unfold b_law_numbers_0
  refine seq_post ?_
  simp [bin_div, line]
  generalize hen : [D.int 0, .int 1, .int (lim - 1), .int (lim / 2)] = ends
  have hends : ∀ i : Int, 0 ≤ i → i < 4 → ∃ z, L2.atI ends i = some (.int z) ∧ 0 ≤ z ∧ z < lim := by
    intro i h0 h4
    rw [← hen]
    have : i = 0 ∨ i = 1 ∨ i = 2 ∨ i = 3 := by omega
    rcases this with rfl | rfl | rfl | rfl
    · exact ⟨0, rfl, by omega, by omega⟩
    · exact ⟨1, rfl, by omega, by omega⟩
    · exact ⟨lim - 1, rfl, by omega, by omega⟩
    · exact ⟨lim / 2, rfl, by omega, by omega⟩
  clear hen
  generalize hr : s.length = r
  generalize hs1 : s ++ [MO.lst ends] = s1
  have g1 : s1[r]? = some (.lst ends) := by rw [← hs1, ← hr]; exact get_last
  have p1 : Pen p j a s1 := hs1 ▸ h.app
  have k1 : Kp p s s1 := hs1 ▸ .app
  have rp : r ≠ p ∧ r ≠ j := by have := h.lt; omega
  clear hs1 hr h
  unfold b_law_numbers_1
  refine seq_post ?_
  simp only [zs_ret, ze_bi, zl_cons, zl_nil, post_bindS, post_ok]
  refine comp_post (s1 := s1) (its := rng 0 k) (l0 := [some (.obj p), some (.int k), some (.int lim), some (.obj r), none]) (INum p j a r s1.length lim ends s1) ?_ rfl ?_ ?_ ?_
  · simp [rgOkI (a := 0) (b := k) (by omega) (by omega) (by omega) (by omega)]
  · rintro i d acc t hi ⟨⟨ns, rfl, hn, hb⟩, hp, hr, hlen, hold, hq⟩ hqa
    obtain ⟨rfl, hik⟩ := rng_get hi
    have lp := hp.lt
    have l1 := p1.lt
    have qr : s1.length ≠ r := by have := lt_of_get g1; omega
    generalize hd4 : D.int (0 + (i : Int)) = d4
    simp [isNil]
    refine R.post_mono (hd hp (by omega) (by omega) (by omega)) ?_ fun _ _ h => h
    rintro d s2 ⟨u, rfl, u1, u2, p2, k2⟩
    obtain ⟨z, hz, z1, z2⟩ := hends u u1 u2
    simp only [ix_lst (k2.old _ _ rp.1 hr), hz]
    simp
    refine R.post_mono (hd p2 (by omega) (by omega) (by omega)) ?_ fun _ _ h => h
    rintro d s3 ⟨v, rfl, v1, v2, p3, k3⟩
    simp [line]
    refine R.post_mono (hd (p3.app (t := [MO.lst [D.int z, D.int v]])) (by omega) (by omega) (by omega)) ?_ fun _ _ h => h
    rintro d s4 ⟨w, rfl, w1, w2, p4, k4⟩
    have l3 := p3.lt
    have g4 := k4.old s3.length _ (by omega) get_last
    have g4q : s4[s1.length]? = some (.lst (ns.map .int)) := k4.old _ _ (by omega) (keep_app (k3.old _ _ (by omega) (k2.old _ _ (by omega) hqa)))
    obtain ⟨y, hy, y1, y2⟩ : ∃ y, L2.atI [D.int z, D.int v] w = some (.int y) ∧ 0 ≤ y ∧ y < lim := by
      have : w = 0 ∨ w = 1 := by omega
      rcases this with rfl | rfl
      · exact ⟨z, rfl, z1, z2⟩
      · exact ⟨v, rfl, v1, v2⟩
    simp only [ix_lst g4, hy]
    have lq := lt_of_get g4q
    have hnl : ns.length < 16777216 := by omega
    refine ⟨g4q, by simpa using hnl, ⟨ns ++ [y], by simp, by simp [hn], ?_⟩, ?_, ?_, ?_, ?_, by simpa using lq⟩
    · intro x hx
      rcases List.mem_append.mp hx with hx | hx
      · exact hb x hx
      · simp at hx; subst hx; exact ⟨y1, y2⟩
    · exact (p4.set (by omega) (by omega)).le (by omega)
    · rw [get_set_ne qr]
      exact k4.old _ _ rp.1 (keep_app (k3.old _ _ rp.1 (k2.old _ _ rp.1 hr)))
    · have e1 := k2.len; have e2 := k3.len; have e3 := k4.len
      simp at e3 ⊢
      omega
    · intro i o hi ho
      have := lt_of_get ho
      rw [get_set_ne (by omega)]
      exact k4.old _ _ hi (keep_app (k3.old _ _ hi (k2.old _ _ hi (hold i o hi ho))))
  · rintro acc t ⟨⟨ns, rfl, hn, hb⟩, hp, hr, hlen, hold, hq⟩ hqa
    rw [rng_len] at hn hp
    simp only [bi_tuple_lst hqa, post_ok]
    refine ⟨_, rfl, ns, rfl, by omega, hb, by simpa using hp, ⟨?_, ?_⟩⟩
    · have := k1.len; omega
    · intro i o hi ho
      exact hold i o hi (k1.old i o hi ho)
  · refine ⟨⟨[], rfl, rfl, by simp⟩, p1.app, keep_app g1, by simp, fun i o _ h => keep_app h, by simp⟩
theorem numbers_call {cl : Cl} {dr : Nat} (hd : Draws cl dr) {p j a : Nat} {k lim : Int} {s : Sto} {E : D → Sto → Prop} (h : Pen p j a s) (hk : 0 ≤ k) (hk2 : k ≤ 1000) (ha : a + 3 * k.toNat ≤ 1000000) (hl : 2 ≤ lim) (hl2 : lim < 18446744073709551616) :
    (((sem cl (b_law_numbers_0 dr)).s [some (.obj p), some (.int k), some (.int lim), none, none] s).bind (fun r s1 => (match r.1 with | .ret d => .ok d s1 | .nx => .ok .non s1 | _ => .bad))).post (NumsD p j a k lim s) E := by
  refine fin_post (R.post_mono (numbers_post hd h hk hk2 ha hl hl2) ?_ fun _ _ k => k)
  rintro ⟨fl, l⟩ s1 ⟨d, e, h⟩
  cases e
  exact h
theorem sIx_nn {n d : Nat} {v : Int} (h : 0 ≤ v) : HT.sIx n d (some v) = min v.toNat n := by
  show (if v < 0 then (v + (n : Int)).toNat else min v.toNat n) = _
  rw [if_neg (by omega)]
theorem cut_nn {α : Type} {xs : List α} {a b : Int} (h : 0 ≤ a) (h2 : a ≤ b) (h3 : b ≤ xs.length) : cut xs (some a) (some b) = (xs.drop a.toNat).take (b.toNat - a.toNat) := by
  unfold cut
  rw [sIx_nn h, sIx_nn (by omega)]
  have e3 : min a.toNat xs.length = a.toNat := by omega
  have e4 : min b.toNat xs.length = b.toNat := by omega
  rw [e3, e4]
theorem cut_to {α : Type} {xs : List α} {b : Int} (h : 0 ≤ b) : cut xs none (some b) = xs.take b.toNat := by
  unfold cut
  rw [sIx_nn h]
  show (xs.drop 0).take (min b.toNat xs.length - 0) = _
  rw [List.drop_zero, Nat.sub_zero]
  by_cases hb : b.toNat ≤ xs.length
  · rw [Nat.min_eq_left hb]
  · rw [Nat.min_eq_right (by omega), List.take_of_length_le (Nat.le_refl _), List.take_of_length_le (by omega)]
theorem cut_from {α : Type} {xs : List α} {a : Int} (h : 0 ≤ a) : cut xs (some a) none = xs.drop a.toNat := by
  unfold cut
  rw [sIx_nn h]
  show (xs.drop (min a.toNat xs.length)).take (xs.length - min a.toNat xs.length) = _
  by_cases hb : a.toNat ≤ xs.length
  · rw [Nat.min_eq_left hb, List.take_of_length_le (by simp)]
  · rw [Nat.min_eq_right (by omega), List.drop_of_length_le (Nat.le_refl _), List.drop_of_length_le (by omega), List.take_nil]
theorem atI_map {F : List Int} {i : Int} {n : Nat} (h : i = n) (hn : n < F.length) : L2.atI (F.map D.int) i = some (.int F[n]) := by
  subst h
  rw [atI_nn (by omega) (by simp; omega)]
  simp [hn]
theorem opAdd_tup {s : Sto} {a b : List D} (h : a.length + b.length ≤ 16777216) : bin .add (.tup a) (.tup b) s = .ok (.tup (a ++ b)) s := if_pos h
end Z

/-! ZRd: what is shown of parts; what stays; while. -/
namespace Z
open PySem
theorem Rd.le {s : Sto} {n m : Nat} {d : D} {p : PyData} {w : Nat} (h : Rd s n d p w) (k : n ≤ m) : Rd s m d p w := ⟨fun i hi => h.rd i (by omega), h.lay, by have := h.dep; omega, h.lvs, h.shw, h.wei⟩
structure RdL (s : Sto) (n : Nat) (ds : List D) (ps : List PyData) (w : Nat) : Prop where
  rd : ∀ m, n ≤ m → optAll (pd s (m + 1)) ds = some ps
  lay : PyData.canLayAll0 ps = true
  dep : PyData.depthAll ps ≤ n
  lvs : PyData.leavesShortAll 13 ps = true
  shw : PyData.showableAll ps = true
  wei : PyData.bulkAll ps ≤ w
theorem RdL.nil {s : Sto} {n : Nat} : RdL s n [] [] 0 := ⟨fun _ _ => rfl, rfl, Nat.zero_le _, rfl, rfl, Nat.le_refl _⟩
theorem RdL.cons {s : Sto} {n : Nat} {d : D} {p : PyData} {ds : List D} {ps : List PyData} {w v : Nat} (a : Rd s n d p w) (b : RdL s n ds ps v) : RdL s n (d :: ds) (p :: ps) (w + 1 + v) := by
  refine ⟨fun m hm => ?_, ?_, ?_, ?_, ?_, ?_⟩
  · simp only [optAll, a.rd m hm, b.rd m hm]
  · simp only [PyData.canLayAll0, a.lay, b.lay, Bool.and_self]
  · have := a.dep; have := b.dep; simp only [PyData.depthAll]; omega
  · simp only [PyData.leavesShortAll, a.lvs, b.lvs, Bool.and_self]
  · simp only [PyData.showableAll, a.shw, b.shw, Bool.and_self]
  · have := a.wei; have := b.wei; simp only [PyData.bulkAll]; omega
theorem RdL.all {α : Type} {s : Sto} {n w : Nat} {f : α → D} {g : α → PyData} : ∀ {xs : List α}, (∀ x ∈ xs, Rd s n (f x) (g x) w) → RdL s n (xs.map f) (xs.map g) (xs.length * (w + 1))
  | [], _ => by simpa using RdL.nil
  | x :: xs, h => by
    have := RdL.cons (h x List.mem_cons_self) (RdL.all (f := f) (g := g) (w := w) fun y hy => h y (List.mem_cons_of_mem _ hy))
    have e : w + 1 + xs.length * (w + 1) = (x :: xs).length * (w + 1) := by rw [List.length_cons, Nat.add_mul, Nat.one_mul]; omega
    rw [e] at this
    exact this
theorem rd_tup {s : Sto} {n : Nat} {ds : List D} {ps : List PyData} {w : Nat} (h : RdL s n ds ps w) : Rd s (n + 1) (.tup ds) (.tuple ps) w := by
  refine ⟨fun m hm => ?_, ?_, ?_, ?_, ?_, ?_⟩
  · obtain ⟨k, rfl⟩ : ∃ k, m = k + 1 := ⟨m - 1, by omega⟩
    show (optAll (pd s (k + 1)) ds).map PyData.tuple = _
    rw [h.rd k (by omega)]; rfl
  · simpa only [PyData.canLay0] using h.lay
  · have := h.dep; simp only [PyData.depth]; omega
  · simpa only [PyData.leavesShort] using h.lvs
  · simpa only [PyData.showable] using h.shw
  · simpa only [PyData.bulk] using h.wei
theorem rd_obj {s : Sto} {n i : Nat} {ds : List D} {ps : List PyData} {w : Nat} (hi : s[i]? = some (.lst ds)) (h : RdL s n ds ps w) : Rd s (n + 1) (.obj i) (.list ps) w := by
  refine ⟨fun m hm => ?_, ?_, ?_, ?_, ?_, ?_⟩
  · obtain ⟨k, rfl⟩ : ∃ k, m = k + 1 := ⟨m - 1, by omega⟩
    show (match s[i]? with | some (MO.lst xs) => (optAll (pd s (k + 1)) xs).map PyData.list | some (.dct kvs) => _ | none => none) = _
    rw [hi]
    show (optAll (pd s (k + 1)) ds).map PyData.list = _
    rw [h.rd k (by omega)]; rfl
  · simpa only [PyData.canLay0] using h.lay
  · have := h.dep; simp only [PyData.depth]; omega
  · simpa only [PyData.leavesShort] using h.lvs
  · simpa only [PyData.showable] using h.shw
  · simpa only [PyData.bulk] using h.wei
theorem rd_bl {s : Sto} {b : Bool} : Rd s 0 (.bl b) (.bool b) 0 := ⟨fun _ _ => rfl, rfl, Nat.le_refl _, rfl, rfl, Nat.le_refl _⟩
theorem rd_non {s : Sto} : Rd s 0 .non .none 0 := ⟨fun _ _ => rfl, rfl, Nat.le_refl _, rfl, rfl, Nat.le_refl _⟩
theorem repr_rd {s : Sto} {n : Nat} {d : D} {p : PyData} {w : Nat} (h : Rd s n d p w) (hn : n ≤ 39) (hw : w ≤ 1048576) : biF .repr [d] s = .ok (.str p.shown.cps.toList) s := by
  show (match shownD d s with | some t => R.ok (D.str t) s | none => (.bad : R D)) = _
  rw [shown_rd h hn hw]
theorem cmp_eqR {s : Sto} {n m : Nat} {x y : D} {p q : PyData} {w v : Nat} (a : Rd s n x p w) (b : Rd s m y q v) (hn : n ≤ 39) (hm : m ≤ 39) : cmp .eq x y s = .ok (.bl (PyData.eqv p q)) s := by
  unfold cmp cmpO; simp only [eqD_rd a b hn hm]
theorem cmp_neR {s : Sto} {n m : Nat} {x y : D} {p q : PyData} {w v : Nat} (a : Rd s n x p w) (b : Rd s m y q v) (hn : n ≤ 39) (hm : m ≤ 39) : cmp .ne x y s = .ok (.bl (!PyData.eqv p q)) s := by
  unfold cmp cmpO; simp only [eqD_rd a b hn hm]; rfl
theorem Rd.same {s : Sto} {n : Nat} {x : D} {p : PyData} {w : Nat} (a : Rd s n x p w) : PyData.eqv p p = true := SeqAt.eqv_refl p a.lay
/-- what is there stays -/
def Ext (s t : Sto) : Prop := ∀ (i : Nat) (o : MO), s[i]? = some o → t[i]? = some o
theorem Ext.refl {s : Sto} : Ext s s := fun _ _ h => h
theorem Ext.trans {s t u : Sto} (a : Ext s t) (b : Ext t u) : Ext s u := fun i o h => b i o (a i o h)
theorem Ext.app {s t : Sto} : Ext s (s ++ t) := fun _ _ h => keep_app h
theorem Ext.len {s t : Sto} (a : Ext s t) : s.length ≤ t.length := by
  by_cases h : s.length = 0
  · omega
  · have h1 : s.length - 1 < s.length := by omega
    have := lt_of_get (a (s.length - 1) _ (List.getElem?_eq_getElem h1))
    omega
theorem Ext.set {s t : Sto} {i : Nat} {o : MO} (a : Ext s t) (h : s.length ≤ i) : Ext s (setO i o t) := fun j u hj => by
  have := lt_of_get hj
  rw [get_set_ne (by omega)]
  exact a j u hj
theorem Ext.kp {s t : Sto} {p : Nat} (a : Ext s t) : Kp p s t := ⟨a.len, fun i o _ h => a i o h⟩
theorem Pen.ext {p j a : Nat} {s t : Sto} (h : Pen p j a s) (e : Ext s t) : Pen p j a t := by
  obtain ⟨ns, at_, l, h1, h2, h3⟩ := h.ex
  exact ⟨ns, at_, l, e _ _ h1, e _ _ h2, h3⟩
theorem whL_post {c : Lo → Sto → R Bool} {b : Lo → Sto → R (Fl × Lo)} {Q : Fl × Lo → Sto → Prop} {E : D → Sto → Prop} (I : Nat → Lo → Sto → Prop)
    (step : ∀ n l s, I n l s → (c l s).post (fun k s1 => if k = true then (b l s1).post (fun r s2 => match r.1 with | .nx => ∃ m, m < n ∧ I m r.2 s2 | .cnt => ∃ m, m < n ∧ I m r.2 s2 | .brk => Q (.nx, r.2) s2 | .ret v => Q (.ret v, r.2) s2) E else Q (.nx, l) s1) E) :
    ∀ (fuel n : Nat) (l : Lo) (s : Sto), n < fuel → I n l s → (whL c b fuel l s).post Q E
  | 0, n, l, s, h, _ => by omega
  | fuel + 1, n, l, s, h, i => by
    unfold whL
    rw [R.post_bind]
    refine R.post_mono (step n l s i) (fun k s1 h1 => ?_) fun _ _ k => k
    cases k with
    | false => rw [if_neg (by decide)] at h1 ⊢; exact h1
    | true =>
      rw [if_pos rfl] at h1 ⊢
      rw [R.post_bind]
      refine R.post_mono h1 (fun r s2 h2 => ?_) fun _ _ k => k
      obtain ⟨fl, l2⟩ := r
      cases fl with
      | nx => obtain ⟨m, hm, i2⟩ := h2; exact whL_post I step fuel m _ _ (by omega) i2
      | cnt => obtain ⟨m, hm, i2⟩ := h2; exact whL_post I step fuel m _ _ (by omega) i2
      | brk => exact h2
      | ret v => exact h2
theorem while_post {cl : Cl} {c b : Ex} {Q : Fl × Lo → Sto → Prop} {E : D → Sto → Prop} {l : Lo} {s : Sto} (I : Nat → Lo → Sto → Prop) (n : Nat) (hn : n < 1000000) (h : I n l s)
    (step : ∀ n l s, I n l s → (((sem cl c).e l s).bind asB).post (fun k s1 => if k = true then ((sem cl b).s l s1).post (fun r s2 => match r.1 with | .nx => ∃ m, m < n ∧ I m r.2 s2 | .cnt => ∃ m, m < n ∧ I m r.2 s2 | .brk => Q (.nx, r.2) s2 | .ret v => Q (.ret v, r.2) s2) E else Q (.nx, l) s1) E) :
    ((sem cl (.swh c b)).s l s).post Q E := by
  rw [zs_wh]
  exact whL_post I step whFuel n l s hn h
/-- a for over a list that is left alone -/
theorem forO_post {i : Nat} {xs its : List D} {t : D → Lo → Sto → R Lo} {b : Lo → Sto → R (Fl × Lo)} {Q : Fl × Lo → Sto → Prop} {E : D → Sto → Prop} (I : Nat → Lo → Sto → Prop) {l : Lo} {s : Sto}
    (hI : ∀ k l s, I k l s → s[i]? = some (.lst xs))
    (step : ∀ k d l s, its[k]? = some d → I k l s → (t d l s).post (fun l1 s1 => (b l1 s1).post (fun r s2 => match r.1 with | .nx => I (k + 1) r.2 s2 | .cnt => I (k + 1) r.2 s2 | .brk => Q (.nx, r.2) s2 | .ret v => Q (.ret v, r.2) s2) E) E)
    (fin : ∀ l s, I its.length l s → Q (.nx, l) s) (h : I 0 l s) : (forL ⟨its, some (i, .lst xs)⟩ t b its l s).post Q E :=
  forL_post I (fun k l s h => by simp [Src.ok, hI k l s h]) its 0 l s (fun k d l s e i => by rw [Nat.zero_add] at i ⊢; exact step k d l s e i) (fun l s i => fin l s (by simpa using i)) h
theorem extend_lst {i j : Nat} {s : Sto} {xs ys : List D} (h : s[i]? = some (.lst xs)) (h2 : s[j]? = some (.lst ys)) (k : xs.length + ys.length ≤ 16777216) : mth .extend (.obj i) [.obj j] s = .ok .non (setO i (.lst (xs ++ ys)) s) := by
  simp only [mth, h, h2]; exact if_pos k
theorem mul_lst {i : Nat} {s : Sto} {xs : List D} {k : Int} (h : s[i]? = some (.lst xs)) (h1 : k ≤ 100000) (h2 : xs.length * k.toNat ≤ 16777216) (h3 : -100000 ≤ k) : bin .mul (.obj i) (.int k) s = .ok (.obj s.length) (s ++ [.lst (List.replicate k.toNat xs).flatten]) := by
  rw [show bin .mul (.obj i) (.int k) s = opMul (.obj i) (.int k) s from rfl]
  simp only [opMul, h]
  exact if_pos ⟨h1, h2, h3⟩
theorem stSl_lst {i : Nat} {s : Sto} {xs ys : List D} {a c : Int} (h : s[i]? = some (.lst xs)) (h0 : 0 ≤ a) (h1 : a ≤ c) (h2 : c ≤ xs.length) (h3 : xs.length + ys.length ≤ 16777216) : stSl (.obj i) (.int a) (.int c) (.tup ys) s = .ok () (setO i (.lst (xs.take a.toNat ++ ys ++ xs.drop c.toNat)) s) := by
  simp only [stSl, h]; exact if_pos ⟨h0, h1, h2, h3⟩
theorem add_lst {i j : Nat} {s : Sto} {xs ys : List D} (h : s[i]? = some (.lst xs)) (h2 : s[j]? = some (.lst ys)) (k : xs.length + ys.length ≤ 16777216) : bin .add (.obj i) (.obj j) s = .ok (.obj s.length) (s ++ [.lst (xs ++ ys)]) := by
  rw [show bin .add (.obj i) (.obj j) s = opAdd (.obj i) (.obj j) s from rfl]
  simp only [opAdd, h, h2]; exact if_pos k
theorem sl_lst {i : Nat} {s : Sto} {xs : List D} {lo hi : Option Int} (h : s[i]? = some (.lst xs)) : opSl (.obj i) lo hi s = .ok (.obj s.length) (s ++ [.lst (cut xs lo hi)]) := by
  simp only [opSl, h]; rfl
theorem st_lst {i n : Nat} {s : Sto} {xs : List D} {v : D} {k : Int} (h : s[i]? = some (.lst xs)) (hk : k = n) (hn : n < xs.length) : stIx (.obj i) (.int k) v s = .ok () (setO i (.lst (xs.set n v)) s) := by
  subst hk
  have : L2.ixN xs.length (n : Int) = some n := by
    unfold L2.ixN
    rw [if_pos (by omega), if_pos (by omega)]
    simp
  simp only [stIx, h, this]
theorem bi_list_tup {s : Sto} {xs : List D} : biF .list [.tup xs] s = .ok (.obj s.length) (s ++ [.lst xs]) := rfl
theorem bi_len_tup {s : Sto} {xs : List D} : biF .len [.tup xs] s = .ok (.int xs.length) s := rfl
theorem bi_all_true {i : Nat} {s : Sto} {xs : List D} (h : s[i]? = some (.lst xs)) (hx : ∀ d ∈ xs, d = .bl true) : biF .all [.obj i] s = .ok (.bl true) s := by
  have e : ∀ xs : List D, (∀ d ∈ xs, d = .bl true) → ∃ bs, bls? xs = some bs ∧ bs.all id = true := by
    intro xs
    induction xs with
    | nil => exact fun _ => ⟨[], rfl, rfl⟩
    | cons x xs ih =>
      intro hx
      obtain ⟨bs, e1, e2⟩ := ih fun d hd => hx d (List.mem_cons_of_mem _ hd)
      have := hx x List.mem_cons_self
      subst this
      exact ⟨true :: bs, by simp [bls?, e1], by simp [e2]⟩
  obtain ⟨bs, e1, e2⟩ := e xs hx
  show (match lst? s (.obj i) with | some xs => _ | none => _) = _
  have : lst? s (.obj i) = some xs := by simp [lst?, h]
  simp only [this, e1, e2]
end Z

/-! ZWm: well-made data of any kind, of things at chosen places (P) alone. -/
namespace Z
open PySem
/-- what is at places of P stays -/
abbrev Kq (P : Nat → Prop) (s t : Sto) : Prop := ∀ i o, P i → s[i]? = some o → t[i]? = some o
mutual
/-- data of nesting at most n, its bulk at most w, its things at places of P alone -/
inductive Wm (P : Nat → Prop) (s : Sto) : Nat → Nat → D → Prop
  | non {n w : Nat} : Wm P s n w .non
  | bl {n w : Nat} (b : Bool) : Wm P s n w (.bl b)
  | int {n w : Nat} (i : Int) : i.natAbs < 10 ^ 70 → Wm P s n w (.int i)
  | str {n w : Nat} (x : List Nat) : x.length ≤ w → (∀ c ∈ x, c < 1114112) → Wm P s n w (.str x)
  | tup {n w : Nat} {xs : List D} : Wms P s n w xs → Wm P s (n + 1) w (.tup xs)
  | lst {n w i : Nat} {xs : List D} : P i → s[i]? = some (.lst xs) → Wms P s n w xs → Wm P s (n + 1) w (.obj i)
  | dct {n w i : Nat} {kvs : List (Ky × D)} : P i → s[i]? = some (.dct kvs) → Wmk P s n w kvs → Wm P s (n + 1) w (.obj i)
inductive Wms (P : Nat → Prop) (s : Sto) : Nat → Nat → List D → Prop
  | nil {n w : Nat} : Wms P s n w []
  | cons {n w v : Nat} {d : D} {ds : List D} : Wm P s n w d → Wms P s n v ds → Wms P s n (w + 1 + v) (d :: ds)
inductive Wmk (P : Nat → Prop) (s : Sto) : Nat → Nat → List (Ky × D) → Prop
  | nil {n w : Nat} : Wmk P s n w []
  | cons {n w v : Nat} {i : Int} {d : D} {ds : List (Ky × D)} : i.natAbs < 10 ^ 70 → Wm P s n w d → Wmk P s n v ds → Wmk P s n (w + 2 + v) ((.inl i, d) :: ds)
end
mutual
theorem Wm.kp {P : Nat → Prop} {s t : Sto} (k : Kq P s t) : ∀ {n w : Nat} {d : D}, Wm P s n w d → Wm P t n w d
  | _, _, _, .non => .non
  | _, _, _, .bl b => .bl b
  | _, _, _, .int i h => .int i h
  | _, _, _, .str x h h2 => .str x h h2
  | _, _, _, .tup h => .tup (Wms.kp k h)
  | _, _, _, .lst h1 h2 h3 => .lst h1 (k _ _ h1 h2) (Wms.kp k h3)
  | _, _, _, .dct h1 h2 h3 => .dct h1 (k _ _ h1 h2) (Wmk.kp k h3)
theorem Wms.kp {P : Nat → Prop} {s t : Sto} (k : Kq P s t) : ∀ {n w : Nat} {ds : List D}, Wms P s n w ds → Wms P t n w ds
  | _, _, _, .nil => .nil
  | _, _, _, .cons h1 h2 => .cons (Wm.kp k h1) (Wms.kp k h2)
theorem Wmk.kp {P : Nat → Prop} {s t : Sto} (k : Kq P s t) : ∀ {n w : Nat} {ds : List (Ky × D)}, Wmk P s n w ds → Wmk P t n w ds
  | _, _, _, .nil => .nil
  | _, _, _, .cons h1 h2 h3 => .cons h1 (Wm.kp k h2) (Wmk.kp k h3)
end
/-- how it reads, in every store that keeps it -/
structure Sh (P : Nat → Prop) (s : Sto) (n : Nat) (d : D) (q : PyData) (w : Nat) : Prop where
  rd : ∀ t, Kq P s t → ∀ m, n ≤ m → pd t (m + 1) d = some q
  lvs : q.leavesShort 71 = true
  shw : q.showable = true
  wei : q.bulk ≤ w
structure Shs (P : Nat → Prop) (s : Sto) (n : Nat) (ds : List D) (qs : List PyData) (w : Nat) : Prop where
  rd : ∀ t, Kq P s t → ∀ m, n ≤ m → optAll (pd t (m + 1)) ds = some qs
  lvs : PyData.leavesShortAll 71 qs = true
  shw : PyData.showableAll qs = true
  wei : PyData.bulkAll qs ≤ w
structure Shk (P : Nat → Prop) (s : Sto) (n : Nat) (ds : List (Ky × D)) (qs : List (PyData × PyData)) (w : Nat) : Prop where
  rd : ∀ t, Kq P s t → ∀ m, n ≤ m → optAll (fun kv : Ky × D => (pd t (m + 1) kv.2).map fun p => ((match kv.1 with | .inl i => PySem.PyData.int i | .inr x => PySem.PyData.str ⟨x.toArray⟩), p)) ds = some qs
  lvs : PyData.leavesShortKv 71 qs = true
  shw : PyData.showableKv qs = true
  wei : PyData.bulkKv qs ≤ w
theorem int_ok {i : Int} (h : i.natAbs < 10 ^ 70) : (PyData.int i).leavesShort 71 = true ∧ (PyData.int i).showable = true := by
  refine ⟨?_, ?_⟩
  · simp only [PyData.leavesShort, decide_eq_true_eq]
    have e := int_text_length_le10 (k := 70) (by decide) h
    show (Str.ofString (toString i)).length ≤ 71
    rw [ofString_length]; exact e
  · simp only [PyData.showable, decide_eq_true_eq]
    by_cases h0 : i.natAbs = 0
    · rw [h0]; decide
    · have h1 : (10 : Nat) ^ 70 < 2 ^ 240 := by decide
      have h2 := (Nat.log2_lt h0 (k := 240)).mpr (Nat.lt_trans h h1)
      omega
mutual
theorem Wm.sh {P : Nat → Prop} {s : Sto} : ∀ {n w : Nat} {d : D}, Wm P s n w d → ∃ q, Sh P s n d q w
  | _, _, _, .non => ⟨.none, fun _ _ _ _ => rfl, rfl, rfl, by simp [PyData.bulk]⟩
  | _, _, _, .bl b => ⟨.bool b, fun _ _ _ _ => rfl, rfl, rfl, by simp [PyData.bulk]⟩
  | _, _, _, .int i h => ⟨.int i, fun _ _ _ _ => rfl, (int_ok h).1, (int_ok h).2, by simp [PyData.bulk]⟩
  | _, _, _, .str x h h2 => ⟨.str ⟨x.toArray⟩, fun _ _ _ _ => rfl, by
      simp only [PyData.leavesShort, List.all_eq_true, decide_eq_true_eq]
      intro c hc
      have := h2 c (by simpa using hc)
      have e : (16 : Nat) ^ 8 = 4294967296 := by decide
      omega, rfl, by simpa [PyData.bulk] using h⟩
  | _, _, _, .tup h => by
    obtain ⟨qs, h⟩ := Wms.sh h
    refine ⟨.tuple qs, fun t k m hm => ?_, by simpa only [PyData.leavesShort] using h.lvs, by simpa only [PyData.showable] using h.shw, by simpa only [PyData.bulk] using h.wei⟩
    obtain ⟨j, rfl⟩ : ∃ j, m = j + 1 := ⟨m - 1, by omega⟩
    show (optAll (pd t (j + 1)) _).map PyData.tuple = _
    rw [h.rd t k j (by omega)]; rfl
  | _, _, _, .lst (i := i) h1 h2 h3 => by
    obtain ⟨qs, h⟩ := Wms.sh h3
    refine ⟨.list qs, fun t k m hm => ?_, by simpa only [PyData.leavesShort] using h.lvs, by simpa only [PyData.showable] using h.shw, by simpa only [PyData.bulk] using h.wei⟩
    obtain ⟨j, rfl⟩ : ∃ j, m = j + 1 := ⟨m - 1, by omega⟩
    show (match t[i]? with | some (MO.lst xs) => (optAll (pd t (j + 1)) xs).map PyData.list | some (.dct kvs) => _ | none => none) = _
    rw [k _ _ h1 h2]
    show (optAll (pd t (j + 1)) _).map PyData.list = _
    rw [h.rd t k j (by omega)]; rfl
  | _, _, _, .dct (i := i) h1 h2 h3 => by
    obtain ⟨qs, h⟩ := Wmk.sh h3
    refine ⟨.dict qs, fun t k m hm => ?_, by simpa only [PyData.leavesShort] using h.lvs, by simpa only [PyData.showable] using h.shw, by simpa only [PyData.bulk] using h.wei⟩
    obtain ⟨j, rfl⟩ : ∃ j, m = j + 1 := ⟨m - 1, by omega⟩
    have e := h.rd t k j (by omega)
    have u : pd t (j + 1 + 1) (.obj i) = (match t[i]? with | some (MO.lst xs) => (optAll (pd t (j + 1)) xs).map PyData.list | some (.dct kvs) => (optAll (fun kv : Ky × D => (pd t (j + 1) kv.2).map fun p => ((match kv.1 with | .inl i => PySem.PyData.int i | .inr x => PySem.PyData.str ⟨x.toArray⟩), p)) kvs).map PyData.dict | none => none) := rfl
    rw [u, k _ _ h1 h2]
    exact congrArg (Option.map PyData.dict) e
theorem Wms.sh {P : Nat → Prop} {s : Sto} : ∀ {n w : Nat} {ds : List D}, Wms P s n w ds → ∃ qs, Shs P s n ds qs w
  | _, _, _, .nil => ⟨[], fun _ _ _ _ => rfl, rfl, rfl, by simp [PyData.bulkAll]⟩
  | _, _, _, .cons h1 h2 => by
    obtain ⟨q, a⟩ := Wm.sh h1
    obtain ⟨qs, b⟩ := Wms.sh h2
    refine ⟨q :: qs, fun t k m hm => by simp only [optAll, a.rd t k m hm, b.rd t k m hm], by simp only [PyData.leavesShortAll, a.lvs, b.lvs, Bool.and_self], by simp only [PyData.showableAll, a.shw, b.shw, Bool.and_self], ?_⟩
    have := a.wei; have := b.wei
    simp only [PyData.bulkAll]; omega
theorem Wmk.sh {P : Nat → Prop} {s : Sto} : ∀ {n w : Nat} {ds : List (Ky × D)}, Wmk P s n w ds → ∃ qs, Shk P s n ds qs w
  | _, _, _, .nil => ⟨[], fun _ _ _ _ => rfl, rfl, rfl, by simp [PyData.bulkKv]⟩
  | _, _, _, .cons (i := i) h0 h1 h2 => by
    obtain ⟨q, a⟩ := Wm.sh h1
    obtain ⟨qs, b⟩ := Wmk.sh h2
    have io := int_ok h0
    refine ⟨(.int i, q) :: qs, fun t k m hm => ?_, by simp only [PyData.leavesShortKv, a.lvs, b.lvs, io.1, Bool.and_self], by simp only [PyData.showableKv, a.shw, b.shw, io.2, Bool.and_self], ?_⟩
    · have e := b.rd t k m hm
      simp only [optAll, a.rd t k m hm, e, Option.map_some]
    · have := a.wei; have := b.wei
      simp only [PyData.bulkKv, PyData.bulk]; omega
end
/-- shown alike wherever it is kept -/
theorem Wm.repr {P : Nat → Prop} {s : Sto} {n w : Nat} {d : D} (h : Wm P s n w d) (hn : n ≤ 39) (hw : w ≤ 200000) : ∃ K, ∀ t, Kq P s t → biF .repr [d] t = .ok (.str K) t := by
  obtain ⟨q, a⟩ := h.sh
  refine ⟨q.shown.cps.toList, fun t k => ?_⟩
  show (match shownD d t with | some t => R.ok (D.str t) _ | none => (.bad : R D)) = _
  have e : shownD d t = some q.shown.cps.toList := by
    unfold shownD fuel
    rw [a.rd t k 39 hn]
    have h1 := PyData.shown_le_bulk 71 (by omega) q a.lvs
    have h2 : q.shown.length ≤ line := by
      have := a.wei
      unfold line
      omega
    simp only [a.shw, h2, and_self, if_true]
  rw [e]
def isI : D → Bool
  | .int _ | .bl _ => true
  | _ => false
def isB : D → Bool
  | .bl _ => true
  | _ => false
def isT : D → Bool
  | .tup _ => true
  | _ => false
section
variable {P : Nat → Prop} {s : Sto} {n w : Nat} {d : D}
theorem Wm.tyI (h : Wm P s n w d) : isTy .int d s = some (isI d) := by
  cases h <;> simp_all [isTy, isI] <;> rfl
theorem Wm.tyB (h : Wm P s n w d) : isTy .bool d s = some (isB d) := by
  cases h <;> simp_all [isTy, isB] <;> rfl
theorem Wm.tyT (h : Wm P s n w d) : isTy .tuple d s = some (isT d) := by
  cases h <;> simp_all [isTy, isT] <;> rfl
/-- a whole number from a to b -/
def whole (a b : Int) : D → Bool
  | .int i => decide (a ≤ i) && decide (i ≤ b)
  | _ => false
end
/-- a comprehension over a list that is left alone -/
theorem compO_post {cl : Cl} {e tg it c : Ex} {own : List Nat} {l l0 : Lo} {s s1 : Sto} {i : Nat} {xs its : List D} {Q : D → Sto → Prop} {E : D → Sto → Prop} (I : Nat → List D → Sto → Prop) (hit : (sem cl it).w l s = .ok ⟨its, some (i, .lst xs)⟩ s1) (hl0 : wipe l own = l0) (hI : ∀ k acc s, I k acc s → s[i]? = some (.lst xs))
    (step : ∀ k d acc s, its[k]? = some d → I k acc s → s[s1.length]? = some (.lst acc) → ((sem cl tg).t d l0 s).post (fun l1 s2 => ((if isNil c = true then (fun _ s => R.ok true s) else (fun l s => ((sem cl c).e l s).bind asB)) l1 s2).post (fun b s3 => if b = true then ((sem cl e).e l1 s3).post (fun y s4 => s4[s1.length]? = some (.lst acc) ∧ acc.length < 16777216 ∧ I (k + 1) (acc ++ [y]) (setO s1.length (.lst (acc ++ [y])) s4)) (fun _ _ => False) else s3[s1.length]? = some (.lst acc) ∧ I (k + 1) acc s3) (fun _ _ => False)) (fun _ _ => False))
    (fin : ∀ acc s, I its.length acc s → s[s1.length]? = some (.lst acc) → Q (.obj s1.length) s) (h : I 0 [] (s1 ++ [.lst []])) : ((sem cl (.comp e tg it c own)).e l s).post Q E := by
  rw [ze_comp, hit, R.bind_ok, R.post_bind, hl0]
  refine noexPost ?_
  refine comL_post (q := s1.length) I (fun k acc s h => by simp [Src.ok, hI k acc s h]) its 0 [] _ (fun k d acc s e i g => by rw [Nat.zero_add] at i ⊢; exact step k d acc s e i g) (fun acc s i g => ?_) h get_last
  exact fin acc s (by simpa using i) g
end Z

/-! ZWn: more of well-made data. -/
namespace Z
open PySem
theorem wms_get {P : Nat → Prop} {s : Sto} {n : Nat} : ∀ {w : Nat} {xs : List D}, Wms P s n w xs → ∀ {k : Nat} {d : D}, xs[k]? = some d → ∃ v, Wm P s n v d
  | _, _, .nil, k, d, h => by simp at h
  | _, _, .cons h1 h2, k, d, h => by
    cases k with
    | zero => cases h; exact ⟨_, h1⟩
    | succ k => exact wms_get h2 (by simpa using h)
theorem wms_len {P : Nat → Prop} {s : Sto} {n : Nat} : ∀ {w : Nat} {xs : List D}, Wms P s n w xs → xs.length ≤ w
  | _, _, .nil => Nat.zero_le _
  | _, _, .cons _ h => by have := wms_len h; simp; omega
theorem wms_ints {P : Nat → Prop} {s : Sto} {n : Nat} : ∀ {ns : List Int}, (∀ z ∈ ns, 0 ≤ z ∧ z < 256) → Wms P s n ns.length (ns.map .int)
  | [], _ => .nil
  | z :: ns, h => by
    have hz := h z List.mem_cons_self
    have hb : z.natAbs < 10 ^ 70 := Nat.lt_of_lt_of_le (show z.natAbs < 256 by omega) (by decide)
    have := Wms.cons (w := 0) (Wm.int (P := P) (s := s) (n := n) z hb) (wms_ints (P := P) (s := s) (n := n) (ns := ns) fun y hy => h y (List.mem_cons_of_mem _ hy))
    have e : 0 + 1 + ns.length = (z :: ns).length := by simp; omega
    rw [e] at this
    exact this
theorem wms_app {P : Nat → Prop} {s : Sto} {n : Nat} {v : Nat} {ys : List D} (h2 : Wms P s n v ys) : ∀ {w : Nat} {xs : List D}, Wms P s n w xs → ∃ u, u ≤ w + v ∧ Wms P s n u (xs ++ ys)
  | w, _, .nil => ⟨v, by omega, h2⟩
  | _, _, .cons h1 h3 => by
    obtain ⟨u, hu, h⟩ := wms_app h2 h3
    exact ⟨_, by omega, .cons h1 h⟩
mutual
theorem wm_up {P : Nat → Prop} {s : Sto} : ∀ {n w : Nat} {d : D}, Wm P s n w d → ∀ {m : Nat}, n ≤ m → Wm P s m w d
  | _, _, _, .non, _, _ => .non
  | _, _, _, .bl b, _, _ => .bl b
  | _, _, _, .int i h, _, _ => .int i h
  | _, _, _, .str x h h2, _, _ => .str x h h2
  | _, _, _, .tup h, 0, k => absurd k (Nat.not_succ_le_zero _)
  | _, _, _, .tup h, m + 1, k => .tup (wms_up h (Nat.le_of_succ_le_succ k))
  | _, _, _, .lst h1 h2 h3, 0, k => absurd k (Nat.not_succ_le_zero _)
  | _, _, _, .lst h1 h2 h3, m + 1, k => .lst h1 h2 (wms_up h3 (Nat.le_of_succ_le_succ k))
  | _, _, _, .dct h1 h2 h3, 0, k => absurd k (Nat.not_succ_le_zero _)
  | _, _, _, .dct h1 h2 h3, m + 1, k => .dct h1 h2 (wmk_up h3 (Nat.le_of_succ_le_succ k))
theorem wms_up {P : Nat → Prop} {s : Sto} : ∀ {n w : Nat} {ds : List D}, Wms P s n w ds → ∀ {m : Nat}, n ≤ m → Wms P s m w ds
  | _, _, _, .nil, _, _ => .nil
  | _, _, _, .cons h1 h2, _, k => .cons (wm_up h1 k) (wms_up h2 k)
theorem wmk_up {P : Nat → Prop} {s : Sto} : ∀ {n w : Nat} {ds : List (Ky × D)}, Wmk P s n w ds → ∀ {m : Nat}, n ≤ m → Wmk P s m w ds
  | _, _, _, .nil, _, _ => .nil
  | _, _, _, .cons h1 h2 h3, _, k => .cons h1 (wm_up h2 k) (wmk_up h3 k)
end
theorem wm_small {P : Nat → Prop} {n w : Nat} {s : Sto} {z : Int} (h : z.natAbs < 100000) : Wm P s n w (.int z) := .int z (Nat.lt_trans h (by decide))
theorem wm_pair {P : Nat → Prop} {n v w u : Nat} {s : Sto} {d e : D} (h : Wm P s n v d) (h2 : Wm P s n w e) (hu : v + 1 + w + 1 ≤ u) : ∃ u', u' ≤ u ∧ Wm P s (n + 1) u' (.tup [d, e]) :=
  ⟨v + 1 + (w + 1 + 0), by omega, .tup (.cons h (.cons h2 .nil))⟩
theorem get2 {s : Sto} {a b : MO} : (s ++ [a, b])[s.length]? = some a := by
  rw [List.getElem?_append_right (Nat.le_refl _), Nat.sub_self]; rfl
theorem get3 {s : Sto} {a b : MO} : (s ++ [a, b])[s.length + 1]? = some b := by
  rw [List.getElem?_append_right (by omega), show s.length + 1 - s.length = 1 by omega]; rfl
theorem kp_gen {p j a : Nat} {s : Sto} (u : Sto) (h : Pen p j a s) : ∃ t, t = s ++ u ∧ Kp p s t ∧ Pen p j a t := ⟨_, rfl, .app, h.app⟩
theorem cut1 {x y : D} : cut [x, y] none (some 1) = [x] := by rw [cut_to (by omega)]; rfl
theorem at0 {x y : D} : L2.atI [x, y] 0 = some x := rfl
theorem wms_in {P : Nat → Prop} {s : Sto} {n : Nat} : ∀ {w : Nat} {xs : List D}, Wms P s n w xs → ∀ d ∈ xs, ∃ v, v ≤ w ∧ Wm P s n v d
  | _, _, .nil, d, h => by cases h
  | _, _, .cons h1 h2, d, h => by
    rcases List.mem_cons.mp h with rfl | h
    · exact ⟨_, by omega, h1⟩
    · obtain ⟨v, hv, hd⟩ := wms_in h2 d h
      exact ⟨v, by omega, hd⟩
theorem tup_len {P : Nat → Prop} {s : Sto} {n w : Nat} {xs : List D} (h : Wm P s n w (.tup xs)) : xs.length ≤ w ∧ ∃ m, Wms P s m w xs := by
  cases h with
  | tup h => exact ⟨wms_len h, _, h⟩
mutual
theorem wm_wide {P : Nat → Prop} {s : Sto} : ∀ {n w : Nat} {d : D}, Wm P s n w d → ∀ {u : Nat}, w ≤ u → Wm P s n u d
  | _, _, _, .non, _, _ => .non
  | _, _, _, .bl b, _, _ => .bl b
  | _, _, _, .int i h, _, _ => .int i h
  | _, _, _, .str x h h2, _, k => .str x (Nat.le_trans h k) h2
  | _, _, _, .tup h, _, k => .tup (wms_wide h k)
  | _, _, _, .lst h1 h2 h3, _, k => .lst h1 h2 (wms_wide h3 k)
  | _, _, _, .dct h1 h2 h3, _, k => .dct h1 h2 (wmk_wide h3 k)
theorem wms_wide {P : Nat → Prop} {s : Sto} : ∀ {n w : Nat} {ds : List D}, Wms P s n w ds → ∀ {u : Nat}, w ≤ u → Wms P s n u ds
  | _, _, _, .nil, _, _ => .nil
  | _, _, _, .cons (w := w) (v := v) h1 h2, u, k => by
    have e : u = w + 1 + (u - w - 1) := by omega
    rw [e]
    exact .cons h1 (wms_wide h2 (by omega))
theorem wmk_wide {P : Nat → Prop} {s : Sto} : ∀ {n w : Nat} {ds : List (Ky × D)}, Wmk P s n w ds → ∀ {u : Nat}, w ≤ u → Wmk P s n u ds
  | _, _, _, .nil, _, _ => .nil
  | _, _, _, .cons (w := w) (v := v) h0 h1 h2, u, k => by
    have e : u = w + 2 + (u - w - 2) := by omega
    rw [e]
    exact .cons h0 h1 (wmk_wide h2 (by omega))
end
theorem wt0 {P : Nat → Prop} {n w : Nat} {s : Sto} : Wm P s (n + 1) w (.tup []) := .tup .nil
theorem wt1 {P : Nat → Prop} {n a : Nat} {s : Sto} {d : D} (h : Wm P s n a d) : Wm P s (n + 1) (a + 1) (.tup [d]) := .tup (.cons (v := 0) h .nil)
theorem wt2 {P : Nat → Prop} {n a b : Nat} {s : Sto} {d e : D} (h : Wm P s n a d) (h2 : Wm P s n b e) : Wm P s (n + 1) (a + 1 + (b + 1)) (.tup [d, e]) := .tup (.cons h (.cons (v := 0) h2 .nil))
theorem wl1 {P : Nat → Prop} {n a i : Nat} {s : Sto} {d : D} (hi : P i) (g : s[i]? = some (.lst [d])) (h : Wm P s n a d) : Wm P s (n + 1) (a + 1) (.obj i) := .lst hi g (.cons (v := 0) h .nil)
theorem kp_put {p q : Nat} {s t : Sto} {o : MO} (h : Kp p s t) (hq : s.length ≤ q) : Kp p s (setO q o t) :=
  ⟨by simpa using h.len, fun i u hi hu => by have := lt_of_get hu; rw [get_set_ne (by omega)]; exact h.old i u hi hu⟩
@[simp] theorem cmp_neB {a b : Bool} {s : Sto} : cmp .ne (.bl a) (.bl b) s = .ok (.bl (!decide (a = b))) s := by
  rw [cmp_neR (rd_bl (s := s)) (rd_bl (s := s)) (by omega) (by omega)]
  cases a <;> cases b <;> rfl
theorem ints_map (ns : List Int) : ints? (ns.map .int) = some ns := by
  induction ns with
  | nil => rfl
  | cons n ns ih => simp only [List.map_cons, ints?, ih]; rfl
theorem all_bls {i : Nat} {s : Sto} {bs : List Bool} (h : s[i]? = some (.lst (bs.map .bl))) : biF .all [.obj i] s = .ok (.bl (bs.all id)) s := by
  have e : ∀ bs : List Bool, bls? (bs.map .bl) = some bs := fun bs => by
    induction bs with
    | nil => rfl
    | cons b bs ih => simp only [List.map_cons, bls?, ih]; rfl
  show bi1 .all (.obj i) s = _
  simp only [bi1, lst?, h, e]
/-- things from place b on -/
abbrev Wb (b : Nat) : Sto → Nat → Nat → D → Prop := Wm (fun i => b ≤ i)
theorem Wb.kp {p b n w : Nat} {s t : Sto} {d : D} (h : Wb b s n w d) (hb : p < b) (k : Kp p s t) : Wb b t n w d := Wm.kp (fun i o hi ho => k.old i o (by omega) ho) h
theorem Wb.set {q b n w : Nat} {s : Sto} {d : D} {o : MO} (h : Wb b s n w d) (hb : q < b) : Wb b (setO q o s) n w d := Wm.kp (fun i u hi hu => by rw [get_set_ne (by omega)]; exact hu) h
theorem Wm.ext {P : Nat → Prop} {n w : Nat} {s t : Sto} {d : D} (h : Wm P s n w d) (e : Ext s t) : Wm P t n w d := Wm.kp (fun i o _ ho => e i o ho) h
theorem Wb.ext {b n w : Nat} {s t : Sto} {d : D} (h : Wb b s n w d) (e : Ext s t) : Wb b t n w d := Wm.ext h e
mutual
theorem Wm.imp {P R : Nat → Prop} {s : Sto} (k : ∀ i, P i → R i) : ∀ {n w : Nat} {d : D}, Wm P s n w d → Wm R s n w d
  | _, _, _, .non => .non
  | _, _, _, .bl b => .bl b
  | _, _, _, .int i h => .int i h
  | _, _, _, .str x h h2 => .str x h h2
  | _, _, _, .tup h => .tup (Wms.imp k h)
  | _, _, _, .lst h1 h2 h3 => .lst (k _ h1) h2 (Wms.imp k h3)
  | _, _, _, .dct h1 h2 h3 => .dct (k _ h1) h2 (Wmk.imp k h3)
theorem Wms.imp {P R : Nat → Prop} {s : Sto} (k : ∀ i, P i → R i) : ∀ {n w : Nat} {ds : List D}, Wms P s n w ds → Wms R s n w ds
  | _, _, _, .nil => .nil
  | _, _, _, .cons h1 h2 => .cons (Wm.imp k h1) (Wms.imp k h2)
theorem Wmk.imp {P R : Nat → Prop} {s : Sto} (k : ∀ i, P i → R i) : ∀ {n w : Nat} {ds : List (Ky × D)}, Wmk P s n w ds → Wmk R s n w ds
  | _, _, _, .nil => .nil
  | _, _, _, .cons h0 h1 h2 => .cons h0 (Wm.imp k h1) (Wmk.imp k h2)
end
theorem Wb.le {b c n w : Nat} {s : Sto} {d : D} (h : Wb b s n w d) (k : c ≤ b) : Wb c s n w d := Wm.imp (fun i hi => Nat.le_trans k hi) h
end Z

namespace Z.k10
open Z L2
def c_KNOWN : D := (.tup [(.int 1), (.int 2), (.int 3), (.int 4), (.int 5), (.int 6)])
def c_WIDTHS : D := (.tup [(.int 1), (.int 2), (.int 4), (.int 1), (.int 4), (.int 4)])
def c_OTHER_WIDTHS : D := (.tup [(.int 1), (.int 2), (.int 4)])
def c_BASE : D := (.int 256)
def c_CELL : D := (.int 4)
def c_MOST_COUNT : D := (.int 300)
def c_BYTE : D := (.int 256)
def c_TEXT : D := (.int 4)
def c_SIGNS : D := (.str [32, 45, 46, 48, 49, 50, 51, 52, 53, 54, 55, 56, 57, 65, 66, 67, 68, 69, 70, 71, 72, 73, 74, 75, 76, 77, 78, 79, 80, 81, 82, 83, 84, 85, 86, 87, 88, 89, 90, 97, 98, 99, 100, 101, 102, 103, 104, 105, 106, 107, 108, 109, 110, 111, 112, 113, 114, 115, 116, 117, 118, 119, 120, 121, 122])
def f_is_whole : Fn := ⟨2, 2, (.cons (.ret (.and (.isi (.var 0) .int) (.and (.not (.isi (.var 0) .bool)) (.one (.cmp2 .le .le (.int 0) (.var 0) (.var 1)))))) .nil)⟩
def b_width_1 : Ex := (.cons (.ret (.ix (.glb 2 c_OTHER_WIDTHS) (.bin .mod (.var 0) (.bi .len (.cons (.glb 2 c_OTHER_WIDTHS) .nil))))) .nil)
def b_width_0 : Ex := (.cons (.sif (.cmp .mem (.var 0) (.glb 0 c_KNOWN)) (.cons (.ret (.ix (.glb 1 c_WIDTHS) (.bin .sub (.var 0) (.int 1)))) .nil) .nil) b_width_1)
def f_width : Fn := ⟨1, 1, b_width_0⟩
def b_written_3 : Ex := (.cons (.ret (.bi .tuple (.cons (.var 3) .nil))) .nil)
def b_written_2 : Ex := (.cons (.sif (.cmp .eq (.var 0) (.str [103, 114, 101, 97, 116])) (.cons (.expr (.mt .reverse (.var 3) .nil)) .nil) .nil) b_written_3)
def b_written_1a_1 : Ex := (.cons (.expr (.mt .append (.var 3) (.cons (.var 5) .nil))) .nil)
def b_written_1a_0 : Ex := (.cons (.asg (.tt (.cons (.tv 1) (.cons (.tv 5) .nil))) (.bi .divmod (.cons (.var 1) (.cons (.glb 3 c_BASE) .nil)))) b_written_1a_1)
def b_written_1 : Ex := (.cons (.sfor (.tv 4) (.itR1 (.var 2)) b_written_1a_0) b_written_2)
def b_written_0 : Ex := (.cons (.asg (.tv 3) (.lst .nil)) b_written_1)
def f_written : Fn := ⟨3, 6, b_written_0⟩
def b_number_in_2 : Ex := (.cons (.ret (.var 2)) .nil)
def b_number_in_1 : Ex := (.cons (.sfor (.tv 3) (.itS (.ite (.cmp .eq (.var 0) (.str [103, 114, 101, 97, 116])) (.var 1) (.rev (.var 1)))) (.cons (.asg (.tv 2) (.bin .add (.bin .mul (.glb 3 c_BASE) (.var 2)) (.var 3))) .nil)) b_number_in_2)
def b_number_in_0 : Ex := (.cons (.asg (.tv 2) (.int 0)) b_number_in_1)
def f_number_in : Fn := ⟨2, 4, b_number_in_0⟩
def b_are_numbers_1 : Ex := (.cons (.ret (.bi .all (.cons (.comp (.call 0 (.cons (.var 3) (.cons (.bin .sub (.var 1) (.int 1)) .nil))) (.tv 3) (.itS (.var 0)) .nil [3]) .nil))) .nil)
def b_are_numbers_0 : Ex := (.cons (.sif (.or (.not (.isi (.var 0) .tuple)) (.one (.cmp .gt (.bi .len (.cons (.var 0) .nil)) (.var 2)))) (.cons (.ret (.bl false)) .nil) .nil) b_are_numbers_1)
def f_are_numbers : Fn := ⟨3, 4, b_are_numbers_0⟩
def b_is_worths_2 : Ex := (.cons (.ret (.callK 4 (.cons (.var 1) (.cons (.gix 0 [(1, 256), (2, 65536), (3, 4294967296)] (.var 0)) .nil)) .nil (.int 300))) .nil)
def b_is_worths_1 : Ex := (.cons (.sif (.cmp .eq (.var 0) (.glb 7 c_TEXT)) (.cons (.ret (.and (.isi (.var 1) .str) (.and (.cmp .le (.bi .len (.cons (.var 1) .nil)) (.glb 5 c_MOST_COUNT)) (.one (.bi .all (.cons (.comp (.cmp .mem (.var 4) (.glb 8 c_SIGNS)) (.tv 4) (.itS (.var 1)) .nil [4]) .nil)))))) .nil) .nil) b_is_worths_2)
def b_is_worths_0a_1 : Ex := (.cons (.ret (.and (.callK 4 (.cons (.var 1) (.cons (.glb 6 c_BYTE) .nil)) (.cons (.bin .mul (.glb 5 c_MOST_COUNT) (.var 3)) .nil) (.int 300)) (.one (.cmp .eq (.bin .mod (.bi .len (.cons (.var 1) .nil)) (.var 3)) (.int 0))))) .nil)
def b_is_worths_0a_0 : Ex := (.cons (.asg (.tv 3) (.call 1 (.cons (.var 0) .nil))) b_is_worths_0a_1)
def b_is_worths_0 : Ex := (.cons (.sif (.cmp .nmem (.var 0) (.var 2)) b_is_worths_0a_0 .nil) b_is_worths_1)
def f_is_worths : Fn := ⟨3, 5, b_is_worths_0⟩
def b_spread_3 : Ex := (.cons (.ret (.comp2 (.var 6) (.tv 5) (.itS (.var 2)) (.tv 6) (.itS (.call 2 (.cons (.var 0) (.cons (.var 5) (.cons (.call 1 (.cons (.var 1) .nil)) .nil))))) [5, 6] [6])) .nil)
def b_spread_2 : Ex := (.cons (.sif (.cmp .eq (.call 1 (.cons (.var 1) .nil)) (.int 1)) (.cons (.ret (.bi .list (.cons (.var 2) .nil))) .nil) .nil) b_spread_3)
def b_spread_1 : Ex := (.cons (.sif (.cmp .eq (.var 1) (.glb 7 c_TEXT)) (.cons (.ret (.comp (.bi .ord (.cons (.var 4) .nil)) (.tv 4) (.itS (.var 2)) .nil [4])) .nil) .nil) b_spread_2)
def b_spread_0 : Ex := (.cons (.sif (.cmp .nmem (.var 1) (.var 3)) (.cons (.ret (.bi .list (.cons (.var 2) .nil))) .nil) .nil) b_spread_1)
def f_spread : Fn := ⟨4, 7, b_spread_0⟩
def b_in_cells_1 : Ex := (.cons (.ret (.bi .tuple (.cons (.comp (.bi .tuple (.cons (.sl (.var 1) (.var 2) (.bin .add (.var 2) (.glb 4 c_CELL))) .nil)) (.tv 2) (.itR3 (.int 0) (.bi .len (.cons (.var 1) .nil)) (.glb 4 c_CELL)) .nil [2]) .nil))) .nil)
def b_in_cells_0 : Ex := (.cons (.asg (.tv 1) (.bin .add (.var 0) (.bin .mul (.lst (.cons (.int 0) .nil)) (.bin .mod (.neg (.bi .len (.cons (.var 0) .nil))) (.glb 4 c_CELL))))) b_in_cells_1)
def f_in_cells : Fn := ⟨1, 3, b_in_cells_0⟩
def f_packed : Fn := ⟨4, 4, (.cons (.ret (.call 7 (.cons (.call 6 (.cons (.var 0) (.cons (.var 1) (.cons (.var 2) (.cons (.var 3) .nil))))) .nil))) .nil)⟩
def b_unpacked_5 : Ex := (.cons (.ret (.bi .tuple (.cons (.comp (.call 3 (.cons (.var 0) (.cons (.sl (.var 6) (.var 11) (.bin .add (.var 11) (.var 5))) .nil))) (.tv 11) (.itR3 (.int 0) (.bi .len (.cons (.var 6) .nil)) (.var 5)) .nil [11]) .nil))) .nil)
def b_unpacked_4 : Ex := (.cons (.sif (.cmp .eq (.var 5) (.int 1)) (.cons (.ret (.bi .tuple (.cons (.var 6) .nil))) .nil) .nil) b_unpacked_5)
def b_unpacked_3a_1 : Ex := (.cons (.ret (.mt .join (.str []) (.cons (.comp (.ix (.var 9) (.var 8)) (.tv 8) (.itS (.var 6)) .nil [8]) .nil))) .nil)
def b_unpacked_3a_0 : Ex := (.cons (.asg (.tv 9) (.compD (.bi .ord (.cons (.var 10) .nil)) (.var 10) (.tv 10) (.itS (.glb 8 c_SIGNS)) .nil [10])) b_unpacked_3a_1)
def b_unpacked_3 : Ex := (.cons (.sif (.cmp .eq (.var 1) (.glb 7 c_TEXT)) b_unpacked_3a_0 .nil) b_unpacked_4)
def b_unpacked_2 : Ex := (.cons (.sif (.cmp .nmem (.var 1) (.var 4)) (.cons (.ret (.bi .tuple (.cons (.var 6) .nil))) .nil) .nil) b_unpacked_3)
def b_unpacked_1 : Ex := (.cons (.asg (.tv 6) (.sl (.comp2 (.var 8) (.tv 7) (.itS (.var 3)) (.tv 8) (.itS (.var 7)) [7, 8] [8]) .nil (.bin .mul (.var 2) (.var 5)))) b_unpacked_2)
def b_unpacked_0 : Ex := (.cons (.asg (.tv 5) (.call 1 (.cons (.var 1) .nil))) b_unpacked_1)
def f_unpacked : Fn := ⟨5, 12, b_unpacked_0⟩
def f_law_pen : Fn := ⟨1, 1, Z.b_law_pen⟩
def f_law_draw : Fn := ⟨2, 8, Z.b_law_draw_0⟩
def f_law_numbers : Fn := ⟨3, 5, (Z.b_law_numbers_0 11)⟩
def b_law_text_1 : Ex := (.cons (.ret (.mt .join (.str []) (.cons (.comp (.ix (.var 2) (.call 11 (.cons (.var 0) (.cons (.int 9) .nil)))) (.tv 3) (.itR1 (.var 1)) .nil [3]) .nil))) .nil)
def b_law_text_0 : Ex := (.cons (.asg (.tv 2) (.str [32, 97, 122, 65, 90, 48, 57, 46, 45])) b_law_text_1)
def f_law_text : Fn := ⟨2, 4, b_law_text_0⟩
def b_law_plain_4 : Ex := (.cons (.ret (.call 12 (.cons (.var 0) (.cons (.bin .mul (.var 2) (.ix (.lst (.cons (.int 1) (.cons (.int 2) (.cons (.int 4) .nil)))) (.bin .mod (.var 1) (.int 3)))) (.cons (.int 256) .nil))))) .nil)
def b_law_plain_3 : Ex := (.cons (.sif (.cmp .mem (.var 1) (.tup (.cons (.int 1) (.cons (.int 2) (.cons (.int 3) .nil))))) (.cons (.ret (.call 12 (.cons (.var 0) (.cons (.var 2) (.cons (.ix (.lst (.cons (.int 256) (.cons (.int 65536) (.cons (.bin .pow (.int 2) (.int 32)) .nil)))) (.bin .sub (.var 1) (.int 1))) .nil))))) .nil) .nil) b_law_plain_4)
def b_law_plain_2a_1 : Ex := (.cons (.ret (.bi .tuple (.cons (.comp (.call 12 (.cons (.var 0) (.cons (.var 5) (.cons (.int 256) .nil)))) (.tv 5) (.itS (.var 3)) .nil [5]) .nil))) .nil)
def b_law_plain_2a_0 : Ex := (.cons (.asg (.tv 3) (.comp (.ix (.lst (.cons (.int 0) (.cons (.int 1) (.cons (.int 4) (.cons (.int 5) (.cons (.call 11 (.cons (.var 0) (.cons (.int 9) .nil))) .nil)))))) (.call 11 (.cons (.var 0) (.cons (.int 5) .nil)))) (.tv 4) (.itR1 (.bin .mod (.var 2) (.int 4))) .nil [4])) b_law_plain_2a_1)
def b_law_plain_2 : Ex := (.cons (.sif (.cmp .eq (.var 1) (.int 6)) b_law_plain_2a_0 .nil) b_law_plain_3)
def b_law_plain_1 : Ex := (.cons (.sif (.cmp .eq (.var 1) (.int 4)) (.cons (.ret (.call 13 (.cons (.var 0) (.cons (.var 2) .nil)))) .nil) .nil) b_law_plain_2)
def b_law_plain_0 : Ex := (.cons (.asg (.tv 2) (.ix (.lst (.cons (.int 0) (.cons (.int 1) (.cons (.int 1) (.cons (.int 2) (.cons (.int 3) (.cons (.int 4) (.cons (.int 5) (.cons (.bin .add (.int 2) (.call 11 (.cons (.var 0) (.cons (.int 9) .nil)))) .nil))))))))) (.call 11 (.cons (.var 0) (.cons (.int 8) .nil))))) b_law_plain_1)
def f_law_plain : Fn := ⟨2, 6, b_law_plain_0⟩
def b_law_count_1 : Ex := (.cons (.ret (.bin .div (.bi .len (.cons (.var 1) .nil)) (.call 1 (.cons (.var 0) .nil)))) .nil)
def b_law_count_0 : Ex := (.cons (.sif (.cmp .mem (.var 0) (.tup (.cons (.int 1) (.cons (.int 2) (.cons (.int 3) (.cons (.int 4) .nil)))))) (.cons (.ret (.bi .len (.cons (.var 1) .nil))) .nil) .nil) b_law_count_1)
def f_law_count : Fn := ⟨2, 2, b_law_count_0⟩
def b_law_flat_2 : Ex := (.cons (.ret (.var 1)) .nil)
def b_law_flat_1 : Ex := (.cons (.sfor (.tv 2) (.itS (.var 0)) (.cons (.expr (.mt .extend (.var 1) (.cons (.bi .list (.cons (.var 2) .nil)) .nil))) .nil)) b_law_flat_2)
def b_law_flat_0 : Ex := (.cons (.asg (.tv 1) (.lst .nil)) b_law_flat_1)
def f_law_flat : Fn := ⟨1, 3, b_law_flat_0⟩
def b_law_orders_right_7 : Ex := (.cons (.ret (.and (.cmp .eq (.bin .add (.var 6) (.sl (.var 2) (.var 5) .nil)) (.var 3)) (.one (.cmp .eq (.sl (.var 2) (.var 5) .nil) (.bin .mul (.lst (.cons (.int 0) .nil)) (.bin .sub (.bi .len (.cons (.var 2) .nil)) (.var 5))))))) .nil)
def b_law_orders_right_6 : Ex := (.cons (.sfor (.tv 7) (.itR3 (.int 0) (.var 5) (.var 4)) (.cons (.expr (.mt .extend (.var 6) (.cons (.rev (.sl (.var 2) (.var 7) (.bin .add (.var 7) (.var 4)))) .nil))) .nil)) b_law_orders_right_7)
def b_law_orders_right_5 : Ex := (.cons (.asg (.tv 6) (.lst .nil)) b_law_orders_right_6)
def b_law_orders_right_4 : Ex := (.cons (.asg (.tv 5) (.bin .mul (.var 4) (.bi .len (.cons (.var 1) .nil)))) b_law_orders_right_5)
def b_law_orders_right_3 : Ex := (.cons (.sif (.cmp .mem (.var 0) (.tup (.cons (.int 2) (.cons (.int 3) .nil)))) (.cons (.asg (.tv 4) (.call 1 (.cons (.var 0) .nil))) .nil) .nil) b_law_orders_right_4)
def b_law_orders_right_2 : Ex := (.cons (.asg (.tv 4) (.int 1)) b_law_orders_right_3)
def b_law_orders_right_1 : Ex := (.cons (.asg (.tv 3) (.call 16 (.cons (.callK 8 (.cons (.str [103, 114, 101, 97, 116]) (.cons (.var 0) (.cons (.var 1) .nil))) .nil (.tup [(.int 1), (.int 2), (.int 3), (.int 4), (.int 5), (.int 6)])) .nil))) b_law_orders_right_2)
def b_law_orders_right_0 : Ex := (.cons (.asg (.tv 2) (.call 16 (.cons (.callK 8 (.cons (.str [115, 109, 97, 108, 108]) (.cons (.var 0) (.cons (.var 1) .nil))) .nil (.tup [(.int 1), (.int 2), (.int 3), (.int 4), (.int 5), (.int 6)])) .nil))) b_law_orders_right_1)
def f_law_orders_right : Fn := ⟨2, 8, b_law_orders_right_0⟩
def b_law_raw_right_4 : Ex := (.cons (.ret (.cmp .eq (.callK 8 (.cons (.var 0) (.cons (.var 1) (.cons (.var 7) .nil))) (.cons (.var 4) .nil) (.tup [(.int 1), (.int 2), (.int 3), (.int 4), (.int 5), (.int 6)])) (.var 3))) .nil)
def b_law_raw_right_3 : Ex := (.cons (.sif (.or (.cmp .isn (.callK 5 (.cons (.var 1) (.cons (.var 7) .nil)) (.cons (.var 4) .nil) (.tup [(.int 1), (.int 2), (.int 3), (.int 4), (.int 5), (.int 6)])) (.bl true)) (.one (.cmp .ne (.bi .len (.cons (.var 7) .nil)) (.bin .mul (.var 6) (.call 1 (.cons (.var 1) .nil)))))) (.cons (.ret (.bl false)) .nil) .nil) b_law_raw_right_4)
def b_law_raw_right_2 : Ex := (.cons (.asg (.tv 7) (.callK 9 (.cons (.var 0) (.cons (.var 1) (.cons (.var 6) (.cons (.var 3) .nil)))) (.cons (.var 4) .nil) (.tup [(.int 1), (.int 2), (.int 3), (.int 4), (.int 5), (.int 6)]))) b_law_raw_right_3)
def b_law_raw_right_1 : Ex := (.cons (.asg (.tv 6) (.call 15 (.cons (.var 1) (.cons (.var 2) .nil)))) b_law_raw_right_2)
def b_law_raw_right_0 : Ex := (.cons (.asg (.tv 4) (.bi .tuple (.cons (.comp (.var 5) (.tv 5) (.itS (.tup (.cons (.int 1) (.cons (.int 2) (.cons (.int 3) (.cons (.int 4) (.cons (.int 5) (.cons (.int 6) .nil)))))))) (.cmp .ne (.var 5) (.var 1)) [5]) .nil))) b_law_raw_right_1)
def f_law_raw_right : Fn := ⟨4, 8, b_law_raw_right_0⟩
def b_law_lists_right_1 : Ex := (.cons (.ret (.bl true)) .nil)
def b_law_lists_right_0a_4 : Ex := (.cons (.sif (.cmp .ne (.callK 9 (.cons (.var 1) (.cons (.var 2) (.cons (.bin .div (.bi .len (.cons (.var 3) .nil)) (.int 4)) (.cons (.bin .add (.var 5) (.tup (.cons (.tup (.cons (.int 9) (.cons (.int 8) (.cons (.int 7) (.cons (.int 6) .nil))))) .nil))) .nil)))) (.cons (.var 4) .nil) (.tup [(.int 1), (.int 2), (.int 3), (.int 4), (.int 5), (.int 6)])) (.var 3)) (.cons (.ret (.bl false)) .nil) .nil) .nil)
def b_law_lists_right_0a_3 : Ex := (.cons (.sif (.or (.cmp .isn (.callK 5 (.cons (.var 2) (.cons (.var 3) .nil)) (.cons (.var 4) .nil) (.tup [(.int 1), (.int 2), (.int 3), (.int 4), (.int 5), (.int 6)])) (.bl true)) (.one (.cmp .ne (.bi .len (.cons (.var 5) .nil)) (.bin .div (.bi .len (.cons (.var 3) .nil)) (.int 4))))) (.cons (.ret (.bl false)) .nil) .nil) b_law_lists_right_0a_4)
def b_law_lists_right_0a_2 : Ex := (.cons (.asg (.tv 5) (.callK 8 (.cons (.var 1) (.cons (.var 2) (.cons (.var 3) .nil))) (.cons (.var 4) .nil) (.tup [(.int 1), (.int 2), (.int 3), (.int 4), (.int 5), (.int 6)]))) b_law_lists_right_0a_3)
def b_law_lists_right_0a_1 : Ex := (.cons (.asg (.tv 4) (.ix (.lst (.cons (.tup (.cons (.int 1) (.cons (.int 2) (.cons (.int 3) (.cons (.int 4) .nil))))) (.cons (.tup .nil) .nil))) (.call 11 (.cons (.var 0) (.cons (.int 2) .nil))))) b_law_lists_right_0a_2)
def b_law_lists_right_0a_0 : Ex := (.cons (.asg (.tv 3) (.call 14 (.cons (.var 0) (.cons (.int 8) .nil)))) b_law_lists_right_0a_1)
def b_law_lists_right_0 : Ex := (.cons (.sfor (.tv 2) (.itS (.tup (.cons (.int 5) (.cons (.int 6) .nil)))) b_law_lists_right_0a_0) b_law_lists_right_1)
def f_law_lists_right : Fn := ⟨2, 6, b_law_lists_right_0⟩
def b_law_2 : Ex := (.cons (.ret (.bl true)) .nil)
def b_law_1a_11 : Ex := (.cons (.sif (.and (.cmp .eq (.bin .mod (.bin .mul (.var 6) (.call 1 (.cons (.var 4) .nil))) (.int 4)) (.int 0)) (.one (.cmp .ne (.var 9) (.bin .add (.var 7) (.callK 8 (.cons (.var 3) (.cons (.var 4) (.cons (.var 8) .nil))) .nil (.tup [(.int 1), (.int 2), (.int 3), (.int 4), (.int 5), (.int 6)])))))) (.cons (.ret (.bl false)) .nil) .nil) .nil)
def b_law_1a_10 : Ex := (.cons (.asg (.tv 9) (.callK 8 (.cons (.var 3) (.cons (.var 4) (.cons (.bin .add (.var 5) (.var 8)) .nil))) .nil (.tup [(.int 1), (.int 2), (.int 3), (.int 4), (.int 5), (.int 6)]))) b_law_1a_11)
def b_law_1a_9 : Ex := (.cons (.asg (.tv 8) (.call 14 (.cons (.var 1) (.cons (.var 4) .nil)))) b_law_1a_10)
def b_law_1a_8 : Ex := (.cons (.sif (.not (.call 19 (.cons (.var 1) (.cons (.var 3) .nil)))) (.cons (.ret (.bl false)) .nil) .nil) b_law_1a_9)
def b_law_1a_7 : Ex := (.cons (.sif (.or (.not (.call 17 (.cons (.var 4) (.cons (.var 5) .nil)))) (.one (.not (.call 18 (.cons (.var 3) (.cons (.var 4) (.cons (.var 5) (.cons (.var 7) .nil)))))))) (.cons (.ret (.bl false)) .nil) .nil) b_law_1a_8)
def b_law_1a_6 : Ex := (.cons (.sif (.or (.cmp .ne (.bi .len (.cons (.var 7) .nil)) (.bin .div (.bin .add (.bin .mul (.var 6) (.call 1 (.cons (.var 4) .nil))) (.int 3)) (.int 4))) (.one (.cmp .ne (.callK 9 (.cons (.var 3) (.cons (.var 4) (.cons (.var 6) (.cons (.var 7) .nil)))) .nil (.tup [(.int 1), (.int 2), (.int 3), (.int 4), (.int 5), (.int 6)])) (.var 5)))) (.cons (.ret (.bl false)) .nil) .nil) b_law_1a_7)
def b_law_1a_5 : Ex := (.cons (.asg (.tv 7) (.callK 8 (.cons (.var 3) (.cons (.var 4) (.cons (.var 5) .nil))) .nil (.tup [(.int 1), (.int 2), (.int 3), (.int 4), (.int 5), (.int 6)]))) b_law_1a_6)
def b_law_1a_4 : Ex := (.cons (.asg (.tv 6) (.call 15 (.cons (.var 4) (.cons (.var 5) .nil)))) b_law_1a_5)
def b_law_1a_3 : Ex := (.cons (.sif (.cmp .isn (.callK 5 (.cons (.var 4) (.cons (.var 5) .nil)) .nil (.tup [(.int 1), (.int 2), (.int 3), (.int 4), (.int 5), (.int 6)])) (.bl true)) (.cons (.ret (.bl false)) .nil) .nil) b_law_1a_4)
def b_law_1a_2 : Ex := (.cons (.asg (.tv 5) (.call 14 (.cons (.var 1) (.cons (.var 4) .nil)))) b_law_1a_3)
def b_law_1a_1 : Ex := (.cons (.asg (.tv 4) (.ix (.lst (.cons (.int 1) (.cons (.int 2) (.cons (.int 3) (.cons (.int 4) (.cons (.int 0) (.cons (.int 7) (.cons (.int 8) (.cons (.int 9) (.cons (.int 65535) (.cons (.bin .add (.int 10) (.call 11 (.cons (.var 1) (.cons (.int 60000) .nil)))) .nil))))))))))) (.call 11 (.cons (.var 1) (.cons (.int 10) .nil))))) b_law_1a_2)
def b_law_1a_0 : Ex := (.cons (.asg (.tv 3) (.ix (.lst (.cons (.str [115, 109, 97, 108, 108]) (.cons (.str [103, 114, 101, 97, 116]) .nil))) (.call 11 (.cons (.var 1) (.cons (.int 2) .nil))))) b_law_1a_1)
def b_law_1 : Ex := (.cons (.sfor (.tv 2) (.itR1 (.int 16)) b_law_1a_0) b_law_2)
def b_law_0 : Ex := (.cons (.asg (.tv 1) (.call 10 (.cons (.var 0) .nil))) b_law_1)
def f_law : Fn := ⟨1, 10, b_law_0⟩
def fns : List Fn := [f_is_whole, f_width, f_written, f_number_in, f_are_numbers, f_is_worths, f_spread, f_in_cells, f_packed, f_unpacked, f_law_pen, f_law_draw, f_law_numbers, f_law_text, f_law_plain, f_law_count, f_law_flat, f_law_orders_right, f_law_raw_right, f_law_lists_right, f_law]
theorem call_is_whole {n : Nat} {x0 x1 : D} {s : Sto} : callN fns (n + 1) 0 [x0, x1] s = ((sem (callN fns n) (.cons (.ret (.and (.isi (.var 0) .int) (.and (.not (.isi (.var 0) .bool)) (.one (.cmp2 .le .le (.int 0) (.var 0) (.var 1)))))) .nil)).s [some x0, some x1] s).bind (fun r s1 => (match r.1 with | .ret d => .ok d s1 | .nx => .ok .non s1 | _ => .bad)) := rfl
theorem call_width {n : Nat} {x0 : D} {s : Sto} : callN fns (n + 1) 1 [x0] s = ((sem (callN fns n) b_width_0).s [some x0] s).bind (fun r s1 => (match r.1 with | .ret d => .ok d s1 | .nx => .ok .non s1 | _ => .bad)) := rfl
theorem call_written {n : Nat} {x0 x1 x2 : D} {s : Sto} : callN fns (n + 1) 2 [x0, x1, x2] s = ((sem (callN fns n) b_written_0).s [some x0, some x1, some x2, none, none, none] s).bind (fun r s1 => (match r.1 with | .ret d => .ok d s1 | .nx => .ok .non s1 | _ => .bad)) := rfl
theorem call_number_in {n : Nat} {x0 x1 : D} {s : Sto} : callN fns (n + 1) 3 [x0, x1] s = ((sem (callN fns n) b_number_in_0).s [some x0, some x1, none, none] s).bind (fun r s1 => (match r.1 with | .ret d => .ok d s1 | .nx => .ok .non s1 | _ => .bad)) := rfl
theorem call_are_numbers {n : Nat} {x0 x1 x2 : D} {s : Sto} : callN fns (n + 1) 4 [x0, x1, x2] s = ((sem (callN fns n) b_are_numbers_0).s [some x0, some x1, some x2, none] s).bind (fun r s1 => (match r.1 with | .ret d => .ok d s1 | .nx => .ok .non s1 | _ => .bad)) := rfl
theorem call_is_worths {n : Nat} {x0 x1 x2 : D} {s : Sto} : callN fns (n + 1) 5 [x0, x1, x2] s = ((sem (callN fns n) b_is_worths_0).s [some x0, some x1, some x2, none, none] s).bind (fun r s1 => (match r.1 with | .ret d => .ok d s1 | .nx => .ok .non s1 | _ => .bad)) := rfl
theorem call_spread {n : Nat} {x0 x1 x2 x3 : D} {s : Sto} : callN fns (n + 1) 6 [x0, x1, x2, x3] s = ((sem (callN fns n) b_spread_0).s [some x0, some x1, some x2, some x3, none, none, none] s).bind (fun r s1 => (match r.1 with | .ret d => .ok d s1 | .nx => .ok .non s1 | _ => .bad)) := rfl
theorem call_in_cells {n : Nat} {x0 : D} {s : Sto} : callN fns (n + 1) 7 [x0] s = ((sem (callN fns n) b_in_cells_0).s [some x0, none, none] s).bind (fun r s1 => (match r.1 with | .ret d => .ok d s1 | .nx => .ok .non s1 | _ => .bad)) := rfl
theorem call_packed {n : Nat} {x0 x1 x2 x3 : D} {s : Sto} : callN fns (n + 1) 8 [x0, x1, x2, x3] s = ((sem (callN fns n) (.cons (.ret (.call 7 (.cons (.call 6 (.cons (.var 0) (.cons (.var 1) (.cons (.var 2) (.cons (.var 3) .nil))))) .nil))) .nil)).s [some x0, some x1, some x2, some x3] s).bind (fun r s1 => (match r.1 with | .ret d => .ok d s1 | .nx => .ok .non s1 | _ => .bad)) := rfl
theorem call_unpacked {n : Nat} {x0 x1 x2 x3 x4 : D} {s : Sto} : callN fns (n + 1) 9 [x0, x1, x2, x3, x4] s = ((sem (callN fns n) b_unpacked_0).s [some x0, some x1, some x2, some x3, some x4, none, none, none, none, none, none, none] s).bind (fun r s1 => (match r.1 with | .ret d => .ok d s1 | .nx => .ok .non s1 | _ => .bad)) := rfl
theorem call_law_pen {n : Nat} {x0 : D} {s : Sto} : callN fns (n + 1) 10 [x0] s = ((sem (callN fns n) Z.b_law_pen).s [some x0] s).bind (fun r s1 => (match r.1 with | .ret d => .ok d s1 | .nx => .ok .non s1 | _ => .bad)) := rfl
theorem call_law_draw {n : Nat} {x0 x1 : D} {s : Sto} : callN fns (n + 1) 11 [x0, x1] s = ((sem (callN fns n) Z.b_law_draw_0).s [some x0, some x1, none, none, none, none, none, none] s).bind (fun r s1 => (match r.1 with | .ret d => .ok d s1 | .nx => .ok .non s1 | _ => .bad)) := rfl
theorem call_law_numbers {n : Nat} {x0 x1 x2 : D} {s : Sto} : callN fns (n + 1) 12 [x0, x1, x2] s = ((sem (callN fns n) (Z.b_law_numbers_0 11)).s [some x0, some x1, some x2, none, none] s).bind (fun r s1 => (match r.1 with | .ret d => .ok d s1 | .nx => .ok .non s1 | _ => .bad)) := rfl
theorem call_law_text {n : Nat} {x0 x1 : D} {s : Sto} : callN fns (n + 1) 13 [x0, x1] s = ((sem (callN fns n) b_law_text_0).s [some x0, some x1, none, none] s).bind (fun r s1 => (match r.1 with | .ret d => .ok d s1 | .nx => .ok .non s1 | _ => .bad)) := rfl
theorem call_law_plain {n : Nat} {x0 x1 : D} {s : Sto} : callN fns (n + 1) 14 [x0, x1] s = ((sem (callN fns n) b_law_plain_0).s [some x0, some x1, none, none, none, none] s).bind (fun r s1 => (match r.1 with | .ret d => .ok d s1 | .nx => .ok .non s1 | _ => .bad)) := rfl
theorem call_law_count {n : Nat} {x0 x1 : D} {s : Sto} : callN fns (n + 1) 15 [x0, x1] s = ((sem (callN fns n) b_law_count_0).s [some x0, some x1] s).bind (fun r s1 => (match r.1 with | .ret d => .ok d s1 | .nx => .ok .non s1 | _ => .bad)) := rfl
theorem call_law_flat {n : Nat} {x0 : D} {s : Sto} : callN fns (n + 1) 16 [x0] s = ((sem (callN fns n) b_law_flat_0).s [some x0, none, none] s).bind (fun r s1 => (match r.1 with | .ret d => .ok d s1 | .nx => .ok .non s1 | _ => .bad)) := rfl
theorem call_law_orders_right {n : Nat} {x0 x1 : D} {s : Sto} : callN fns (n + 1) 17 [x0, x1] s = ((sem (callN fns n) b_law_orders_right_0).s [some x0, some x1, none, none, none, none, none, none] s).bind (fun r s1 => (match r.1 with | .ret d => .ok d s1 | .nx => .ok .non s1 | _ => .bad)) := rfl
theorem call_law_raw_right {n : Nat} {x0 x1 x2 x3 : D} {s : Sto} : callN fns (n + 1) 18 [x0, x1, x2, x3] s = ((sem (callN fns n) b_law_raw_right_0).s [some x0, some x1, some x2, some x3, none, none, none, none] s).bind (fun r s1 => (match r.1 with | .ret d => .ok d s1 | .nx => .ok .non s1 | _ => .bad)) := rfl
theorem call_law_lists_right {n : Nat} {x0 x1 : D} {s : Sto} : callN fns (n + 1) 19 [x0, x1] s = ((sem (callN fns n) b_law_lists_right_0).s [some x0, some x1, none, none, none, none] s).bind (fun r s1 => (match r.1 with | .ret d => .ok d s1 | .nx => .ok .non s1 | _ => .bad)) := rfl
theorem call_law {n : Nat} {x0 : D} {s : Sto} : callN fns (n + 1) 20 [x0] s = ((sem (callN fns n) b_law_0).s [some x0, none, none, none, none, none, none, none, none, none] s).bind (fun r s1 => (match r.1 with | .ret d => .ok d s1 | .nx => .ok .non s1 | _ => .bad)) := rfl
def top (i : Nat) : PySem.Stmt := PySem.Challenge.pw_tornentries_k10_whole_worths_there_and_b.main.body.getD i (.Pass ⟨0, 0, 0, 0⟩)
def G : Gt := { cs := [("KNOWN", c_KNOWN), ("WIDTHS", c_WIDTHS), ("OTHER_WIDTHS", c_OTHER_WIDTHS), ("BASE", c_BASE), ("CELL", c_CELL), ("MOST_COUNT", c_MOST_COUNT), ("BYTE", c_BYTE), ("TEXT", c_TEXT), ("SIGNS", c_SIGNS)], fs := ["is_whole", "width", "written", "number_in", "are_numbers", "is_worths", "spread", "in_cells", "packed", "unpacked", "_law_pen", "_law_draw", "_law_numbers", "_law_text", "_law_plain", "_law_count", "_law_flat", "_law_orders_right", "_law_raw_right", "_law_lists_right", "law"], kf := [none, none, none, none, some ("most", (.int 300)), some ("known", (.tup [(.int 1), (.int 2), (.int 3), (.int 4), (.int 5), (.int 6)])), none, none, some ("known", (.tup [(.int 1), (.int 2), (.int 3), (.int 4), (.int 5), (.int 6)])), some ("known", (.tup [(.int 1), (.int 2), (.int 3), (.int 4), (.int 5), (.int 6)])), none, none, none, none, none, none, none, none, none, none, none], ds := [("LIMITS", [(1, 256), (2, 65536), (3, 4294967296)])] }
theorem s_is_whole : DefSeen G (top 4) f_is_whole ["thing", "most"] ["thing", "most"] where
  sc := ⟨rfl, rfl, rfl, by decide +kernel, rfl, by decide +kernel, by decide +kernel⟩
  np := rfl
  nn := rfl
  ok := by decide +kernel
  bnd := fun _ _ _ _ _ _ _ us hl => match us, hl with | [_, _], _ => rfl
theorem s_width : DefSeen G (top 5) f_width ["kind"] ["kind"] where
  sc := ⟨rfl, rfl, rfl, by decide +kernel, rfl, by decide +kernel, by decide +kernel⟩
  np := rfl
  nn := rfl
  ok := by decide +kernel
  bnd := fun _ _ _ _ _ _ _ us hl => match us, hl with | [_], _ => rfl
theorem s_written : DefSeen G (top 8) f_written ["order", "number", "many", "found", "turn", "least"] ["order", "number", "many"] where
  sc := ⟨rfl, rfl, rfl, by decide +kernel, rfl, by decide +kernel, by decide +kernel⟩
  np := rfl
  nn := rfl
  ok := by decide +kernel
  bnd := fun _ _ _ _ _ _ _ us hl => match us, hl with | [_, _, _], _ => rfl
theorem s_number_in : DefSeen G (top 9) f_number_in ["order", "numbers", "found", "one"] ["order", "numbers"] where
  sc := ⟨rfl, rfl, rfl, by decide +kernel, rfl, by decide +kernel, by decide +kernel⟩
  np := rfl
  nn := rfl
  ok := by decide +kernel
  bnd := fun _ _ _ _ _ _ _ us hl => match us, hl with | [_, _], _ => rfl
theorem s_are_numbers : DefSeenK G (top 17) f_are_numbers ["thing", "limit", "most", "one"] ["thing", "limit", "most"] 2 "most" where
  sc := ⟨rfl, rfl, rfl, by decide +kernel, rfl, by decide +kernel, by decide +kernel⟩
  np := rfl
  nn := rfl
  ok := by decide +kernel
  hm := rfl
  b1 := fun _ _ _ _ _ _ _ us _ hl => match us, hl with | [_, _], _ => rfl
  b0 := fun _ _ _ _ _ _ _ us _ hl => match us, hl with | [_, _], _ => ⟨_, _, _, _, _, _, rfl, rfl, rfl⟩
theorem s_is_worths : DefSeenK G (top 18) f_is_worths ["kind", "thing", "known", "wide", "sign"] ["kind", "thing", "known"] 2 "known" where
  sc := ⟨rfl, rfl, rfl, by decide +kernel, rfl, by decide +kernel, by decide +kernel⟩
  np := rfl
  nn := rfl
  ok := by decide +kernel
  hm := rfl
  b1 := fun _ _ _ _ _ _ _ us _ hl => match us, hl with | [_, _], _ => rfl
  b0 := fun _ _ _ _ _ _ _ us _ hl => match us, hl with | [_, _], _ => ⟨_, _, _, _, _, _, rfl, rfl, rfl⟩
theorem s_spread : DefSeen G (top 19) f_spread ["order", "kind", "worths", "known", "sign", "number", "part"] ["order", "kind", "worths", "known"] where
  sc := ⟨rfl, rfl, rfl, by decide +kernel, rfl, by decide +kernel, by decide +kernel⟩
  np := rfl
  nn := rfl
  ok := by decide +kernel
  bnd := fun _ _ _ _ _ _ _ us hl => match us, hl with | [_, _, _, _], _ => rfl
theorem s_in_cells : DefSeen G (top 20) f_in_cells ["numbers", "filled", "k"] ["numbers"] where
  sc := ⟨rfl, rfl, rfl, by decide +kernel, rfl, by decide +kernel, by decide +kernel⟩
  np := rfl
  nn := rfl
  ok := by decide +kernel
  bnd := fun _ _ _ _ _ _ _ us hl => match us, hl with | [_], _ => rfl
theorem s_packed : DefSeenK G (top 21) f_packed ["order", "kind", "worths", "known"] ["order", "kind", "worths", "known"] 3 "known" where
  sc := ⟨rfl, rfl, rfl, by decide +kernel, rfl, by decide +kernel, by decide +kernel⟩
  np := rfl
  nn := rfl
  ok := by decide +kernel
  hm := rfl
  b1 := fun _ _ _ _ _ _ _ us _ hl => match us, hl with | [_, _, _], _ => rfl
  b0 := fun _ _ _ _ _ _ _ us _ hl => match us, hl with | [_, _, _], _ => ⟨_, _, _, _, _, _, rfl, rfl, rfl⟩
theorem s_unpacked : DefSeenK G (top 22) f_unpacked ["order", "kind", "count", "cells", "known", "wide", "numbers", "cell", "number", "signs", "sign", "k"] ["order", "kind", "count", "cells", "known"] 4 "known" where
  sc := ⟨rfl, rfl, rfl, by decide +kernel, rfl, by decide +kernel, by decide +kernel⟩
  np := rfl
  nn := rfl
  ok := by decide +kernel
  hm := rfl
  b1 := fun _ _ _ _ _ _ _ us _ hl => match us, hl with | [_, _, _, _], _ => rfl
  b0 := fun _ _ _ _ _ _ _ us _ hl => match us, hl with | [_, _, _, _], _ => ⟨_, _, _, _, _, _, rfl, rfl, rfl⟩
theorem s_law_pen : DefSeen G (top 24) f_law_pen ["_law_script"] ["_law_script"] where
  sc := ⟨rfl, rfl, rfl, by decide +kernel, rfl, by decide +kernel, by decide +kernel⟩
  np := rfl
  nn := rfl
  ok := by decide +kernel
  bnd := fun _ _ _ _ _ _ _ us hl => match us, hl with | [_], _ => rfl
theorem s_law_draw : DefSeen G (top 25) f_law_draw ["_law_pen_here", "_law_many", "_law_found", "_law_at", "_law_cell", "_law_whole", "_law_one", "_law_two"] ["_law_pen_here", "_law_many"] where
  sc := ⟨rfl, rfl, rfl, by decide +kernel, rfl, by decide +kernel, by decide +kernel⟩
  np := rfl
  nn := rfl
  ok := by decide +kernel
  bnd := fun _ _ _ _ _ _ _ us hl => match us, hl with | [_, _], _ => rfl
theorem s_law_numbers : DefSeen G (top 26) f_law_numbers ["_law_pen_here", "_law_many", "_law_limit", "_law_ends", "_law_k"] ["_law_pen_here", "_law_many", "_law_limit"] where
  sc := ⟨rfl, rfl, rfl, by decide +kernel, rfl, by decide +kernel, by decide +kernel⟩
  np := rfl
  nn := rfl
  ok := by decide +kernel
  bnd := fun _ _ _ _ _ _ _ us hl => match us, hl with | [_, _, _], _ => rfl
theorem s_law_text : DefSeen G (top 27) f_law_text ["_law_pen_here", "_law_many", "_law_signs", "_law_k"] ["_law_pen_here", "_law_many"] where
  sc := ⟨rfl, rfl, rfl, by decide +kernel, rfl, by decide +kernel, by decide +kernel⟩
  np := rfl
  nn := rfl
  ok := by decide +kernel
  bnd := fun _ _ _ _ _ _ _ us hl => match us, hl with | [_, _], _ => rfl
theorem s_law_plain : DefSeen G (top 28) f_law_plain ["_law_pen_here", "_law_kind", "_law_many", "_law_sizes", "_law_k", "_law_size"] ["_law_pen_here", "_law_kind"] where
  sc := ⟨rfl, rfl, rfl, by decide +kernel, rfl, by decide +kernel, by decide +kernel⟩
  np := rfl
  nn := rfl
  ok := by decide +kernel
  bnd := fun _ _ _ _ _ _ _ us hl => match us, hl with | [_, _], _ => rfl
theorem s_law_count : DefSeen G (top 29) f_law_count ["_law_kind", "_law_some"] ["_law_kind", "_law_some"] where
  sc := ⟨rfl, rfl, rfl, by decide +kernel, rfl, by decide +kernel, by decide +kernel⟩
  np := rfl
  nn := rfl
  ok := by decide +kernel
  bnd := fun _ _ _ _ _ _ _ us hl => match us, hl with | [_, _], _ => rfl
theorem s_law_flat : DefSeen G (top 30) f_law_flat ["_law_cells", "_law_found", "_law_cell"] ["_law_cells"] where
  sc := ⟨rfl, rfl, rfl, by decide +kernel, rfl, by decide +kernel, by decide +kernel⟩
  np := rfl
  nn := rfl
  ok := by decide +kernel
  bnd := fun _ _ _ _ _ _ _ us hl => match us, hl with | [_], _ => rfl
theorem s_law_orders_right : DefSeen G (top 31) f_law_orders_right ["_law_kind", "_law_some", "_law_one", "_law_other", "_law_step", "_law_size", "_law_swapped", "_law_at"] ["_law_kind", "_law_some"] where
  sc := ⟨rfl, rfl, rfl, by decide +kernel, rfl, by decide +kernel, by decide +kernel⟩
  np := rfl
  nn := rfl
  ok := by decide +kernel
  bnd := fun _ _ _ _ _ _ _ us hl => match us, hl with | [_, _], _ => rfl
theorem s_law_raw_right : DefSeen G (top 32) f_law_raw_right ["_law_order", "_law_kind", "_law_some", "_law_cells", "_law_left", "_law_one", "_law_count_here", "_law_raw"] ["_law_order", "_law_kind", "_law_some", "_law_cells"] where
  sc := ⟨rfl, rfl, rfl, by decide +kernel, rfl, by decide +kernel, by decide +kernel⟩
  np := rfl
  nn := rfl
  ok := by decide +kernel
  bnd := fun _ _ _ _ _ _ _ us hl => match us, hl with | [_, _, _, _], _ => rfl
theorem s_law_lists_right : DefSeen G (top 33) f_law_lists_right ["_law_pen_here", "_law_order", "_law_kind", "_law_raw", "_law_left", "_law_cells"] ["_law_pen_here", "_law_order"] where
  sc := ⟨rfl, rfl, rfl, by decide +kernel, rfl, by decide +kernel, by decide +kernel⟩
  np := rfl
  nn := rfl
  ok := by decide +kernel
  bnd := fun _ _ _ _ _ _ _ us hl => match us, hl with | [_, _], _ => rfl
theorem s_law : DefSeen G (top 34) f_law ["_law_script", "_law_pen_here", "_law_turn", "_law_order", "_law_kind", "_law_some", "_law_count_here", "_law_cells", "_law_more", "_law_both"] ["_law_script"] where
  sc := ⟨rfl, rfl, rfl, by decide +kernel, rfl, by decide +kernel, by decide +kernel⟩
  np := rfl
  nn := rfl
  ok := by decide +kernel
  bnd := fun _ _ _ _ _ _ _ us hl => match us, hl with | [_], _ => rfl
section
variable {K : PySem.W.Frag} {h : PySem.Heap} {mg : PySem.Str → Option PySem.Value}
theorem text (X : K.In h) (Gn : h.Ns PySem.mainGlobals mg) (z0 : CstIs K mg "KNOWN" c_KNOWN) (z1 : CstIs K mg "WIDTHS" c_WIDTHS) (z2 : CstIs K mg "OTHER_WIDTHS" c_OTHER_WIDTHS) (z3 : CstIs K mg "BASE" c_BASE) (z4 : CstIs K mg "CELL" c_CELL) (z5 : CstIs K mg "MOST_COUNT" c_MOST_COUNT) (z6 : CstIs K mg "BYTE" c_BYTE) (z7 : CstIs K mg "TEXT" c_TEXT) (z8 : CstIs K mg "SIGNS" c_SIGNS) (d0 : DefFact K "is_whole" (top 4)) (d1 : DefFact K "width" (top 5)) (d2 : DefFact K "written" (top 8)) (d3 : DefFact K "number_in" (top 9)) (d4 : DefFactK K "are_numbers" (top 17) "most" (.int 300)) (d5 : DefFactK K "is_worths" (top 18) "known" (.tup [(.int 1), (.int 2), (.int 3), (.int 4), (.int 5), (.int 6)])) (d6 : DefFact K "spread" (top 19)) (d7 : DefFact K "in_cells" (top 20)) (d8 : DefFactK K "packed" (top 21) "known" (.tup [(.int 1), (.int 2), (.int 3), (.int 4), (.int 5), (.int 6)])) (d9 : DefFactK K "unpacked" (top 22) "known" (.tup [(.int 1), (.int 2), (.int 3), (.int 4), (.int 5), (.int 6)])) (d10 : DefFact K "_law_pen" (top 24)) (d11 : DefFact K "_law_draw" (top 25)) (d12 : DefFact K "_law_numbers" (top 26)) (d13 : DefFact K "_law_text" (top 27)) (d14 : DefFact K "_law_plain" (top 28)) (d15 : DefFact K "_law_count" (top 29)) (d16 : DefFact K "_law_flat" (top 30)) (d17 : DefFact K "_law_orders_right" (top 31)) (d18 : DefFact K "_law_raw_right" (top 32)) (d19 : DefFact K "_law_lists_right" (top 33)) (d20 : DefFact K "law" (top 34)) (b0 : PySem.W.nsIn K PySem.mainGlobals "len" = some none) (b1 : PySem.W.nsIn K PySem.mainGlobals "abs" = some none) (b2 : PySem.W.nsIn K PySem.mainGlobals "int" = some none) (b3 : PySem.W.nsIn K PySem.mainGlobals "all" = some none) (b4 : PySem.W.nsIn K PySem.mainGlobals "any" = some none) (b5 : PySem.W.nsIn K PySem.mainGlobals "list" = some none) (b6 : PySem.W.nsIn K PySem.mainGlobals "tuple" = some none) (b7 : PySem.W.nsIn K PySem.mainGlobals "divmod" = some none) (b8 : PySem.W.nsIn K PySem.mainGlobals "sum" = some none) (b9 : PySem.W.nsIn K PySem.mainGlobals "min" = some none) (b10 : PySem.W.nsIn K PySem.mainGlobals "max" = some none) (b11 : PySem.W.nsIn K PySem.mainGlobals "ord" = some none) (b12 : PySem.W.nsIn K PySem.mainGlobals "chr" = some none) (b13 : PySem.W.nsIn K PySem.mainGlobals "str" = some none) (b14 : PySem.W.nsIn K PySem.mainGlobals "repr" = some none) (b15 : PySem.W.nsIn K PySem.mainGlobals "sorted" = some none) (b16 : PySem.W.nsIn K PySem.mainGlobals "isinstance" = some none) (b17 : PySem.W.nsIn K PySem.mainGlobals "range" = some none) (b18 : PySem.W.nsIn K PySem.mainGlobals "bool" = some none) (b19 : PySem.W.nsIn K PySem.mainGlobals "dict" = some none) (b20 : PySem.W.nsIn K PySem.mainGlobals "set" = some none) (b21 : PySem.W.nsIn K PySem.mainGlobals "enumerate" = some none) (b22 : PySem.W.nsIn K PySem.mainGlobals "zip" = some none) (b23 : PySem.W.nsIn K PySem.mainGlobals "reversed" = some none) (w0 : CstD K mg "LIMITS" [(1, 256), (2, 65536), (3, 4294967296)]) : TextOk K mg G fns ∧ ∃ g f fd qual st N, fns[20]? = some g ∧ G.kw 20 = none ∧ DefAt K mg G none "law" g f fd qual st N ["_law_script"] := by
  have e0 := def_at X Gn d0 s_is_whole
  have e1 := def_at X Gn d1 s_width
  have e2 := def_at X Gn d2 s_written
  have e3 := def_at X Gn d3 s_number_in
  have e4 := def_atK X Gn d4 s_are_numbers
  have e5 := def_atK X Gn d5 s_is_worths
  have e6 := def_at X Gn d6 s_spread
  have e7 := def_at X Gn d7 s_in_cells
  have e8 := def_atK X Gn d8 s_packed
  have e9 := def_atK X Gn d9 s_unpacked
  have e10 := def_at X Gn d10 s_law_pen
  have e11 := def_at X Gn d11 s_law_draw
  have e12 := def_at X Gn d12 s_law_numbers
  have e13 := def_at X Gn d13 s_law_text
  have e14 := def_at X Gn d14 s_law_plain
  have e15 := def_at X Gn d15 s_law_count
  have e16 := def_at X Gn d16 s_law_flat
  have e17 := def_at X Gn d17 s_law_orders_right
  have e18 := def_at X Gn d18 s_law_raw_right
  have e19 := def_at X Gn d19 s_law_lists_right
  have e20 := def_at X Gn d20 s_law
  refine ⟨text_ok ?_ (.cons e0 (.cons e1 (.cons e2 (.cons e3 (.cons e4 (.cons e5 (.cons e6 (.cons e7 (.cons e8 (.cons e9 (.cons e10 (.cons e11 (.cons e12 (.cons e13 (.cons e14 (.cons e15 (.cons e16 (.cons e17 (.cons e18 (.cons e19 (.cons e20 .nil))))))))))))))))))))) ?_ ?_, ?_⟩
  · rintro p hp
    repeat (first | (rcases List.mem_cons.mp hp with rfl | hp; · assumption) | cases hp)
  · rintro x hx
    repeat (first | (rcases List.mem_cons.mp hx with rfl | hx; · exact PySem.W.mg_none_of X Gn (by assumption)) | cases hx)
  · rintro p hp
    repeat (first | (rcases List.mem_cons.mp hp with rfl | hp; · assumption) | cases hp)
  · obtain ⟨f, fd, e⟩ := e20
    exact ⟨_, f, fd, _, _, _, rfl, rfl, e⟩
end
end Z.k10
namespace Z.k10
open Z PySem
theorem draws {n : Nat} : Draws (callN fns (n + 1)) 11 := by
  intro p j a m s E h ha hm hb
  rw [call_law_draw]
  exact draw_call h ha hm hb
theorem numbers {n : Nat} {p j a : Nat} {k lim : Int} {s : Sto} {E : D → Sto → Prop} (h : Pen p j a s) (hk : 0 ≤ k) (hk2 : k ≤ 1000) (ha : a + 3 * k.toNat ≤ 1000000) (hl : 2 ≤ lim) (hl2 : lim < 18446744073709551616) :
    (callN fns (n + 2) 12 [.obj p, .int k, .int lim] s).post (NumsD p j a k lim s) E := by
  rw [call_law_numbers]
  exact numbers_call draws h hk hk2 ha hl hl2
theorem whole_eq {n m w p : Nat} {d : D} {a : Int} {s : Sto} (h : Wb p s m w d) : callN fns (n + 1) 0 [d, .int a] s = .ok (.bl (whole 0 a d)) s := by
  refine post_eq ?_
  rw [call_is_whole]
  refine fin_post ?_
  refine seq_post ?_
  have h1 := h.tyI
  have h2 := h.tyB
  cases d with
  | int i =>
    simp [h1, h2, isI, isB, whole]
    by_cases h : 0 ≤ i <;> simp [h]
  | _ => simp [h1, h2, isI, isB, whole]
/-- a row of at most so many whole numbers below a limit -/
def numsB (lim most : Int) : D → Bool
  | .tup xs => decide ((xs.length : Int) ≤ most) && xs.all (whole 0 (lim - 1))
  | _ => false
theorem nums_post {n m w p : Nat} {lim most : Int} {d : D} {s : Sto} {E : D → Sto → Prop} (h : Wb p s m w d) (hl : ∀ xs, d = .tup xs → xs.length < 16777216) : (callN fns (n + 2) 4 [d, .int lim, .int most] s).post (fun r t => r = .bl (numsB lim most d) ∧ Ext s t) E := by
  rw [call_are_numbers]
  refine fin_post ?_
  unfold b_are_numbers_0
  refine seq_post ?_
  have h1 := h.tyT
  cases d with
  | tup xs =>
    obtain ⟨_, m', hx⟩ := tup_len h
    have hlt := hl xs rfl
    simp [h1, isT, bi_len_tup]
    by_cases hm : most < (xs.length : Int)
    · simp [hm, zs_cons, numsB, show ¬ (xs.length : Int) ≤ most by omega]
      exact .refl
    · simp [hm]
      unfold b_are_numbers_1
      refine seq_post ?_
      simp
      refine comp_post (s1 := s) (its := xs) (l0 := [some (.tup xs), some (.int lim), some (.int most), none]) (fun k acc t => acc = ((xs.map (whole 0 (lim - 1))).take k).map .bl ∧ Ext s t) (by simp) rfl ?_ ?_ ?_
      · rintro k d acc t hk ⟨rfl, h3⟩ hq
        have hkl := (List.getElem?_eq_some_iff.mp hk).1
        obtain ⟨v, hd⟩ := wms_get hx hk
        have hd' := hd.ext h3
        simp [isNil, whole_eq hd']
        refine ⟨by simpa using hq, by omega, ?_, h3.set (Nat.le_refl _)⟩
        rw [List.take_succ]
        simp [hk]
      · rintro acc t ⟨rfl, h3⟩ hq
        rw [List.take_of_length_le (by simp)] at hq
        rw [all_bls hq]
        simp [numsB, show (xs.length : Int) ≤ most by omega]
        exact h3
      · exact ⟨by simp, .app⟩
  | _ => simp [h1, isT, zs_cons, numsB]; exact .refl
theorem inF_ints {k : Int} {K : List Int} : inF (.int k) (K.map .int) = decide (k ∈ K) := by
  induction K with
  | nil => rfl
  | cons z K ih =>
    unfold inF at ih ⊢
    rw [List.map_cons, List.any_cons, ih, Bool.eq_iff_iff]
    simp only [eqF, Bool.or_eq_true, beq_iff_eq, decide_eq_true_eq, List.mem_cons]
    constructor
    · rintro (h | h)
      · exact .inl h.symm
      · exact .inr h
    · rintro (h | h)
      · exact .inl h.symm
      · exact .inr h
theorem flat_ints {K : List Int} : (K.map D.int).all flatD = true := by
  rw [List.all_eq_true]
  intro d hd
  obtain ⟨z, _, rfl⟩ := List.mem_map.mp hd
  rfl
theorem opIn_tup {k : Int} {K : List Int} {s : Sto} : opIn (.int k) (.tup (K.map .int)) s = some (decide (k ∈ K)) := by
  show (if flatD (.int k) = true ∧ (K.map D.int).all flatD = true then some (inF (.int k) (K.map D.int)) else none) = _
  rw [if_pos ⟨rfl, flat_ints⟩, inF_ints]
theorem mem_tup {k : Int} {K : List Int} {s : Sto} : cmp .mem (.int k) (.tup (K.map .int)) s = .ok (.bl (decide (k ∈ K))) s := by
  show (match opIn (.int k) (.tup (K.map .int)) s with | some b => R.ok (D.bl b) s | none => .bad) = _
  rw [opIn_tup]
theorem nmem_tup {k : Int} {K : List Int} {s : Sto} : cmp .nmem (.int k) (.tup (K.map .int)) s = .ok (.bl (!decide (k ∈ K))) s := by
  show (match (opIn (.int k) (.tup (K.map .int)) s).map (!·) with | some b => R.ok (D.bl b) s | none => .bad) = _
  rw [opIn_tup]; rfl
def due (k : Int) : Int := if 1 ≤ k ∧ k ≤ 6 then (if k = 1 ∨ k = 4 then 1 else if k = 2 then 2 else 4) else (if k % 3 = 0 then 1 else if k % 3 = 1 then 2 else 4)
theorem due_or (k : Int) : due k = 1 ∨ due k = 2 ∨ due k = 4 := by unfold due; split <;> split <;> (try split) <;> simp
theorem six {k : Int} : k ∈ [1, 2, 3, 4, 5, 6] ↔ 1 ≤ k ∧ k ≤ 6 := by
  simp only [List.mem_cons, List.not_mem_nil, or_false]; omega
theorem in_known {k : Int} {s : Sto} : cmp .mem (.int k) c_KNOWN s = .ok (.bl (decide (1 ≤ k ∧ k ≤ 6))) s := by
  have e := mem_tup (k := k) (K := [1, 2, 3, 4, 5, 6]) (s := s)
  rw [show decide (k ∈ [1, 2, 3, 4, 5, 6]) = decide (1 ≤ k ∧ k ≤ 6) from decide_eq_decide.mpr six] at e
  exact e
theorem width_eq {n : Nat} {k : Int} {s : Sto} (h0 : 0 ≤ k) : callN fns (n + 1) 1 [.int k] s = .ok (.int (due k)) s := by
  refine post_eq ?_
  rw [call_width]
  refine fin_post ?_
  unfold b_width_0
  refine seq_post ?_
  by_cases hk : 1 ≤ k ∧ k ≤ 6
  · simp [in_known, hk, zs_cons]
    have : k = 1 ∨ k = 2 ∨ k = 3 ∨ k = 4 ∨ k = 5 ∨ k = 6 := by omega
    rcases this with rfl | rfl | rfl | rfl | rfl | rfl <;> exact ⟨rfl, rfl⟩
  · simp [in_known, hk]
    unfold b_width_1
    refine seq_post ?_
    have l3 : biF .len [c_OTHER_WIDTHS] s = .ok (.int 3) s := rfl
    simp [l3]
    rw [bin_mod (by omega)]
    have e : due k = if k % 3 = 0 then 1 else if k % 3 = 1 then 2 else 4 := if_neg hk
    rw [e]
    have : k % 3 = 0 ∨ k % 3 = 1 ∨ k % 3 = 2 := by omega
    rcases this with h | h | h <;> simp only [h, post_ok] <;> exact ⟨rfl, rfl⟩
def signs : List Nat := [32, 45, 46, 48, 49, 50, 51, 52, 53, 54, 55, 56, 57, 65, 66, 67, 68, 69, 70, 71, 72, 73, 74, 75, 76, 77, 78, 79, 80, 81, 82, 83, 84, 85, 86, 87, 88, 89, 90, 97, 98, 99, 100, 101, 102, 103, 104, 105, 106, 107, 108, 109, 110, 111, 112, 113, 114, 115, 116, 117, 118, 119, 120, 121, 122]
def lim (k : Int) : Int := if k = 1 then 256 else if k = 2 then 65536 else 4294967296
def modB (w : Int) : D → Bool
  | .tup xs => decide ((xs.length : Int) % w = 0)
  | _ => false
def textB : D → Bool
  | .str z => decide (z.length ≤ 300) && z.all (fun c => decide (c ∈ signs))
  | _ => false
/-- whether d is worths of kind k, known or not -/
def worB (k : Int) (kn : Bool) (d : D) : Bool := if kn = true then (if k = 4 then textB d else numsB (lim k) 300 d) else numsB 256 (300 * due k) d && modB (due k) d
def isS : D → Bool
  | .str _ => true
  | _ => false
theorem tyS {p : Nat} {s : Sto} {n w : Nat} {d : D} (h : Wb p s n w d) : isTy .str d s = some (isS d) := by
  cases h <;> simp_all [isTy, isS] <;> rfl
theorem in_signs {c : Nat} {s : Sto} : cmp .mem (.str [c]) c_SIGNS s = .ok (.bl (decide (c ∈ signs))) s := rfl
theorem numsB_tup {l m : Int} {d : D} (h : numsB l m d = true) : ∃ xs, d = .tup xs := by
  cases d with
  | tup xs => exact ⟨xs, rfl⟩
  | _ => cases h
def IS (z : List Nat) (s : Sto) (k : Nat) (acc : List D) (t : Sto) : Prop := acc = ((z.map fun c => decide (c ∈ signs)).take k).map .bl ∧ Ext s t
theorem worths_post {n m w p : Nat} {k : Int} {K : List Int} {d : D} {s : Sto} {E : D → Sto → Prop} (h : Wb p s m w d) (hw : w < 16777216) (h0 : 0 ≤ k) (hk : k ∈ K → 1 ≤ k ∧ (k ≤ 4)) :
    (callN fns (n + 3) 5 [.int k, d, .tup (K.map .int)] s).post (fun r t => r = .bl (worB k (decide (k ∈ K)) d) ∧ Ext s t) E := by
  have hl : ∀ xs, d = .tup xs → xs.length < 16777216 := by rintro xs rfl; have := (tup_len h).1; omega
  rw [call_is_worths]
  refine fin_post ?_
  unfold b_is_worths_0
  refine seq_post ?_
  by_cases hm : k ∈ K
  · obtain ⟨k1, k4⟩ := hk hm
    simp [nmem_tup, hm]
    unfold b_is_worths_1
    refine seq_post ?_
    by_cases k4' : k = 4
    · subst k4'
      have ts := tyS h
      simp [c_TEXT, zs_cons, ts]
      cases d with
      | str z =>
        have hz : z.length < 16777216 := by cases h; omega
        have lz : ∀ s, biF .len [.str z] s = .ok (.int z.length) s := fun s => if_pos (by show z.length ≤ 16777216; omega)
        simp [isS, lz, c_MOST_COUNT]
        by_cases hz3 : (z.length : Int) ≤ 300
        · simp [hz3]
          refine comp_post (s1 := s) (its := z.map fun c => D.str [c]) (l0 := [some (.int 4), some (.str z), some (.tup (K.map .int)), none, none]) (IS z s) (by simp) rfl ?_ ?_ ?_
          · rintro j d acc t hj ⟨rfl, h3⟩ hq
            rw [List.getElem?_map] at hj
            simp only [Option.map_eq_some_iff] at hj
            obtain ⟨c, hc, rfl⟩ := hj
            have hjl := (List.getElem?_eq_some_iff.mp hc).1
            simp [isNil, in_signs]
            refine ⟨by simpa using hq, by omega, ?_, h3.set (Nat.le_refl _)⟩
            rw [List.take_add_one]
            simp [hc]
          · rintro acc t ⟨rfl, h3⟩ hq
            rw [List.take_of_length_le (by simp)] at hq
            rw [all_bls hq]
            simp [worB, textB, show z.length ≤ 300 by omega]
            exact h3
          · exact ⟨by simp, .app⟩
        · simp [hz3, worB, textB, show ¬ z.length ≤ 300 by omega]
          exact .refl
      | _ => simp [isS, worB, textB]; exact .refl
    · simp [c_TEXT, k4']
      unfold b_is_worths_2
      refine seq_post ?_
      have e : List.find? (fun kv : Int × Int => decide (kv.1 = k)) [(1, 256), (2, 65536), (3, 4294967296)] = some (k, lim k) := by
        have : k = 1 ∨ k = 2 ∨ k = 3 := by omega
        rcases this with rfl | rfl | rfl <;> rfl
      simp
      rw [e]
      simp only [post_ok]
      refine R.post_mono (nums_post (n := n) (lim := lim k) (most := 300) h hl) ?_ fun _ _ h => h
      rintro r s1 ⟨rfl, e1⟩
      exact ⟨by simp [worB, k4'], e1⟩
  · simp [nmem_tup, hm, zs_cons]
    unfold b_is_worths_0a_0
    refine seq_post ?_
    simp [width_eq h0]
    unfold b_is_worths_0a_1
    refine seq_post ?_
    simp [c_BYTE, c_MOST_COUNT, bin_mulL]
    refine R.post_mono (nums_post (n := n) (lim := 256) (most := 300 * due k) h hl) ?_ fun _ _ h => h
    rintro r s1 ⟨rfl, e1⟩
    cases hb : numsB 256 (300 * due k) d with
    | false => simp [worB, hb]; exact e1
    | true =>
      obtain ⟨xs, rfl⟩ := numsB_tup hb
      have hd : 0 < due k := by have := due_or k; omega
      simp [bi_len_tup, bin_mod hd]
      exact ⟨by simp [worB, hb, modB], e1⟩
def tSig : List Nat := [32, 97, 122, 65, 90, 48, 57, 46, 45]
theorem strs_map (z : List Nat) : strs? (z.map fun c => D.str [c]) = some (z.map fun c => [c]) := by
  induction z with
  | nil => rfl
  | cons c z ih => simp only [List.map_cons, strs?, ih]; rfl
theorem join_map (z : List Nat) : joinD [] (z.map fun c => [c]) = z := by
  cases z with
  | nil => rfl
  | cons c z =>
    show (z.map fun c => [c]).foldl (fun acc p => acc ++ [] ++ p) [c] = c :: z
    suffices h : ∀ (z a : List Nat), (z.map fun c => [c]).foldl (fun acc p => acc ++ [] ++ p) a = a ++ z by
      simpa using h z [c]
    intro z
    induction z with
    | nil => intro a; simp
    | cons y z ih => intro a; rw [List.map_cons, List.foldl_cons, ih]; simp
theorem join_eq {q : Nat} {z : List Nat} {s : Sto} (h : s[q]? = some (.lst (z.map fun c => D.str [c]))) (hz : z.length ≤ 16777216) : mth .join (.str []) [.obj q] s = .ok (.str z) s := by
  have e : ((z.map fun c => [c]).map (·.length)).sum = z.length := by
    rw [List.map_map]
    clear h hz
    induction z with
    | nil => rfl
    | cons c z ih => rw [List.map_cons, List.sum_cons, ih]; simp; omega
  simp only [mth, h, strs_map]
  rw [if_pos (by rw [e]; simp only [List.length_nil, Nat.mul_zero, Nat.add_zero]; exact hz), join_map]
def TxD (p j a k : Nat) (s : Sto) (d : D) (t : Sto) : Prop := ∃ z : List Nat, d = .str z ∧ z.length = k ∧ (∀ c ∈ z, c ∈ tSig) ∧ Pen p j (a + k) t ∧ Kp p s t
def IX (p j a : Nat) (s : Sto) (k : Nat) (acc : List D) (t : Sto) : Prop := (∃ z : List Nat, acc = (z.map fun c => D.str [c]) ∧ z.length = k ∧ ∀ c ∈ z, c ∈ tSig) ∧ Pen p j (a + k) t ∧ Kp p s t
theorem text_post {n p j a : Nat} {k : Int} {s : Sto} {E : D → Sto → Prop} (h : Pen p j a s) (h0 : 0 ≤ k) (hk : k ≤ 1000) (ha : a ≤ 800000) : (callN fns (n + 2) 13 [.obj p, .int k] s).post (TxD p j a k.toNat s) E := by
  rw [call_law_text]
  refine fin_post ?_
  unfold b_law_text_0
  refine seq_post ?_
  simp
  unfold b_law_text_1
  refine seq_post ?_
  simp only [zs_ret, ze_mt, post_bindS]
  simp [mtOk]
  refine comp_post (s1 := s) (its := rng 0 k) (l0 := [some (.obj p), some (.int k), some (.str [32, 97, 122, 65, 90, 48, 57, 46, 45]), none]) (IX p j a s) ?_ rfl ?_ ?_ ?_
  · simp [rgOkI (a := 0) (b := k) (by omega) (by omega) (by omega) (by omega)]
  · rintro i d acc t hi ⟨⟨z, rfl, hn, hb⟩, hp, hk⟩ hqa
    obtain ⟨rfl, hik⟩ := rng_get hi
    have lp := h.lt
    generalize hd3 : D.int (0 + (i : Int)) = d3
    simp [isNil]
    refine R.post_mono (draws hp (by omega) (by omega) (by omega)) ?_ fun _ _ h => h
    rintro d s2 ⟨u, rfl, u1, u2, p2, k2⟩
    have g := k2.old _ _ (by omega) hqa
    obtain ⟨c, hc, c1⟩ : ∃ c : Nat, opIx (.str [32, 97, 122, 65, 90, 48, 57, 46, 45]) (.int u) s2 = .ok (.str [c]) s2 ∧ c ∈ tSig := by
      have : u = 0 ∨ u = 1 ∨ u = 2 ∨ u = 3 ∨ u = 4 ∨ u = 5 ∨ u = 6 ∨ u = 7 ∨ u = 8 := by omega
      rcases this with rfl | rfl | rfl | rfl | rfl | rfl | rfl | rfl | rfl <;> exact ⟨_, rfl, by decide⟩
    rw [hc]
    simp only [post_ok]
    refine ⟨g, by omega, ⟨z ++ [c], by simp, by simp [hn], ?_⟩, ?_, ?_⟩
    · intro x hx
      rcases List.mem_append.mp hx with hx | hx
      · exact hb x hx
      · simp at hx; subst hx; exact c1
    · exact (p2.set (by omega) (by omega)).le (by omega)
    · exact kp_put (hk.trans k2) (Nat.le_refl _)
  · rintro acc t ⟨⟨z, rfl, hn, hb⟩, hp, hk⟩ hqa
    rw [rng_len] at hn hp
    rw [join_eq hqa (by omega)]
    exact ⟨z, rfl, by omega, hb, hp.le (by omega), hk⟩
  · exact ⟨⟨[], rfl, rfl, by simp⟩, h.app, .app⟩
/-- a number's parts to the base 256, the least first -/
def dg : Nat → Int → List Int
  | 0, _ => []
  | k + 1, x => x % 256 :: dg k (x / 256)
abbrev great : List Nat := [103, 114, 101, 97, 116]
abbrev small : List Nat := [115, 109, 97, 108, 108]
def wr (o : List Nat) (k : Nat) (x : Int) : List Int := if o = great then (dg k x).reverse else dg k x
theorem dg_len : ∀ (k : Nat) (x : Int), (dg k x).length = k
  | 0, _ => rfl
  | k + 1, x => by simp [dg, dg_len k]
theorem dg_bd : ∀ (k : Nat) (x : Int), ∀ i ∈ dg k x, 0 ≤ i ∧ i < 256
  | 0, _, _, h => by simp [dg] at h
  | k + 1, x, i, h => by
    simp only [dg, List.mem_cons] at h
    rcases h with rfl | h
    · omega
    · exact dg_bd k _ i h
theorem wr_len {o : List Nat} {k : Nat} {x : Int} : (wr o k x).length = k := by unfold wr; split <;> simp [dg_len]
/-- 'written', ahead of turn j -/
def IW (o : List Nat) (x k : Int) (s : Sto) (j : Nat) (l : Lo) (t : Sto) : Prop :=
  ∃ (y : Int) (acc : List Int) (v4 v5 : Option D), l = [some (.str o), some (.int y), some (.int k), some (.obj s.length), v4, v5] ∧ t = s ++ [.lst (acc.map .int)] ∧ acc ++ dg (k.toNat - j) y = dg k.toNat x ∧ acc.length = j ∧ j ≤ k.toNat
theorem written_eq {n : Nat} {o : List Nat} {x k : Int} {s : Sto} (h0 : 0 ≤ k) (h1 : k ≤ 1000) :
    callN fns (n + 1) 2 [.str o, .int x, .int k] s = .ok (.tup ((wr o k.toNat x).map .int)) (s ++ [.lst ((wr o k.toNat x).map .int)]) := by
  refine post_eq ?_
  rw [call_written]
  refine fin_post ?_
  unfold b_written_0
  refine seq_post ?_
  simp [line]
  unfold b_written_1
  refine seq_post ?_
  simp [rgOkI (a := 0) (b := k) (by omega) (by omega) (by omega) (by omega)]
  refine for_post (IW o x k s) ?_ ?_ ?_
  · rintro j d l t hj ⟨y, acc, v4, v5, rfl, rfl, e, e2, hjk⟩
    obtain ⟨rfl, hj⟩ := rng_get hj
    simp
    unfold b_written_1a_0
    refine seq_post ?_
    simp [c_BASE]
    unfold b_written_1a_1
    refine seq_post ?_
    simp
    rw [append_last (by simp; omega)]
    simp
    refine ⟨y / 256, acc ++ [y % 256], _, _, rfl, by simp, ?_, by simp [e2], by omega⟩
    rw [← e, show k.toNat - j = (k.toNat - (j + 1)) + 1 by omega, dg]
    simp
  · rintro l t ⟨y, acc, v4, v5, rfl, rfl, e, e2, hjk⟩
    rw [rng_len] at e e2 hjk
    have e3 : acc = dg k.toNat x := by
      rw [← e]; simp [dg]
    simp only
    unfold b_written_2
    refine seq_post ?_
    simp
    have hd : wr o k.toNat x = if o = great then acc.reverse else acc := by rw [e3]; rfl
    split
    · rename_i ho
      rw [if_pos ho] at hd
      simp [zs_cons]
      unfold b_written_3
      refine seq_post ?_
      simp [hd]
    · rename_i ho
      rw [if_neg ho] at hd
      simp
      unfold b_written_3
      refine seq_post ?_
      simp [hd]
  · exact ⟨x, [], none, none, rfl, rfl, by simp, rfl, by omega⟩
theorem wr_bd {o : List Nat} {k : Nat} {x : Int} : ∀ i ∈ wr o k x, 0 ≤ i ∧ i < 256 := by
  intro i hi
  unfold wr at hi
  split at hi
  · exact dg_bd k x i (by simpa using hi)
  · exact dg_bd k x i hi
def w3 (k : Int) : Int := if k % 3 = 0 then 1 else if k % 3 = 1 then 2 else 4
/-- worths of a sort k, at most N of them -/
inductive PlK (k : Int) (N : Nat) : D → Prop
  | txt (z : List Nat) : k = 4 → z.length ≤ N → (∀ c ∈ z, c ∈ tSig) → PlK k N (.str z)
  | num (ns : List Int) : (k = 1 ∨ k = 2 ∨ k = 3) → ns.length ≤ N → (∀ z ∈ ns, 0 ≤ z ∧ z < lim k) → PlK k N (.tup (ns.map .int))
  | raw (ns : List Int) : k ≠ 4 → ¬ (k = 1 ∨ k = 2 ∨ k = 3) → ns.length ≤ N → (ns.length : Int) % w3 k = 0 → (∀ z ∈ ns, 0 ≤ z ∧ z < 256) → PlK k N (.tup (ns.map .int))
def PlD (p j a : Nat) (k : Int) (N : Nat) (s : Sto) (d : D) (t : Sto) : Prop := PlK k N d ∧ Pen p j a t ∧ Kp p s t
theorem plain_post {n p j a : Nat} {k : Int} {s : Sto} {E : D → Sto → Prop} (h : Pen p j a s) (ha : a ≤ 700000) (h0 : 0 ≤ k) (h6 : k ≠ 6) : (callN fns (n + 3) 14 [.obj p, .int k] s).post (PlD p j (a + 150) k 40 s) E := by
  rw [call_law_plain]
  refine fin_post ?_
  unfold b_law_plain_0
  refine seq_post ?_
  simp
  refine R.post_mono (draws h (by omega) (by omega) (by omega)) ?_ fun _ _ h => h
  rintro d s1 ⟨u, rfl, u1, u2, p1, k1⟩
  simp [line]
  refine R.post_mono (draws (p1.app) (by omega) (by omega) (by omega)) ?_ fun _ _ h => h
  rintro d s2 ⟨v, rfl, v1, v2, p2, k2⟩
  have lp := p1.lt
  have g2 := k2.old s1.length _ (by omega) get_last
  obtain ⟨m, hm, m0, m1⟩ : ∃ m : Int, L2.atI [D.int 0, .int 1, .int 1, .int 2, .int 3, .int 4, .int 5, .int (2 + u)] v = some (.int m) ∧ 0 ≤ m ∧ m ≤ 10 := by
    have : v = 0 ∨ v = 1 ∨ v = 2 ∨ v = 3 ∨ v = 4 ∨ v = 5 ∨ v = 6 ∨ v = 7 := by omega
    rcases this with rfl | rfl | rfl | rfl | rfl | rfl | rfl | rfl
    · exact ⟨0, rfl, by omega, by omega⟩
    · exact ⟨1, rfl, by omega, by omega⟩
    · exact ⟨1, rfl, by omega, by omega⟩
    · exact ⟨2, rfl, by omega, by omega⟩
    · exact ⟨3, rfl, by omega, by omega⟩
    · exact ⟨4, rfl, by omega, by omega⟩
    · exact ⟨5, rfl, by omega, by omega⟩
    · exact ⟨2 + u, rfl, by omega, by omega⟩
  rw [ix_lst g2, hm]
  simp
  have ks := k1.trans (Kp.app.trans k2)
  clear g2 hm k1 k2 p1
  unfold b_law_plain_1
  refine seq_post ?_
  by_cases k4 : k = 4
  · simp [k4, zs_cons]
    refine R.post_mono (text_post p2 m0 (by omega) (by omega)) ?_ fun _ _ h => h
    rintro d s3 ⟨z, rfl, hz, hb, p3, k3⟩
    exact ⟨.txt z rfl (by omega) hb, p3.le (by omega), ks.trans k3⟩
  · simp [k4]
    unfold b_law_plain_2
    refine seq_post ?_
    simp [h6]
    unfold b_law_plain_3
    refine seq_post ?_
    have mk : ∀ s, cmp .mem (.int k) (.tup [.int 1, .int 2, .int 3]) s = .ok (.bl (decide (k ∈ [1, 2, 3]))) s := fun s => mem_tup (K := [1, 2, 3])
    have e2 : ∀ s, bin .pow (.int 2) (.int 32) s = .ok (.int 4294967296) s := fun s => by
      rw [bin_pow (by omega) (by omega) (by decide)]
      have : (2 : Int) ^ (32 : Int).toNat = 4294967296 := by simp
      rw [this]
    by_cases hk : k ∈ [1, 2, 3]
    · simp only [zs_if, ze_cmp, ze_var, ze_tup, zl_cons, zl_nil, ze_int, post_bindS]
      simp [mk, hk, line, zs_cons, e2]
      have e : opIx (.obj s2.length) (.int (k - 1)) (s2 ++ [MO.lst [D.int 256, D.int 65536, D.int 4294967296]]) = .ok (.int (lim k)) (s2 ++ [MO.lst [D.int 256, D.int 65536, D.int 4294967296]]) ∧ 2 ≤ lim k ∧ lim k ≤ 4294967296 := by
        have : k = 1 ∨ k = 2 ∨ k = 3 := by simpa using hk
        rcases this with rfl | rfl | rfl
        · exact ⟨by rw [ix_lst get_last]; rfl, by decide, by decide⟩
        · exact ⟨by rw [ix_lst get_last]; rfl, by decide, by decide⟩
        · exact ⟨by rw [ix_lst get_last]; rfl, by decide, by decide⟩
      obtain ⟨e, e3, e4⟩ := e
      rw [e]
      simp only [post_ok]
      refine R.post_mono (numbers (n := n) (p2.app) m0 (by omega) (by omega) e3 (by omega)) ?_ fun _ _ h => h
      rintro d s3 ⟨N, rfl, hN, bN, p3, k3⟩
      exact ⟨.num N (by simpa using hk) (by omega) bN, p3.le (by omega), ks.trans (Kp.app.trans k3)⟩
    · simp only [zs_if, ze_cmp, ze_var, ze_tup, zl_cons, zl_nil, ze_int, post_bindS]
      simp [mk, hk, line]
      unfold b_law_plain_4
      refine seq_post ?_
      simp [line]
      rw [bin_mod (by omega)]
      simp only [post_ok]
      obtain ⟨v, hv, e, v0, v4⟩ : ∃ v, v = w3 k ∧ opIx (.obj s2.length) (.int (k % 3)) (s2 ++ [MO.lst [D.int 1, D.int 2, D.int 4]]) = .ok (.int v) (s2 ++ [MO.lst [D.int 1, D.int 2, D.int 4]]) ∧ 0 < v ∧ v ≤ 4 := by
        unfold w3
        have : k % 3 = 0 ∨ k % 3 = 1 ∨ k % 3 = 2 := by omega
        rcases this with h | h | h
        · exact ⟨1, by simp [h], by rw [ix_lst get_last, h]; rfl, by omega, by omega⟩
        · exact ⟨2, by simp [h], by rw [ix_lst get_last, h]; rfl, by omega, by omega⟩
        · exact ⟨4, by simp [h], by rw [ix_lst get_last, h]; rfl, by omega, by omega⟩
      rw [e]
      have hmv : 0 ≤ m * v := Int.mul_nonneg m0 (by omega)
      have hmv2 : m * v ≤ 40 := by
        have : m * v ≤ 10 * 4 := Int.mul_le_mul m1 v4 (by omega) (by omega)
        omega
      have em : ∀ s, bin .mul (.int m) (.int v) s = .ok (.int (m * v)) s := fun s => if_pos (by unfold big; omega)
      simp [em]
      refine R.post_mono (numbers (n := n) (p2.app) hmv (by omega) (by omega) (by omega) (by omega)) ?_ fun _ _ h => h
      rintro d s3 ⟨N, rfl, hN, bN, p3, k3⟩
      refine ⟨.raw N k4 (by simpa using hk) (by omega) ?_ bN, p3.le (by omega), ks.trans (Kp.app.trans k3)⟩
      rw [← hv, show (N.length : Int) = m * v by omega]
      exact Int.mul_emod_left m v
theorem set_same {k : Nat} {s : Sto} {o : MO} (h : s[k]? = some o) : setO k o s = s := by
  unfold setO
  apply List.ext_getElem?
  intro i
  by_cases e : k = i
  · subst e
    have := (List.getElem?_eq_some_iff.mp h).1
    rw [List.getElem?_set_self this, h]
  · rw [List.getElem?_set_ne e]
theorem set_set {k : Nat} {s : Sto} {o u : MO} : setO k o (setO k u s) = setO k o s := by
  unfold setO; rw [List.set_set]
theorem comA_id {k i : Nat} {l : Lo} {all : List D} (hi : i < l.length) {cl : Cl} : ∀ (its acc : List D) (s : Sto), s[k]? = some (.lst acc) → acc.length + its.length ≤ 16777216 →
    comA ⟨all, none⟩ l (sem cl (.tv i)).t (sem cl (.var i)).e k its acc s = .ok (acc ++ its) (setO k (.lst (acc ++ its)) s)
  | [], acc, s, h, _ => by
    unfold comA
    rw [if_pos ⟨rfl, h⟩, List.append_nil, set_same h]
  | d :: ds, acc, s, h, hl => by
    unfold comA
    simp only [List.length_cons] at hl
    rw [if_pos ⟨rfl, h⟩]
    have e1 : (l.set i (some d))[i]? = some (some d) := List.getElem?_set_self hi
    simp only [zt_tv, R.bind_ok, ze_var, e1]
    rw [if_pos ⟨h, by show acc.length < 16777216; omega⟩, comA_id hi ds (acc ++ [d]) _ (get_set (lt_of_get h)) (by simp; omega), set_set, List.append_assoc]
    rfl
theorem com2_post {its : List D} {l : Lo} {t t2 : D → Lo → Sto → R Lo} {w2 : Lo → Sto → R Src} {own2 : List Nat} {e : Lo → Sto → R D} {k : Nat} {F : D → Sto → Prop} (I : Nat → List D → Sto → Prop)
    (step : ∀ j d acc s, its[j]? = some d → I j acc s → s[k]? = some (.lst acc) → (t d l s).post (fun l1 s1 => (w2 l1 s1).post (fun src2 s2 => (comA src2 (wipe l1 own2) t2 e k src2.its acc s2).post (fun acc2 s3 => s3[k]? = some (.lst acc2) ∧ I (j + 1) acc2 s3) F) F) F) :
    ∀ (n i : Nat) (acc : List D) (s : Sto), i + n = its.length → I i acc s → s[k]? = some (.lst acc) → (com2 ⟨its, none⟩ l t w2 own2 t2 e k (its.drop i) acc s).post (fun _ s' => ∃ acc', I its.length acc' s' ∧ s'[k]? = some (.lst acc')) F := by
  intro n
  induction n with
  | zero =>
    intro i acc s hi h g
    have : i = its.length := by omega
    subst this
    rw [List.drop_length]
    unfold com2
    rw [if_pos ⟨rfl, g⟩]
    exact ⟨acc, h, g⟩
  | succ n ih =>
    intro i acc s hi h g
    have hl : i < its.length := by omega
    rw [List.drop_eq_getElem_cons hl]
    unfold com2
    rw [if_pos ⟨rfl, g⟩, R.post_bind]
    refine R.post_mono (step i its[i] acc s (by simp [hl]) h g) (fun l1 s1 h1 => ?_) fun _ _ x => x
    rw [R.post_bind]
    refine R.post_mono h1 (fun src2 s2 h2 => ?_) fun _ _ x => x
    rw [R.post_bind]
    refine R.post_mono h2 (fun acc2 s3 h3 => ?_) fun _ _ x => x
    exact ih (i + 1) acc2 s3 (by omega) h3.2 h3.1
def chunk (F : List Int) (i : Nat) : List D := ((F.drop (4 * i)).take 4).map .int
def cellsD (F : List Int) : List D := (List.range (F.length / 4)).map fun i => D.tup (chunk F i)
def fill (P : List Int) : List Int := P ++ List.replicate ((4 - P.length % 4) % 4) 0
theorem fill_mod (P : List Int) : (fill P).length % 4 = 0 := by
  unfold fill
  rw [List.length_append, List.length_replicate]
  omega
theorem rgN4 {n : Nat} (h : n % 4 = 0) : rgN 0 (n : Int) 4 = n / 4 := by
  unfold rgN
  split <;> omega
def IC (F : List Int) (q : Nat) (s : Sto) (k : Nat) (acc : List D) (t : Sto) : Prop := acc = (List.range k).map (fun i => D.tup (chunk F i)) ∧ Ext s t
theorem cells_comp {cl : Cl} {e tg it : Ex} {own : List Nat} {l : Lo} {s : Sto} {q : Nat} {F : List Int} {lt : D → Lo} {E : D → Sto → Prop} (g : s[q]? = some (.lst (F.map .int))) (hF : F.length % 4 = 0) (hFl : F.length ≤ 100000)
    (hit : (sem cl it).w l s = .ok ⟨rng3 0 (F.length : Int) 4, none⟩ s) (htg : ∀ d t, (sem cl tg).t d (wipe l own) t = .ok (lt d) t)
    (he : ∀ (i : Nat) (t : Sto), t[q]? = some (.lst (F.map .int)) → 4 * i + 4 ≤ F.length → (sem cl e).e (lt (.int ((i : Int) * 4))) t = .ok (.tup (chunk F i)) (t ++ [.lst (chunk F i)])) :
    ((sem cl (.comp e tg it .nil own)).e l s).post (fun d t => d = .obj s.length ∧ t[s.length]? = some (.lst (cellsD F)) ∧ Ext s t) E := by
  refine comp_post (s1 := s) (IC F q s) hit rfl ?_ ?_ ⟨rfl, .app⟩
  · rintro k d acc t hk ⟨rfl, h3⟩ hq
    have hkl : k < F.length / 4 := by
      have := (List.getElem?_eq_some_iff.mp hk).1
      unfold rng3 at this
      rw [List.length_map, List.length_range, rgN4 hF] at this
      exact this
    have ed : d = .int ((k : Int) * 4) := by
      unfold rng3 at hk
      rw [List.getElem?_map, List.getElem?_range (by rw [rgN4 hF]; exact hkl)] at hk
      cases hk
      exact congrArg D.int (Int.zero_add _)
    subst ed
    have gt := h3 _ _ g
    simp [isNil, htg]
    rw [he k t gt (by omega)]
    simp only [post_ok]
    refine ⟨keep_app hq, by omega, ?_, (h3.trans .app).set (Nat.le_refl _)⟩
    rw [List.range_succ, List.map_append]; rfl
  · rintro acc t ⟨rfl, h3⟩ hq
    have el : (rng3 0 (F.length : Int) 4).length = F.length / 4 := by
      unfold rng3
      rw [List.length_map, List.length_range, rgN4 hF]
    rw [el] at hq
    exact ⟨rfl, hq, h3⟩
theorem chunk_sl {q i : Nat} {F : List Int} {t : Sto} {a b : Int} (g : t[q]? = some (.lst (F.map .int))) (h : 4 * i + 4 ≤ F.length) (ha : a = 4 * i) (hb : b = 4 * i + 4) : opSl (.obj q) (some a) (some b) t = .ok (.obj t.length) (t ++ [.lst (chunk F i)]) := by
  rw [sl_lst g, cut_map, cut_nn (by omega) (by omega) (by omega)]
  subst ha hb
  unfold chunk
  rw [show (4 * (i : Int)).toNat = 4 * i by omega, show (4 * (i : Int) + 4).toNat - 4 * i = 4 by omega]
theorem comp2_post {cl : Cl} {e tg it tg2 it2 : Ex} {own own2 : List Nat} {l l0 : Lo} {s : Sto} {its : List D} {Q : D → Sto → Prop} {E : D → Sto → Prop} (I : Nat → List D → Sto → Prop) (hit : (sem cl it).w l s = .ok ⟨its, none⟩ s) (hl0 : wipe l own = l0)
    (step : ∀ j d acc t, its[j]? = some d → I j acc t → t[s.length]? = some (.lst acc) → ((sem cl tg).t d l0 t).post (fun l1 s1 => ((sem cl it2).w l1 s1).post (fun src2 s2 => (comA src2 (wipe l1 own2) (sem cl tg2).t (sem cl e).e s.length src2.its acc s2).post (fun acc2 s3 => s3[s.length]? = some (.lst acc2) ∧ I (j + 1) acc2 s3) (fun _ _ => False)) (fun _ _ => False)) (fun _ _ => False))
    (fin : ∀ acc t, I its.length acc t → t[s.length]? = some (.lst acc) → Q (.obj s.length) t) (h : I 0 [] (s ++ [.lst []])) : ((sem cl (.comp2 e tg it tg2 it2 own own2)).e l s).post Q E := by
  rw [ze_comp2, hit, R.bind_ok, R.post_bind, hl0]
  refine noexPost ?_
  have hc := com2_post (F := fun _ _ => False) (its := its) (l := l0) (t := (sem cl tg).t) (w2 := (sem cl it2).w) (own2 := own2) (t2 := (sem cl tg2).t) (e := (sem cl e).e) (k := s.length) I step its.length 0 [] (s ++ [.lst []]) (by omega) h get_last
  rw [List.drop_zero] at hc
  refine R.post_mono hc (fun _ t ht => ?_) fun _ _ h => h
  obtain ⟨acc, h1, h2⟩ := ht
  exact fin acc t h1 h2
inductive Sp (o : List Nat) (k : Int) (kn : Prop) : D → List Int → Prop
  | raw (ns : List Int) : ¬ kn → Sp o k kn (.tup (ns.map .int)) ns
  | txt (z : List Nat) : kn → k = 4 → z.length ≤ 300 → Sp o k kn (.str z) (z.map fun c : Nat => (c : Int))
  | num (ns : List Int) : kn → (k = 1 ∨ k = 2 ∨ k = 3) → ns.length ≤ 300 → (∀ z ∈ ns, 0 ≤ z ∧ z < lim k) → Sp o k kn (.tup (ns.map .int)) (ns.flatMap (wr o (due k).toNat))
def LsD (s : Sto) (P : List Int) (d : D) (t : Sto) : Prop := ∃ q, d = .obj q ∧ t[q]? = some (.lst (P.map .int)) ∧ Ext s t ∧ s.length ≤ q
def IO (z : List Nat) (s : Sto) (k : Nat) (acc : List D) (t : Sto) : Prop := acc = (z.take k).map (fun c : Nat => D.int c) ∧ Ext s t
def IF (o : List Nat) (w : Nat) (ns : List Int) (s : Sto) (k : Nat) (acc : List D) (t : Sto) : Prop := acc = ((ns.take k).flatMap (wr o w)).map .int ∧ Ext s t
theorem flat_len {o : List Nat} {w : Nat} : ∀ ns : List Int, (ns.flatMap (wr o w)).length = ns.length * w
  | [] => by simp
  | z :: ns => by rw [List.flatMap_cons, List.length_append, flat_len ns, wr_len, List.length_cons, Nat.add_mul]; omega
theorem flat_one {o : List Nat} : ∀ ns : List Int, (∀ z ∈ ns, 0 ≤ z ∧ z < 256) → ns.flatMap (wr o 1) = ns
  | [], _ => rfl
  | z :: ns, h => by
    have hz := h z List.mem_cons_self
    rw [List.flatMap_cons, flat_one ns fun y hy => h y (List.mem_cons_of_mem _ hy)]
    have : wr o 1 z = [z] := by
      unfold wr dg dg
      rw [show z % 256 = z by omega]
      split <;> rfl
    rw [this]; rfl
theorem due3 {k : Int} (h : k = 1 ∨ k = 2 ∨ k = 3) : (k = 1 ∧ due k = 1) ∨ (k = 2 ∧ due k = 2) ∨ (k = 3 ∧ due k = 4) := by
  rcases h with rfl | rfl | rfl
  · exact .inl ⟨rfl, by decide⟩
  · exact .inr (.inl ⟨rfl, by decide⟩)
  · exact .inr (.inr ⟨rfl, by decide⟩)
theorem spread_post {n : Nat} {o : List Nat} {k : Int} {K : List Int} {d : D} {P : List Int} {s : Sto} {E : D → Sto → Prop} (h : Sp o k (k ∈ K) d P) (h0 : 0 ≤ k) :
    (callN fns (n + 2) 6 [.str o, .int k, d, .tup (K.map .int)] s).post (LsD s P) E := by
  rw [call_spread]
  refine fin_post ?_
  unfold b_spread_0
  refine seq_post ?_
  cases h with
  | raw ns hn =>
    simp [nmem_tup, hn, zs_cons, bi_list_tup]
    exact ⟨_, rfl, get_last, .app, Nat.le_refl _⟩
  | txt z hk h4 hz =>
    subst h4
    simp [nmem_tup, hk]
    unfold b_spread_1
    refine seq_post ?_
    simp [c_TEXT, zs_cons]
    refine comp_post (s1 := s) (its := z.map fun c => D.str [c]) (l0 := [some (.str o), some (.int 4), some (.str z), some (.tup (K.map .int)), none, none, none]) (IO z s) (by simp) rfl ?_ ?_ ⟨rfl, .app⟩
    · rintro j d acc t hj ⟨rfl, h3⟩ hq
      rw [List.getElem?_map] at hj
      simp only [Option.map_eq_some_iff] at hj
      obtain ⟨c, hc, rfl⟩ := hj
      have hjl := (List.getElem?_eq_some_iff.mp hc).1
      have eo : ∀ s, biF .ord [.str [c]] s = .ok (.int c) s := fun s => rfl
      simp [isNil, eo]
      refine ⟨by simpa using hq, by omega, ?_, h3.set (Nat.le_refl _)⟩
      rw [List.take_add_one]
      simp [hc]
    · rintro acc t ⟨rfl, h3⟩ hq
      rw [List.take_of_length_le (by simp)] at hq
      exact ⟨_, rfl, by rw [hq, List.map_map]; rfl, h3, Nat.le_refl _⟩
  | num ns hk k3 hn hb =>
    have n4 : k ≠ 4 := by omega
    have d3 := due3 k3
    simp [nmem_tup, hk]
    unfold b_spread_1
    refine seq_post ?_
    simp [c_TEXT, n4]
    unfold b_spread_2
    refine seq_post ?_
    simp [width_eq h0]
    by_cases k1 : k = 1
    · subst k1
      have : due 1 = 1 := by decide
      simp [this, zs_cons, bi_list_tup]
      refine ⟨_, rfl, ?_, .app, Nat.le_refl _⟩
      rw [flat_one ns hb]
      exact get_last
    · have dn : due k ≠ 1 := by omega
      simp [dn]
      unfold b_spread_3
      refine seq_post ?_
      simp only [zs_ret, post_bindS]
      refine comp2_post (its := ns.map .int) (l0 := [some (.str o), some (.int k), some (.tup (ns.map .int)), some (.tup (K.map .int)), none, none, none]) (IF o (due k).toNat ns s) (by simp) rfl ?_ ?_ ⟨rfl, .app⟩
      · rintro j d acc t hj ⟨rfl, h3⟩ hq
        rw [List.getElem?_map] at hj
        simp only [Option.map_eq_some_iff] at hj
        obtain ⟨z, hz, rfl⟩ := hj
        have hjl := (List.getElem?_eq_some_iff.mp hz).1
        simp [width_eq h0, written_eq (n := n) (o := o) (x := z) (k := due k) (by omega) (by omega)]
        have fl := flat_len (o := o) (w := (due k).toNat) (ns.take j)
        have fl2 : (ns.take j).length * (due k).toNat ≤ 300 * 4 := Nat.mul_le_mul (by simp; omega) (by omega)
        rw [comA_id (by simp [wipe]) _ _ _ (keep_app hq) (by simp [wr_len] at *; omega)]
        simp only [post_ok]
        refine ⟨get_set (by have := lt_of_get hq; simp; omega), ?_, (h3.trans .app).set (Nat.le_refl _)⟩
        rw [List.take_add_one, hz, List.flatMap_append, List.map_append]
        simp
      · rintro acc t ⟨rfl, h3⟩ hq
        rw [List.take_of_length_le (by simp)] at hq
        exact ⟨_, rfl, hq, h3, Nat.le_refl _⟩
theorem cells_e {q : Nat} {F : List Int} {cl : Cl} {l : Lo} {v w : Nat} {i : Nat} {t : Sto} {c : Ex} (hv : l[v]? = some (some (.obj q))) (hw : l[w]? = some (some (.int ((i : Int) * 4)))) (hc : ∀ s, (sem cl c).e l s = .ok (.int 4) s)
    (g : t[q]? = some (.lst (F.map .int))) (h : 4 * i + 4 ≤ F.length) :
    (sem cl (.bi .tuple (.cons (.sl (.var v) (.var w) (.bin .add (.var w) c)) .nil))).e l t = .ok (.tup (chunk F i)) (t ++ [.lst (chunk F i)]) := by
  simp [hv, hw, hc, oInt]
  rw [chunk_sl g h (by omega) (by omega)]
  simp
/-- 'in_cells' -/
theorem in_cells_post {n q : Nat} {P : List Int} {s : Sto} {E : D → Sto → Prop} (g : s[q]? = some (.lst (P.map .int))) (hP : P.length ≤ 90000) :
    (callN fns (n + 1) 7 [.obj q] s).post (fun d t => d = .tup (cellsD (fill P)) ∧ Ext s t) E := by
  rw [call_in_cells]
  refine fin_post ?_
  unfold b_in_cells_0
  refine seq_post ?_
  have em : (-(P.length : Int)) % 4 = (((4 - P.length % 4) % 4 : Nat) : Int) := by omega
  simp [c_CELL, line]
  rw [bi_len_lst (keep_app g)]
  simp
  rw [bin_mod (by omega)]
  simp only [post_ok, em]
  rw [mul_lst get_last (by omega) (by simp; omega) (by omega)]
  simp only [post_ok]
  have ef : P.map D.int ++ (List.replicate (((4 - P.length % 4) % 4 : Nat) : Int).toNat [D.int 0]).flatten = (fill P).map .int := by
    unfold fill; simp only [Int.toNat_natCast, List.flatten_replicate_singleton, List.map_append, List.map_replicate]
  rw [add_lst (keep_app (keep_app g)) get_last (by simp; omega), ef]
  have e0 : Ext s (s ++ [MO.lst [D.int 0]] ++ [MO.lst (List.replicate (((4 - P.length % 4) % 4 : Nat) : Int).toNat [D.int 0]).flatten] ++ [MO.lst ((fill P).map .int)]) := (Ext.app.trans .app).trans .app
  have g3 := get_last (s := s ++ [MO.lst [D.int 0]] ++ [MO.lst (List.replicate (((4 - P.length % 4) % 4 : Nat) : Int).toNat [D.int 0]).flatten]) (o := MO.lst ((fill P).map .int))
  simp only [post_ok]
  generalize s ++ [MO.lst [D.int 0]] ++ [MO.lst (List.replicate (((4 - P.length % 4) % 4 : Nat) : Int).toNat [D.int 0]).flatten] ++ [MO.lst ((fill P).map .int)] = s3 at *
  generalize (s ++ [MO.lst [D.int 0]] ++ [MO.lst (List.replicate (((4 - P.length % 4) % 4 : Nat) : Int).toNat [D.int 0]).flatten]).length = q3 at *
  try simp
  unfold b_in_cells_1
  refine seq_post ?_
  simp only [zs_ret, ze_bi, zl_cons, zl_nil, post_bindS]
  have fl : (fill P).length ≤ 90003 := by unfold fill; simp; omega
  refine R.post_mono (cells_comp (F := fill P) (q := q3) (lt := fun d => [some (.obj q), some (.obj q3), some d]) (E := fun _ _ => False) g3 (fill_mod P) (by omega) ?_ ?_ ?_) ?_ fun _ _ h => h.elim
  · simp [c_CELL]
    rw [bi_len_lst g3]
    simp [rgOkI (a := 0) (b := (fill P).length) (by omega) (by omega) (by omega) (by omega)]
  · intro d t
    simp [wipe]
  · intro i t gt hi
    exact cells_e rfl rfl (fun _ => rfl) gt hi
  · rintro d t ⟨rfl, gt, e3⟩
    simp [bi_tuple_lst gt]
    exact e0.trans e3
theorem packed_post {n : Nat} {o : List Nat} {k : Int} {K : List Int} {d : D} {P : List Int} {s : Sto} {E : D → Sto → Prop} (h : Sp o k (k ∈ K) d P) (h0 : 0 ≤ k) (hP : P.length ≤ 90000) :
    (callN fns (n + 3) 8 [.str o, .int k, d, .tup (K.map .int)] s).post (fun r t => r = .tup (cellsD (fill P)) ∧ Ext s t) E := by
  rw [call_packed]
  refine fin_post ?_
  refine seq_post ?_
  simp
  refine R.post_mono (spread_post (n := n) h h0) ?_ fun _ _ h => h
  rintro r t ⟨q, rfl, g, e1, _⟩
  try simp
  refine R.post_mono (in_cells_post (n := n + 1) g hP) ?_ fun _ _ h => h
  rintro r t2 ⟨rfl, e2⟩
  exact ⟨rfl, e1.trans e2⟩
theorem wms_all {P : Nat → Prop} {s : Sto} {n v : Nat} : ∀ {xs : List D} {w : Nat}, (∀ d ∈ xs, Wm P s n v d) → xs.length * (v + 1) ≤ w → Wms P s n w xs
  | [], _, _, _ => .nil
  | d :: ds, w, h, hl => by
    rw [List.length_cons, Nat.add_mul] at hl
    have := Wms.cons (w := v) (v := w - (v + 1)) (h d List.mem_cons_self) (wms_all (fun e he => h e (List.mem_cons_of_mem _ he)) (by omega))
    rw [show v + 1 + (w - (v + 1)) = w by omega] at this
    exact this
theorem small70 {z : Int} (h : z.natAbs < 10000000000) : z.natAbs < 10 ^ 70 := Nat.lt_trans h (by decide)
theorem wms_nums {P : Nat → Prop} {n w : Nat} {s : Sto} {ns : List Int} (h : ∀ z ∈ ns, z.natAbs < 10000000000) (hl : ns.length ≤ w) : Wms P s n w (ns.map .int) := by
  refine wms_all (v := 0) ?_ (by simp; omega)
  intro d hd
  obtain ⟨z, hz, rfl⟩ := List.mem_map.mp hd
  exact .int z (small70 (h z hz))
theorem due_w3 {k : Int} (h : k = 0 ∨ 7 ≤ k) : w3 k = due k := by
  unfold w3 due
  rw [if_neg (show ¬ (1 ≤ k ∧ k ≤ 6) by omega)]
theorem mul4 {x : Int} {s : Sto} (h : 0 ≤ x) (h2 : x < 1000) : bin .mul (.int x) (.int 4) s = .ok (.int (x * 4)) s := if_pos (by unfold big; omega)
theorem w3_or (k : Int) : w3 k = 1 ∨ w3 k = 2 ∨ w3 k = 4 := by unfold w3; split <;> (try split) <;> simp
theorem due_le (k : Int) : 1 ≤ due k ∧ due k ≤ 4 := by have := due_or k; omega
theorem kq0 {s t : Sto} : Kq (fun _ => False) s t := fun _ _ h => h.elim
theorem Sp.iff {o : List Nat} {k : Int} {a b : Prop} {d : D} {P : List Int} (h : Sp o k a d P) (e : a ↔ b) : Sp o k b d P := by
  rw [← propext e]; exact h
def bigv (L : List Int) : Int := L.foldl (fun f b => 256 * f + b) 0
theorem bigv_snoc {L : List Int} {b : Int} : bigv (L ++ [b]) = 256 * bigv L + b := by
  unfold bigv; rw [List.foldl_append]; rfl
def rdn (o : List Nat) (L : List Int) : Int := bigv (if o = great then L else L.reverse)
theorem rdn_wr {o : List Nat} {x : Int} {w : Nat} (h : w = 2 ∧ 0 ≤ x ∧ x < 65536 ∨ w = 4 ∧ 0 ≤ x ∧ x < 4294967296) : rdn o (wr o w x) = x := by
  have e : rdn o (wr o w x) = bigv (dg w x).reverse := by
    unfold rdn wr
    split <;> rfl
  rw [e]
  rcases h with ⟨rfl, h0, h1⟩ | ⟨rfl, h0, h1⟩
  · show 256 * (256 * 0 + x / 256 % 256) + x % 256 = x
    omega
  · show 256 * (256 * (256 * (256 * 0 + x / 256 / 256 / 256 % 256) + x / 256 / 256 % 256) + x / 256 % 256) + x % 256 = x
    omega
def INI (o : List Nat) (q : Nat) (its : List Int) (s : Sto) (k : Nat) (l : Lo) (t : Sto) : Prop := (∃ v3, l = [some (.str o), some (.obj q), some (.int (bigv (its.take k))), v3]) ∧ Ext s t
theorem number_in_post {n q : Nat} {o : List Nat} {L : List Int} {s : Sto} {E : D → Sto → Prop} (g : s[q]? = some (.lst (L.map .int))) :
    (callN fns (n + 1) 3 [.str o, .obj q] s).post (fun d t => d = .int (rdn o L) ∧ Ext s t) E := by
  rw [call_number_in]
  refine fin_post ?_
  unfold b_number_in_0
  refine seq_post ?_
  simp
  unfold b_number_in_1
  refine seq_post ?_
  have walk : ∀ {its : List Int} {i : Nat} {u : Sto} (gi : u[i]? = some (.lst (its.map .int))) (e0 : Ext s u),
      (forL ⟨its.map .int, some (i, .lst (its.map .int))⟩ (sem (callN fns n) (.tv 3)).t (sem (callN fns n) (.cons (.asg (.tv 2) (.bin .add (.bin .mul (.glb 3 c_BASE) (.var 2)) (.var 3))) .nil)).s (its.map .int) [some (.str o), some (.obj q), some (.int 0), none] u).post
        (fun r t => r.1 = .nx ∧ (∃ v3, r.2 = [some (.str o), some (.obj q), some (.int (bigv its)), v3]) ∧ Ext s t) E := by
    intro its i u gi e0
    refine forO_post (INI o q its u) ?_ ?_ ?_ ⟨⟨_, rfl⟩, .refl⟩
    · rintro k l t ⟨_, e⟩
      exact e _ _ gi
    · rintro k d l t hk ⟨⟨v3, rfl⟩, e⟩
      rw [List.getElem?_map] at hk
      simp only [Option.map_eq_some_iff] at hk
      obtain ⟨z, hz, rfl⟩ := hk
      simp [zs_cons, c_BASE, bin_mulL]
      refine ⟨⟨some (.int z), ?_⟩, e⟩
      rw [List.take_add_one, hz, Option.toList_some, bigv_snoc]
    · rintro l t ⟨⟨v3, rfl⟩, e⟩
      rw [List.length_map, List.take_length]
      exact ⟨rfl, ⟨_, rfl⟩, e0.trans e⟩
  by_cases ho : o = great
  · subst ho
    simp [g]
    refine R.post_mono (walk g .refl) ?_ fun _ _ h => h
    rintro ⟨f, l⟩ t ⟨rfl, ⟨v3, rfl⟩, e⟩
    simp only
    unfold b_number_in_2
    refine seq_post ?_
    simp
    exact ⟨by unfold rdn; rw [if_pos rfl], e⟩
  · simp [ho, rev_lst g]
    rw [← List.map_reverse]
    refine R.post_mono (walk (its := L.reverse) get_last .app) ?_ fun _ _ h => h
    rintro ⟨f, l⟩ t ⟨rfl, ⟨v3, rfl⟩, e⟩
    simp only
    unfold b_number_in_2
    refine seq_post ?_
    simp
    exact ⟨by unfold rdn; rw [if_neg ho], e⟩
theorem comD_post {its : List D} {l : Lo} {t : D → Lo → Sto → R Lo} {e1 e2 : Lo → Sto → R D} {k : Nat} {F : D → Sto → Prop} (I : Nat → List (Ky × D) → Sto → Prop)
    (step : ∀ j d acc s, its[j]? = some d → I j acc s → s[k]? = some (.dct acc) → (t d l s).post (fun l1 s1 => (e1 l1 s1).post (fun x s2 => (e2 l1 s2).post (fun y s3 => ∃ q, x.key = some q ∧ s3[k]? = some (.dct acc) ∧ acc.length < 16777216 ∧ I (j + 1) (putK acc q y) (setO k (.dct (putK acc q y)) s3)) F) F) F) :
    ∀ (n i : Nat) (acc : List (Ky × D)) (s : Sto), i + n = its.length → I i acc s → s[k]? = some (.dct acc) → (comD ⟨its, none⟩ l t (fun _ s => R.ok true s) e1 e2 k (its.drop i) acc s).post (fun _ s' => ∃ acc', I its.length acc' s' ∧ s'[k]? = some (.dct acc')) F := by
  intro n
  induction n with
  | zero =>
    intro i acc s hi h g
    have : i = its.length := by omega
    subst this
    rw [List.drop_length]
    unfold comD
    rw [if_pos ⟨rfl, g⟩]
    exact ⟨acc, h, g⟩
  | succ n ih =>
    intro i acc s hi h g
    have hl : i < its.length := by omega
    rw [List.drop_eq_getElem_cons hl]
    unfold comD
    rw [if_pos ⟨rfl, g⟩, R.post_bind]
    refine R.post_mono (step i its[i] acc s (by simp [hl]) h g) (fun l1 s1 h1 => ?_) fun _ _ x => x
    rw [R.bind_ok, if_pos rfl, R.post_bind]
    refine R.post_mono h1 (fun x s2 h2 => ?_) fun _ _ x => x
    rw [R.post_bind]
    refine R.post_mono h2 (fun y s3 h3 => ?_) fun _ _ x => x
    obtain ⟨q, hq, g3, hl3, h3⟩ := h3
    rw [hq]
    simp only
    rw [if_pos ⟨g3, hl3⟩]
    exact ih (i + 1) _ _ (by omega) h3 (get_set (lt_of_get g3))
theorem compD_post {cl : Cl} {ek ev tg it : Ex} {own : List Nat} {l l0 : Lo} {s : Sto} {its : List D} {Q : D → Sto → Prop} {E : D → Sto → Prop} (I : Nat → List (Ky × D) → Sto → Prop) (hit : (sem cl it).w l s = .ok ⟨its, none⟩ s) (hl0 : wipe l own = l0)
    (step : ∀ j d acc t, its[j]? = some d → I j acc t → t[s.length]? = some (.dct acc) → ((sem cl tg).t d l0 t).post (fun l1 s1 => ((sem cl ek).e l1 s1).post (fun x s2 => ((sem cl ev).e l1 s2).post (fun y s3 => ∃ q, x.key = some q ∧ s3[s.length]? = some (.dct acc) ∧ acc.length < 16777216 ∧ I (j + 1) (putK acc q y) (setO s.length (.dct (putK acc q y)) s3)) (fun _ _ => False)) (fun _ _ => False)) (fun _ _ => False))
    (fin : ∀ acc t, I its.length acc t → t[s.length]? = some (.dct acc) → Q (.obj s.length) t) (h : I 0 [] (s ++ [.dct []])) : ((sem cl (.compD ek ev tg it .nil own)).e l s).post Q E := by
  rw [ze_compD, hit, R.bind_ok, R.post_bind, hl0]
  refine noexPost ?_
  have hc := comD_post (F := fun _ _ => False) (its := its) (l := l0) (t := (sem cl tg).t) (e1 := (sem cl ek).e) (e2 := (sem cl ev).e) (k := s.length) I step its.length 0 [] (s ++ [.dct []]) (by omega) h get_last
  rw [List.drop_zero] at hc
  refine R.post_mono hc (fun _ t ht => ?_) fun _ _ h => h
  obtain ⟨acc, h1, h2⟩ := ht
  exact fin acc t h1 h2
def kv0 (z : List Nat) : List (Ky × D) := z.foldl (fun (acc : List (Ky × D)) (c : Nat) => putK acc (.inl (c : Int)) (.str [c])) []
theorem putK_len {kvs : List (Ky × D)} {k : Ky} {v : D} : (putK kvs k v).length ≤ kvs.length + 1 := by
  unfold putK
  split <;> simp
theorem kv0_snoc {z : List Nat} {c : Nat} : kv0 (z ++ [c]) = putK (kv0 z) (.inl (c : Int)) (.str [c]) := by
  unfold kv0; rw [List.foldl_append]; rfl
theorem kv0_len (z : List Nat) : (kv0 z).length ≤ z.length := by
  suffices h : ∀ (z : List Nat) (acc : List (Ky × D)), (z.foldl (fun (acc : List (Ky × D)) (c : Nat) => putK acc (.inl (c : Int)) (.str [c])) acc).length ≤ acc.length + z.length by
    have := h z []
    rw [List.length_nil, Nat.zero_add] at this
    exact this
  intro z
  induction z with
  | nil => intro acc; simp
  | cons c z ih =>
    intro acc
    rw [List.foldl_cons, List.length_cons]
    have := ih (putK acc (.inl (c : Int)) (.str [c]))
    have := putK_len (kvs := acc) (k := .inl (c : Int)) (v := .str [c])
    omega
theorem kv0_look : ∀ c ∈ tSig, lookK (kv0 signs) (.inl (c : Int)) = some (.str [c]) := by decide +kernel
def cellsOf (Cs : List (List Int)) : List D := Cs.map fun L => D.tup (L.map .int)
inductive Un (o : List Nat) (k : Int) (kn : Prop) : Int → List Int → D → Prop
  | raw (c : Int) (ns : List Int) : ¬ kn → c * due k = ns.length → Un o k kn c ns (.tup (ns.map .int))
  | txt (z : List Nat) : kn → k = 4 → z.length ≤ 300 → (∀ c ∈ z, c ∈ tSig) → Un o k kn z.length (z.map fun c : Nat => (c : Int)) (.str z)
  | num (ns : List Int) : kn → (k = 1 ∨ k = 2 ∨ k = 3) → ns.length ≤ 300 → (∀ z ∈ ns, 0 ≤ z ∧ z < lim k) → Un o k kn ns.length (ns.flatMap (wr o (due k).toNat)) (.tup (ns.map .int))
theorem Un.len {o : List Nat} {k c : Int} {kn : Prop} {P : List Int} {d : D} (h : Un o k kn c P d) : c * due k = P.length := by
  cases h with
  | raw c ns _ e => exact e
  | txt z _ h4 _ _ =>
    subst h4
    have : due 4 = 1 := by decide
    rw [this]; simp
  | num ns _ k3 _ _ =>
    rw [flat_len]
    have := due_le k
    rw [Int.natCast_mul, Int.toNat_of_nonneg (by omega)]
def IU (Cs : List (List Int)) (s : Sto) (k : Nat) (acc : List D) (t : Sto) : Prop := acc = ((Cs.take k).flatten).map .int ∧ Ext s t
def IK (z : List Nat) (s : Sto) (k : Nat) (acc : List (Ky × D)) (t : Sto) : Prop := acc = kv0 (z.take k) ∧ Ext s t
def IJ (z : List Nat) (s : Sto) (k : Nat) (acc : List D) (t : Sto) : Prop := acc = (z.take k).map (fun c => D.str [c]) ∧ Ext s t
def IW2 (ns : List Int) (s : Sto) (k : Nat) (acc : List D) (t : Sto) : Prop := acc = (ns.take k).map .int ∧ Ext s t
theorem take_flat {Cs : List (List Int)} {k : Nat} : ((Cs.take k).flatten).length ≤ Cs.flatten.length := by
  conv => rhs; rw [← List.take_append_drop k Cs, List.flatten_append, List.length_append]
  omega
theorem flat_cut {o : List Nat} {w : Nat} : ∀ (ns : List Int) (i : Nat) (z : Int), ns[i]? = some z → ((ns.flatMap (wr o w)).drop (i * w)).take w = wr o w z
  | [], i, z, h => by simp at h
  | y :: ns, 0, z, h => by
    simp only [List.getElem?_cons_zero, Option.some.injEq] at h
    subst h
    rw [Nat.zero_mul, List.drop_zero, List.flatMap_cons]
    exact List.take_left' wr_len
  | y :: ns, i + 1, z, h => by
    rw [List.getElem?_cons_succ] at h
    rw [List.flatMap_cons, Nat.add_mul, Nat.one_mul, Nat.add_comm, ← List.drop_drop, List.drop_left' wr_len]
    exact flat_cut ns i z h
theorem rgN_mul {m w : Nat} (h : w = 2 ∨ w = 4) : rgN 0 ((m * w : Nat) : Int) (w : Int) = m := by
  unfold rgN
  rcases h with rfl | rfl <;> split <;> omega
theorem unpacked_post {n : Nat} {o : List Nat} {k c : Int} {K : List Int} {Cs : List (List Int)} {P X : List Int} {d : D} {s : Sto} {E : D → Sto → Prop} (hc : Cs.flatten = P ++ X) (hl : Cs.flatten.length ≤ 90000) (h : Un o k (k ∈ K) c P d) (h0 : 0 ≤ k) :
    (callN fns (n + 2) 9 [.str o, .int k, .int c, .tup (cellsOf Cs), .tup (K.map .int)] s).post (fun r t => r = d ∧ Ext s t) E := by
  have hP : P.length ≤ 90000 := by rw [hc, List.length_append] at hl; omega
  have hlen := h.len
  have dl := due_le k
  rw [call_unpacked]
  refine fin_post ?_
  unfold b_unpacked_0
  refine seq_post ?_
  simp [width_eq h0]
  unfold b_unpacked_1
  refine seq_post ?_
  simp only [zs_asg, ze_sl, post_bindS]
  refine comp2_post (its := cellsOf Cs) (l0 := [some (.str o), some (.int k), some (.int c), some (.tup (cellsOf Cs)), some (.tup (K.map .int)), some (.int (due k)), none, none, none, none, none, none]) (IU Cs s) (by simp) rfl ?_ ?_ ⟨rfl, .app⟩
  · rintro j d acc t hj ⟨rfl, h3⟩ hq
    unfold cellsOf at hj
    rw [List.getElem?_map] at hj
    simp only [Option.map_eq_some_iff] at hj
    obtain ⟨L, hL, rfl⟩ := hj
    have tf := take_flat (Cs := Cs) (k := j + 1)
    have eI : (List.take (j + 1) Cs).flatten = (List.take j Cs).flatten ++ L := by
      rw [List.take_add_one, hL, Option.toList_some, List.flatten_append]
      simp
    rw [eI, List.length_append] at tf
    unfold IU
    rw [eI]
    generalize (List.take j Cs).flatten = A at *
    simp
    rw [comA_id (by simp [wipe]) _ _ _ hq (by simp; omega)]
    simp only [post_ok]
    exact ⟨get_set (lt_of_get hq), trivial, h3.set (Nat.le_refl _)⟩
  · rintro acc t ⟨rfl, h3⟩ hq
    unfold cellsOf at hq
    rw [List.length_map, List.take_length, hc] at hq
    have em : ∀ s, bin .mul (.int c) (.int (due k)) s = .ok (.int P.length) s := fun s => by
      rw [← hlen]; exact if_pos (by unfold big; omega)
    simp [oInt, em, sl_lst hq]
    have ecut : cut (P.map D.int ++ X.map D.int) none (some (P.length : Int)) = P.map .int := by
      rw [cut_to (by omega), Int.toNat_natCast]
      exact List.take_left' (by simp)
    rw [ecut]
    have gq := get_last (s := t) (o := MO.lst (P.map .int))
    have e2 : Ext s (t ++ [MO.lst (P.map .int)]) := h3.trans .app
    generalize t ++ [MO.lst (P.map .int)] = t2 at *
    generalize t.length = q at *
    clear hq h3 em hlen hc hl
    unfold b_unpacked_2
    refine seq_post ?_
    cases h with
    | raw c ns hn e =>
      simp [nmem_tup, hn, zs_cons, bi_tuple_lst gq]
      exact e2
    | txt z hk h4 hz hb =>
      subst h4
      simp [nmem_tup, hk]
      unfold b_unpacked_3
      refine seq_post ?_
      simp [c_TEXT]
      unfold b_unpacked_3a_0
      refine seq_post ?_
      simp only [zs_asg, post_bindS]
      refine compD_post (its := signs.map fun c => D.str [c]) (l0 := [some (.str o), some (.int 4), some (.int z.length), some (.tup (cellsOf Cs)), some (.tup (K.map .int)), some (.int (due 4)), some (.obj q), none, none, none, none, none]) (IK signs t2) (by simp; rfl) rfl ?_ ?_ ⟨rfl, .app⟩
      · rintro j d acc u hj ⟨rfl, h3⟩ hq
        rw [List.getElem?_map] at hj
        simp only [Option.map_eq_some_iff] at hj
        obtain ⟨c, hc, rfl⟩ := hj
        have eo : ∀ s, biF .ord [.str [c]] s = .ok (.int c) s := fun s => rfl
        simp [eo]
        have := kv0_len (signs.take j)
        have hsl : signs.length ≤ 65 := by decide
        rw [List.length_take] at this
        refine ⟨_, rfl, hq, by omega, ?_, h3.set (Nat.le_refl _)⟩
        rw [List.take_add_one, hc, Option.toList_some, kv0_snoc]
      · rintro acc u ⟨rfl, h3⟩ hq
        rw [List.length_map, List.take_length] at hq
        simp
        unfold b_unpacked_3a_1
        refine seq_post ?_
        have gu := h3 _ _ gq
        have eu := e2.trans h3
        generalize t2.length = dd at *
        simp only [zs_ret, ze_mt, post_bindS]
        simp [mtOk]
        refine compO_post (s1 := u) (i := q) (xs := (z.map fun c : Nat => (c : Int)).map .int) (its := (z.map fun c : Nat => (c : Int)).map .int) (l0 := [some (.str o), some (.int 4), some (.int z.length), some (.tup (cellsOf Cs)), some (.tup (K.map .int)), some (.int (due 4)), some (.obj q), none, none, some (.obj dd), none, none]) (IJ z u) (by simp [gu]) rfl ?_ ?_ ?_ ⟨rfl, .app⟩
        · rintro k acc v ⟨rfl, e⟩
          exact e _ _ gu
        · rintro j d acc v hj ⟨rfl, h4⟩ hq4
          rw [List.map_map, List.getElem?_map] at hj
          simp only [Option.map_eq_some_iff] at hj
          obtain ⟨c, hc, rfl⟩ := hj
          have hjl := (List.getElem?_eq_some_iff.mp hc).1
          have ei : opIx (.obj dd) (.int (c : Int)) v = .ok (.str [c]) v := by
            have gd := h4 _ _ hq
            have := kv0_look c (hb c (List.mem_of_getElem? hc))
            simp only [opIx, gd, D.key, this]
          simp [isNil, ei]
          refine ⟨by simpa using hq4, by omega, ?_, h4.set (Nat.le_refl _)⟩
          rw [List.take_add_one]
          simp [hc]
        · rintro acc v ⟨rfl, h4⟩ hq4
          rw [List.take_of_length_le (by simp)] at hq4
          rw [join_eq hq4 (by omega)]
          exact ⟨rfl, eu.trans h4⟩
    | num ns hk k3 hn hb =>
      have n4 : k ≠ 4 := by omega
      have d3 := due3 k3
      simp [nmem_tup, hk]
      unfold b_unpacked_3
      refine seq_post ?_
      simp [c_TEXT, n4]
      unfold b_unpacked_4
      refine seq_post ?_
      by_cases k1 : k = 1
      · subst k1
        have e1 : due 1 = 1 := by decide
        have ef := flat_one (o := o) ns hb
        rw [show (due 1).toNat = 1 from rfl, ef] at gq
        simp [e1, zs_cons, bi_tuple_lst gq]
        exact e2
      · have dn : due k ≠ 1 := by omega
        simp [dn]
        unfold b_unpacked_5
        refine seq_post ?_
        obtain ⟨w, hw, hw2⟩ : ∃ w : Nat, due k = w ∧ (w = 2 ∧ lim k = 65536 ∨ w = 4 ∧ lim k = 4294967296) := by
          rcases d3 with ⟨rfl, e⟩ | ⟨rfl, e⟩ | ⟨rfl, e⟩
          · exact absurd rfl k1
          · exact ⟨2, e, .inl ⟨rfl, rfl⟩⟩
          · exact ⟨4, e, .inr ⟨rfl, rfl⟩⟩
        have hw3 : w = 2 ∨ w = 4 := by omega
        rw [hw] at gq ⊢
        rw [Int.toNat_natCast] at gq
        have fl := flat_len (o := o) (w := w) ns
        have flw : ns.length * w ≤ 300 * 4 := Nat.mul_le_mul hn (by omega)
        simp only [zs_ret, ze_bi, zl_cons, zl_nil, post_bindS]
        have rl : (rng3 0 ((ns.length * w : Nat) : Int) (w : Int)).length = ns.length := by
          unfold rng3
          rw [List.length_map, List.length_range, rgN_mul hw3]
        refine comp_post (s1 := t2) (its := rng3 0 ((ns.length * w : Nat) : Int) (w : Int)) (l0 := [some (.str o), some (.int k), some (.int ns.length), some (.tup (cellsOf Cs)), some (.tup (K.map .int)), some (.int w), some (.obj q), none, none, none, none, none]) (IW2 ns t2) ?_ rfl ?_ ?_ ⟨rfl, .app⟩
        · have hN : rgOk 0 ((ns.length * w : Nat) : Int) = true := rgOkI (by omega) (by omega) (by omega) (by omega)
          have hb2 : biF .len [.obj q] t2 = .ok (.int ((ns.length * w : Nat) : Int)) t2 := by rw [bi_len_lst gq, List.length_map, fl]
          generalize ((ns.length * w : Nat) : Int) = N at *
          have hw4 : 0 < w ∧ (w : Int) ≤ 1000000 := by omega
          simp [hb2, hN, hw4]
        · rintro j d acc v hj ⟨rfl, h3⟩ hq
          have hjl : j < ns.length := by
            have := (List.getElem?_eq_some_iff.mp hj).1
            rw [rl] at this; exact this
          have ed : d = .int ((j * w : Nat) : Int) := by
            unfold rng3 at hj
            rw [List.getElem?_map, List.getElem?_range (by rw [rgN_mul hw3]; exact hjl)] at hj
            cases hj
            simp
          subst ed
          have gv := h3 _ _ gq
          have jw : j * w + w ≤ ns.length * w := by rw [← Nat.succ_mul]; exact Nat.mul_le_mul_right w hjl
          have hz : ns[j]? = some ns[j] := by simp [hjl]
          have ec : opSl (.obj q) (some ((j * w : Nat) : Int)) (some (((j * w : Nat) : Int) + (w : Int))) v = .ok (.obj v.length) (v ++ [.lst ((wr o w ns[j]).map .int)]) := by
            rw [sl_lst gv, cut_map, cut_nn (by omega) (by omega) (by rw [fl]; omega), show (((j * w : Nat) : Int) + (w : Int)).toNat - ((j * w : Nat) : Int).toNat = w by omega, Int.toNat_natCast, flat_cut ns j _ hz]
          generalize ((j * w : Nat) : Int) = x at *
          have hA : ((ns.take j).map D.int).length ≤ 300 := by rw [List.length_map, List.length_take]; omega
          have hA2 : (ns.take (j + 1)).map D.int = (ns.take j).map D.int ++ [.int ns[j]] := by rw [List.take_add_one, hz, Option.toList_some, List.map_append]; rfl
          unfold IW2
          rw [hA2]
          generalize (ns.take j).map D.int = A at *
          simp [isNil, oInt, ec]
          refine R.post_mono (number_in_post get_last) ?_ fun _ _ h => h
          rintro r v2 ⟨rfl, e3⟩
          have hb' := hb ns[j] (List.getElem_mem hjl)
          rw [rdn_wr (by omega)]
          exact ⟨e3 _ _ (keep_app hq), by omega, rfl, ((h3.trans .app).trans e3).set (Nat.le_refl _)⟩
        · rintro acc v ⟨rfl, h3⟩ hq
          rw [rl, List.take_length] at hq
          simp [bi_tuple_lst hq]
          exact e2.trans h3
def chs (F : List Int) : List (List Int) := (List.range (F.length / 4)).map fun i => (F.drop (4 * i)).take 4
theorem chs_flat {F : List Int} (h : F.length % 4 = 0) : (chs F).flatten = F := by
  have key : ∀ m, ((List.range m).map fun i => (F.drop (4 * i)).take 4).flatten = F.take (4 * m) := by
    intro m
    induction m with
    | zero => rfl
    | succ m ih =>
      rw [List.range_succ, List.map_append, List.flatten_append, ih, Nat.mul_succ, List.take_add]
      simp
  unfold chs
  rw [key, show 4 * (F.length / 4) = F.length by omega, List.take_length]
theorem cells_chs {F : List Int} : cellsD F = cellsOf (chs F) := by
  unfold cellsD cellsOf chs
  rw [List.map_map]
  rfl
theorem chs_len {F : List Int} : (chs F).length = F.length / 4 := by unfold chs; simp
theorem tsig_lt {c : Nat} (h : c ∈ tSig) : c < 200 := by
  have : ∀ c ∈ tSig, c < 200 := by decide
  exact this c h
theorem lim_le (k : Int) : lim k ≤ 4294967296 := by unfold lim; split <;> (try split) <;> omega
theorem Un.iff {o : List Nat} {k c : Int} {a b : Prop} {d : D} {P : List Int} (h : Un o k a c P d) (e : a ↔ b) : Un o k b c P d := by
  rw [← propext e]; exact h
/-! the law -/
abbrev K6 : List Int := [1, 2, 3, 4, 5, 6]
/-- a kind drawn -/
def Kd (k : Int) : Prop := (1 ≤ k ∧ k ≤ 4) ∨ k = 0 ∨ 7 ≤ k
theorem Kd.pos {k : Int} (h : Kd k) : 0 ≤ k := by unfold Kd at h; omega
theorem Kd.mem {k : Int} (h : Kd k) : k ∈ K6 ↔ 1 ≤ k ∧ k ≤ 4 := by
  rw [six]; unfold Kd at h; omega
theorem due_raw {k : Int} (h : Kd k) (n : ¬ (1 ≤ k ∧ k ≤ 4)) : due k = w3 k := (due_w3 (by unfold Kd at h; omega)).symm
/-- what holds of worths of a kind, in an order -/
structure Gw (o : List Nat) (k : Int) (kn : Prop) (d : D) (P : List Int) (c : Int) : Prop where
  sp : Sp o k kn d P
  un : Un o k kn c P d
  len : P.length ≤ 1200
  bd : ∀ z ∈ P, 0 ≤ z ∧ z < 256
  cnt : c * due k = P.length
  c0 : 0 ≤ c
theorem tsig_bd {c : Nat} (h : c ∈ tSig) : c < 200 := tsig_lt h
theorem gw_of {o : List Nat} {k : Int} {d : D} {N : Nat} (hk : Kd k) (hN : N ≤ 300) (h : PlK k N d) : ∃ P c, Gw o k (k ∈ K6) d P c := by
  cases h with
  | txt z h4 hz hb =>
    have hm : k ∈ K6 := hk.mem.mpr (by omega)
    have hu : Un o k (k ∈ K6) z.length (z.map fun c : Nat => (c : Int)) (.str z) := .txt z hm h4 (by omega) hb
    refine ⟨_, _, .txt z hm h4 (by omega), hu, by simp; omega, ?_, hu.len, by omega⟩
    intro y hy
    obtain ⟨c, hc, rfl⟩ := List.mem_map.mp hy
    have := tsig_lt (hb c hc)
    omega
  | num ns h3 hn hb =>
    have hm : k ∈ K6 := hk.mem.mpr (by omega)
    have dl := due_le k
    have hu : Un o k (k ∈ K6) ns.length (ns.flatMap (wr o (due k).toNat)) (.tup (ns.map .int)) := .num ns hm h3 (by omega) hb
    refine ⟨_, _, .num ns hm h3 (by omega) hb, hu, ?_, ?_, hu.len, by omega⟩
    · rw [flat_len]
      have : ns.length * (due k).toNat ≤ 300 * 4 := Nat.mul_le_mul (by omega) (by omega)
      omega
    · intro y hy
      obtain ⟨x, hx, hy⟩ := List.mem_flatMap.mp hy
      exact wr_bd y hy
  | raw ns h4 h3 hn hmod hb =>
    have nk : ¬ (1 ≤ k ∧ k ≤ 4) := by omega
    have hm : k ∉ K6 := fun h => nk (hk.mem.mp h)
    have dl := due_le k
    rw [← due_raw hk nk] at hmod
    have e : (ns.length : Int) / due k * due k = ns.length := Int.ediv_mul_cancel (Int.dvd_of_emod_eq_zero hmod)
    exact ⟨ns, (ns.length : Int) / due k, .raw ns hm, .raw _ ns hm e, by omega, hb, e, Int.ediv_nonneg (by omega) (by omega)⟩
theorem pl_wm {R : Nat → Prop} {n N : Nat} {s : Sto} {k : Int} {d : D} (h : PlK k N d) : Wm R s (n + 1) N d := by
  cases h with
  | txt z h4 hz hb => exact .str z hz fun c hc => by have := tsig_lt (hb c hc); omega
  | num ns h3 hn hb =>
    have ll := lim_le k
    exact .tup (wms_nums (fun z hz => by have := hb z hz; omega) hn)
  | raw ns h4 h3 hn hmod hb => exact .tup (wms_nums (fun z hz => by have := hb z hz; omega) hn)
theorem raw_worB {k : Int} {ns : List Int} (hl : (ns.length : Int) ≤ 300 * due k) (hm : (ns.length : Int) % due k = 0) (hb : ∀ z ∈ ns, 0 ≤ z ∧ z < 256) : worB k false (.tup (ns.map .int)) = true := by
  have : (ns.map D.int).all (whole 0 (256 - 1)) = true := by
    rw [List.all_eq_true]
    intro d hd
    obtain ⟨z, hz, rfl⟩ := List.mem_map.mp hd
    have := hb z hz
    simp only [whole, Bool.and_eq_true, decide_eq_true_eq]
    omega
  simp only [worB, numsB, modB, this, Bool.and_true, List.length_map, hm]
  simp
  omega
theorem pl_worB {k : Int} {d : D} {N : Nat} (hk : Kd k) (hN : N ≤ 300) (h : PlK k N d) : worB k (decide (k ∈ K6)) d = true := by
  cases h with
  | txt z h4 hz hb =>
    have hm : k ∈ K6 := hk.mem.mpr (by omega)
    subst h4
    have hs : ∀ c ∈ tSig, c ∈ signs := by decide
    have : z.all (fun c => decide (c ∈ signs)) = true := by
      rw [List.all_eq_true]
      intro c hc
      exact decide_eq_true (hs c (hb c hc))
    simp only [worB, hm, decide_true, if_true, textB, this, Bool.and_true]
    exact decide_eq_true (by omega)
  | num ns h3 hn hb =>
    have hm : k ∈ K6 := hk.mem.mpr (by omega)
    have n4 : k ≠ 4 := by omega
    have : (ns.map D.int).all (whole 0 (lim k - 1)) = true := by
      rw [List.all_eq_true]
      intro d hd
      obtain ⟨z, hz, rfl⟩ := List.mem_map.mp hd
      have := hb z hz
      simp only [whole, Bool.and_eq_true, decide_eq_true_eq]
      omega
    simp only [worB, hm, decide_true, n4, if_true, if_false, numsB, this, Bool.and_true, List.length_map]
    exact decide_eq_true (by omega)
  | raw ns h4 h3 hn hmod hb =>
    have nk : ¬ (1 ≤ k ∧ k ≤ 4) := by omega
    have hm : k ∉ K6 := fun h => nk (hk.mem.mp h)
    have dl := due_le k
    rw [← due_raw hk nk] at hmod
    rw [decide_eq_false hm]
    exact raw_worB (by omega) hmod hb
/-! alike -/
theorem rdl_ints {s : Sto} {ns : List Int} (h : ∀ z ∈ ns, z.natAbs < 10 ^ 12) : RdL s 0 (ns.map .int) (ns.map .int) ns.length := by
  obtain ⟨b1, b2, b3, b4, b5, b6⟩ := rd_ints (s := s) ns h
  exact ⟨fun m _ => b1 m, b2, b3, b4, b5, b6⟩
theorem small12 {z : Int} (h : z.natAbs < 10000000000) : z.natAbs < 10 ^ 12 := Nat.lt_trans h (by decide)
theorem ne_same {s : Sto} {n m : Nat} {x y : D} {p : PyData} {w v : Nat} (a : Rd s n x p w) (b : Rd s m y p v) (hn : n ≤ 39) (hm : m ≤ 39) : cmp .ne x y s = .ok (.bl false) s := by
  rw [cmp_neR a b hn hm, a.same]; rfl
theorem eq_same {s : Sto} {n m : Nat} {x y : D} {p : PyData} {w v : Nat} (a : Rd s n x p w) (b : Rd s m y p v) (hn : n ≤ 39) (hm : m ≤ 39) : cmp .eq x y s = .ok (.bl true) s := by
  rw [cmp_eqR a b hn hm, a.same]
theorem rd_cells {s : Sto} {F : List Int} (h : ∀ z ∈ F, z.natAbs < 10000000000) : ∃ p w, Rd s 2 (.tup (cellsD F)) p w := by
  refine ⟨_, _, rd_tup (RdL.all (w := 4) (g := fun i => .tuple (((F.drop (4 * i)).take 4).map .int)) fun i _ => ?_)⟩
  have a := rd_tup (rdl_ints (s := s) (ns := (F.drop (4 * i)).take 4) fun z hz => small12 (h z (List.mem_of_mem_drop (List.mem_of_mem_take hz))))
  exact ⟨a.rd, a.lay, a.dep, a.lvs, a.shw, by have := a.wei; rw [List.length_take] at this; omega⟩
theorem cells_ne {s : Sto} {F : List Int} (h : ∀ z ∈ F, z.natAbs < 10000000000) : cmp .ne (.tup (cellsD F)) (.tup (cellsD F)) s = .ok (.bl false) s := by
  obtain ⟨p, w, a⟩ := rd_cells (s := s) h
  exact ne_same a a (by omega) (by omega)
theorem cells_eq {s : Sto} {F : List Int} (h : ∀ z ∈ F, z.natAbs < 10000000000) : cmp .eq (.tup (cellsD F)) (.tup (cellsD F)) s = .ok (.bl true) s := by
  obtain ⟨p, w, a⟩ := rd_cells (s := s) h
  exact eq_same a a (by omega) (by omega)
theorem ints_ne {s : Sto} {ns : List Int} (h : ∀ z ∈ ns, z.natAbs < 10000000000) : cmp .ne (.tup (ns.map .int)) (.tup (ns.map .int)) s = .ok (.bl false) s := by
  have a := rd_tup (rdl_ints (s := s) (ns := ns) fun z hz => small12 (h z hz))
  exact ne_same a a (by omega) (by omega)
theorem lists_eq {s : Sto} {i j : Nat} {ns : List Int} (h : ∀ z ∈ ns, z.natAbs < 10000000000) (hi : s[i]? = some (.lst (ns.map .int))) (hj : s[j]? = some (.lst (ns.map .int))) : cmp .eq (.obj i) (.obj j) s = .ok (.bl true) s := by
  have r := rdl_ints (s := s) (ns := ns) fun z hz => small12 (h z hz)
  exact eq_same (rd_obj hi r) (rd_obj hj r) (by omega) (by omega)
theorem pl_ne {s : Sto} {k : Int} {N : Nat} {d : D} (h : PlK k N d) : cmp .ne d d s = .ok (.bl false) s := by
  cases h with
  | txt z h4 hz hb =>
    show (match (match some (z == z) with | some b => some (!b) | none => none) with | some b => R.ok (D.bl b) s | none => .bad) = _
    rw [beq_self_eq_true]; rfl
  | num ns h3 hn hb =>
    have ll := lim_le k
    exact ints_ne fun z hz => by have := hb z hz; omega
  | raw ns h4 h3 hn hmod hb => exact ints_ne fun z hz => by have := hb z hz; omega
/-! cells made flat -/
theorem fill_bd {P : List Int} (h : ∀ z ∈ P, 0 ≤ z ∧ z < 256) : ∀ z ∈ fill P, 0 ≤ z ∧ z < 256 := by
  intro z hz
  unfold fill at hz
  rcases List.mem_append.mp hz with hz | hz
  · exact h z hz
  · have := List.eq_of_mem_replicate hz; omega
theorem fill_len {P : List Int} : (fill P).length = P.length + (4 - P.length % 4) % 4 := by unfold fill; simp
def IG (Cs : List (List Int)) (d : D) (s : Sto) (j : Nat) (l : Lo) (t : Sto) : Prop :=
  ∃ v2, l = [some d, some (.obj s.length), v2] ∧ t[s.length]? = some (.lst (((Cs.take j).flatten).map .int)) ∧ Ext s t
theorem flat_post {n : Nat} {F : List Int} {s : Sto} {E : D → Sto → Prop} (hF : F.length % 4 = 0) (hl : F.length ≤ 90000) :
    (callN fns (n + 1) 16 [.tup (cellsD F)] s).post (LsD s F) E := by
  rw [cells_chs]
  have cf := chs_flat hF
  generalize chs F = Cs at *
  rw [call_law_flat]
  refine fin_post ?_
  unfold b_law_flat_0
  refine seq_post ?_
  simp [line]
  unfold b_law_flat_1
  refine seq_post ?_
  simp
  refine for_post (IG Cs (.tup (cellsOf Cs)) s) ?_ ?_ ⟨_, rfl, get_last, .app⟩
  · rintro j d l t hj ⟨v2, rfl, g, e⟩
    unfold cellsOf at hj
    rw [List.getElem?_map] at hj
    simp only [Option.map_eq_some_iff] at hj
    obtain ⟨L, hL, rfl⟩ := hj
    have tf := take_flat (Cs := Cs) (k := j + 1)
    have eI : (List.take (j + 1) Cs).flatten = (List.take j Cs).flatten ++ L := by
      rw [List.take_add_one, hL, Option.toList_some, List.flatten_append]
      simp
    rw [eI, List.length_append, cf] at tf
    unfold IG
    rw [eI]
    generalize (List.take j Cs).flatten = A at *
    simp [zs_cons, mtOk_lst g, bi_list_tup]
    rw [extend_lst (keep_app g) get_last (by simp; omega)]
    simp only [post_ok]
    refine ⟨get_set (by have := lt_of_get g; simp; omega) |>.trans ?_, (e.trans .app).set (Nat.le_refl _)⟩
    simp
  · rintro l t ⟨v2, rfl, g, e⟩
    unfold cellsOf at g
    rw [List.length_map, List.take_length, cf] at g
    simp
    unfold b_law_flat_2
    refine seq_post ?_
    simp
    exact ⟨_, rfl, g, e, Nat.le_refl _⟩
theorem mem14 {k : Int} {s : Sto} : cmp .mem (.int k) (.tup [.int 1, .int 2, .int 3, .int 4]) s = .ok (.bl (decide (k ∈ [1, 2, 3, 4]))) s := mem_tup (K := [1, 2, 3, 4])
theorem mem23 {k : Int} {s : Sto} : cmp .mem (.int k) (.tup [.int 2, .int 3]) s = .ok (.bl (decide (k ∈ [2, 3]))) s := mem_tup (K := [2, 3])
theorem count_post {n : Nat} {o : List Nat} {k c : Int} {d : D} {P : List Int} {s : Sto} {E : D → Sto → Prop} (hk : Kd k) (h : Un o k (k ∈ K6) c P d) (hP : P.length ≤ 1200) :
    (callN fns (n + 2) 15 [.int k, d] s).post (fun r t => r = .int c ∧ Ext s t) E := by
  have dl := due_le k
  have hlen := h.len
  rw [call_law_count]
  refine fin_post ?_
  unfold b_law_count_0
  refine seq_post ?_
  simp only [zs_if, ze_cmp, ze_var, ze_tup, zl_cons, zl_nil, ze_int, post_bindS]
  cases h with
  | raw _ _ hn e =>
    have nk : ¬ (1 ≤ k ∧ k ≤ 4) := fun h => hn (hk.mem.mpr h)
    have hm : ∀ s, cmp .mem (.int k) (.tup [.int 1, .int 2, .int 3, .int 4]) s = .ok (.bl false) s := fun s => by rw [mem14, decide_eq_false (by simp; omega)]
    have ed : bin .div (.int P.length) (.int (due k)) s = .ok (.int c) s := by
      rw [bin_div (by omega) (by omega), ← e, Int.mul_ediv_cancel _ (by omega)]
    simp [hm, line]
    unfold b_law_count_1
    refine seq_post ?_
    simp [bi_len_tup, width_eq hk.pos, ed]
    exact .refl
  | txt z hm h4 hz hb =>
    subst h4
    have hm : ∀ s, cmp .mem (.int 4) (.tup [.int 1, .int 2, .int 3, .int 4]) s = .ok (.bl true) s := fun s => rfl
    have lz : ∀ s, biF .len [.str z] s = .ok (.int z.length) s := fun s => if_pos (by show z.length ≤ 16777216; omega)
    simp [hm, line, zs_cons, lz]
    exact .refl
  | num ns hm h3 hn hb =>
    have hm : ∀ s, cmp .mem (.int k) (.tup [.int 1, .int 2, .int 3, .int 4]) s = .ok (.bl true) s := fun s => by rw [mem14, decide_eq_true (by simp; omega)]
    simp [hm, line, zs_cons, bi_len_tup]
    exact .refl
/-! both orders -/
structure Two (k : Int) (d : D) (Ps Pg : List Int) (w L : Nat) (c : Int) : Prop where
  small : Gw small k (k ∈ K6) d Ps c
  great : Gw great k (k ∈ K6) d Pg c
  len : ∀ s, biF .len [d] s = .ok (.int L) s
  ls : Ps.length = L * w
  lg : Pg.length = L * w
  w1 : (if k = 2 ∨ k = 3 then due k else 1) = w
  w2 : w = 1 ∨ w = 2 ∨ w = 4
  lL : L ≤ 300
  turn : ∀ j, j < L → ((Ps.drop (j * w)).take w).reverse = (Pg.drop (j * w)).take w
theorem rev_one {α : Type} {xs : List α} {j : Nat} : ((xs.drop j).take 1).reverse = (xs.drop j).take 1 := by
  cases xs.drop j with
  | nil => rfl
  | cons x r => simp
theorem wr_turn {w : Nat} {x : Int} : (wr small w x).reverse = wr great w x := by
  unfold wr
  rw [if_neg (show small ≠ great by decide), if_pos rfl]
theorem two_of {k : Int} {d : D} {N : Nat} (hk : Kd k) (hN : N ≤ 300) (h : PlK k N d) : ∃ Ps Pg w L c, Two k d Ps Pg w L c := by
  cases h with
  | txt z h4 hz hb =>
    have hm : k ∈ K6 := hk.mem.mpr (by omega)
    have lz : ∀ s, biF .len [.str z] s = .ok (.int z.length) s := fun s => if_pos (by show z.length ≤ 16777216; omega)
    have bd : ∀ y ∈ z.map (fun c : Nat => (c : Int)), 0 ≤ y ∧ y < 256 := by
      intro y hy
      obtain ⟨c, hc, rfl⟩ := List.mem_map.mp hy
      have := tsig_lt (hb c hc)
      omega
    have g : ∀ o, Gw o k (k ∈ K6) (.str z) (z.map fun c : Nat => (c : Int)) z.length := fun o =>
      have hu : Un o k (k ∈ K6) z.length (z.map fun c : Nat => (c : Int)) (.str z) := .txt z hm h4 (by omega) hb
      ⟨.txt z hm h4 (by omega), hu, by simp; omega, bd, hu.len, by omega⟩
    exact ⟨_, _, 1, z.length, _, g _, g _, lz, by simp, by simp, by rw [if_neg (by omega)]; rfl, by omega, by omega, fun j _ => rev_one⟩
  | num ns h3 hn hb =>
    have hm : k ∈ K6 := hk.mem.mpr (by omega)
    have dl := due_le k
    have d3 := due3 h3
    obtain ⟨w, hw⟩ : ∃ w : Nat, (due k).toNat = w := ⟨_, rfl⟩
    have g : ∀ o, Gw o k (k ∈ K6) (.tup (ns.map .int)) (ns.flatMap (wr o w)) ns.length := fun o => by
      subst hw
      have hu : Un o k (k ∈ K6) ns.length (ns.flatMap (wr o (due k).toNat)) (.tup (ns.map .int)) := .num ns hm h3 (by omega) hb
      refine ⟨.num ns hm h3 (by omega) hb, hu, ?_, ?_, hu.len, by omega⟩
      · rw [flat_len]
        have : ns.length * (due k).toNat ≤ 300 * 4 := Nat.mul_le_mul (by omega) (by omega)
        omega
      · intro y hy
        obtain ⟨x, hx, hy⟩ := List.mem_flatMap.mp hy
        exact wr_bd y hy
    refine ⟨_, _, w, ns.length, _, g _, g _, fun s => by rw [bi_len_tup, List.length_map], flat_len ns, flat_len ns, ?_, by omega, by omega, fun j hj => ?_⟩
    · split <;> omega
    · have hz : ns[j]? = some ns[j] := by simp [hj]
      rw [flat_cut ns j _ hz, flat_cut ns j _ hz, wr_turn]
  | raw ns h4 h3 hn hmod hb =>
    have nk : ¬ (1 ≤ k ∧ k ≤ 4) := by omega
    have hm : k ∉ K6 := fun h => nk (hk.mem.mp h)
    have dl := due_le k
    rw [← due_raw hk nk] at hmod
    have e : (ns.length : Int) / due k * due k = ns.length := Int.ediv_mul_cancel (Int.dvd_of_emod_eq_zero hmod)
    have g : ∀ o, Gw o k (k ∈ K6) (.tup (ns.map .int)) ns ((ns.length : Int) / due k) := fun o => ⟨.raw ns hm, .raw _ ns hm e, by omega, hb, e, Int.ediv_nonneg (by omega) (by omega)⟩
    exact ⟨_, _, 1, ns.length, _, g _, g _, fun s => by rw [bi_len_tup, List.length_map], by omega, by omega, by rw [if_neg (by omega)]; rfl, by omega, by omega, fun j _ => rev_one⟩
theorem rgN_mul3 {m w : Nat} (h : w = 1 ∨ w = 2 ∨ w = 4) : rgN 0 ((m * w : Nat) : Int) (w : Int) = m := by
  unfold rgN
  rcases h with rfl | rfl | rfl <;> split <;> omega
theorem rng3_len {m w : Nat} (h : w = 1 ∨ w = 2 ∨ w = 4) : (rng3 0 ((m * w : Nat) : Int) (w : Int)).length = m := by
  unfold rng3
  rw [List.length_map, List.length_range, rgN_mul3 h]
theorem rng3_get {m w j : Nat} {d : D} (h : w = 1 ∨ w = 2 ∨ w = 4) (hj : (rng3 0 ((m * w : Nat) : Int) (w : Int))[j]? = some d) : j < m ∧ d = .int ((j * w : Nat) : Int) := by
  have hjl : j < m := by
    have := (List.getElem?_eq_some_iff.mp hj).1
    rw [rng3_len h] at this; exact this
  refine ⟨hjl, ?_⟩
  unfold rng3 at hj
  rw [List.getElem?_map, List.getElem?_range (by rw [rgN_mul3 h]; exact hjl)] at hj
  cases hj
  simp
theorem fill_drop {P : List Int} : (fill P).drop P.length = List.replicate ((4 - P.length % 4) % 4) 0 := by
  unfold fill
  exact List.drop_left' rfl
def IH (Pg : List Int) (w q : Nat) (l0 : Option D → Lo) (s : Sto) (j : Nat) (l : Lo) (t : Sto) : Prop :=
  (∃ v, l = l0 v) ∧ t[q]? = some (.lst ((Pg.take (j * w)).map .int)) ∧ Ext s t
theorem mulI {x y : Int} {s : Sto} (h : -1000 < x) (h2 : x < 1000) : bin .mul (.int x) (.int y) s = .ok (.int (x * y)) s := if_pos (by unfold big; omega)
theorem orders_post {n : Nat} {k c : Int} {d : D} {Ps Pg : List Int} {w L : Nat} {s : Sto} {E : D → Sto → Prop} (hk : Kd k) (h : Two k d Ps Pg w L c) :
    (callN fns (n + 4) 17 [.int k, d] s).post (fun r t => r = .bl true ∧ Ext s t) E := by
  have pk := fun (o : List Nat) (P : List Int) (g : Gw o k (k ∈ K6) d P c) (s : Sto) => packed_post (n := n) (E := E) (s := s) g.sp hk.pos (by have := g.len; omega)
  simp only [List.map_cons, List.map_nil] at pk
  have ls := h.ls
  have lg := h.lg
  have hw2 := h.w2
  have hL := h.lL
  have lPs := h.small.len
  rw [call_law_orders_right]
  refine fin_post ?_
  unfold b_law_orders_right_0
  refine seq_post ?_
  simp
  refine R.post_mono (pk small Ps h.small _) ?_ fun _ _ h => h
  rintro r s1 ⟨rfl, e1⟩
  try simp
  refine R.post_mono (flat_post (n := n + 2) (F := fill Ps) (fill_mod Ps) (by rw [fill_len]; omega)) ?_ fun _ _ h => h
  rintro r s2 ⟨q1, rfl, g1, e2, _⟩
  try simp
  unfold b_law_orders_right_1
  refine seq_post ?_
  simp
  refine R.post_mono (pk great Pg h.great _) ?_ fun _ _ h => h
  rintro r s3 ⟨rfl, e3⟩
  try simp
  refine R.post_mono (flat_post (n := n + 2) (F := fill Pg) (fill_mod Pg) (by rw [fill_len]; omega)) ?_ fun _ _ h => h
  rintro r s4 ⟨q2, rfl, g2, e4, _⟩
  have e14 := ((e1.trans e2).trans e3).trans e4
  have g1' := (e3.trans e4) _ _ g1
  clear pk
  try simp
  unfold b_law_orders_right_2
  refine seq_post ?_
  simp
  unfold b_law_orders_right_3
  refine seq_post ?_
  simp only [zs_if, ze_cmp, ze_var, ze_tup, zl_cons, zl_nil, ze_int, post_bindS]
  obtain ⟨W, hW⟩ : ∃ W : Int, W = (w : Int) := ⟨_, rfl⟩
  have tail : ((sem (callN fns (n + 3)) b_law_orders_right_4).s [some (.int k), some d, some (.obj q1), some (.obj q2), some (.int W), none, none, none] s4).post
      (fun r s1 => match r.1 with | .ret d => d = .bl true ∧ Ext s s1 | .nx => False | _ => False) E := by
    obtain ⟨N, hN⟩ : ∃ N : Int, N = ((L * w : Nat) : Int) := ⟨_, rfl⟩
    have em : ∀ s, bin .mul (.int W) (.int L) s = .ok (.int N) s := fun s => by
      rw [hW, mulI (x := (w : Int)) (y := (L : Int)) (by omega) (by omega), hN, Nat.mul_comm, Int.natCast_mul]
    have hw4 : 0 < W ∧ W ≤ 1000000 := by omega
    have hN2 : 0 ≤ N ∧ N ≤ 1200 := by omega
    have hL2 := h.len
    generalize (L : Int) = LL at em hL2
    unfold b_law_orders_right_4
    refine seq_post ?_
    simp [hL2, em]
    unfold b_law_orders_right_5
    refine seq_post ?_
    simp [line]
    unfold b_law_orders_right_6
    refine seq_post ?_
    have hR : rgOk 0 N = true := rgOkI (by omega) (by omega) (by omega) (by omega)
    simp [hR, hw4]
    have eI : ∀ j, j < L → Pg.take ((j + 1) * w) = Pg.take (j * w) ++ ((Ps.drop (j * w)).take w).reverse := fun j hj => by
      rw [h.turn j hj, Nat.add_mul, Nat.one_mul, List.take_add]
    have e45 : Ext s4 (s4 ++ [MO.lst []]) := .app
    have gC := get_last (s := s4) (o := MO.lst [])
    have ql : q1 < s4.length ∧ q2 < s4.length := ⟨lt_of_get g1', lt_of_get g2⟩
    generalize s4 ++ [MO.lst []] = s5 at *
    have lsN : ∀ j, j < L → j * w + w ≤ Ps.length := fun j hj => by
      rw [ls, ← Nat.succ_mul]; exact Nat.mul_le_mul_right w hj
    refine for_post (IH Pg w s4.length (fun v => [some (.int k), some d, some (.obj q1), some (.obj q2), some (.int W), some (.int N), some (.obj s4.length), v]) s4) ?_ ?_ ⟨⟨_, rfl⟩, by simpa using gC, e45⟩
    · rintro j y l t hj ⟨⟨v, rfl⟩, g, e⟩
      rw [hN, hW] at hj
      obtain ⟨hjl, rfl⟩ := rng3_get hw2 hj
      have hlen := lsN j hjl
      have gt := e _ _ g1'
      have lg3 := lt_of_get g
      have ec : opSl (.obj q1) (some ((j * w : Nat) : Int)) (some (((j * w : Nat) : Int) + W)) t = .ok (.obj t.length) (t ++ [.lst (((Ps.drop (j * w)).take w).map .int)]) := by
        have lf : (fill Ps).length = Ps.length + (4 - Ps.length % 4) % 4 := fill_len
        rw [sl_lst gt, cut_map, cut_nn (by omega) (by omega) (by omega), show (((j * w : Nat) : Int) + W).toNat - ((j * w : Nat) : Int).toNat = w by omega, Int.toNat_natCast]
        unfold fill
        rw [List.drop_append_of_le_length (by omega), List.take_append_of_le_length (by rw [List.length_drop]; omega)]
      have lA : ((Pg.take (j * w)).map D.int).length ≤ 1200 := by rw [List.length_map, List.length_take]; omega
      have lB : ((((Ps.drop (j * w)).take w).reverse).map D.int).length ≤ 4 := by rw [List.length_map, List.length_reverse, List.length_take]; omega
      have eJ := congrArg (List.map D.int) (eI j hjl)
      rw [List.map_append] at eJ
      have er : List.reverse (((Ps.drop (j * w)).take w).map D.int) = (((Ps.drop (j * w)).take w).reverse).map D.int := by rw [List.map_reverse]
      unfold IH
      rw [eJ]
      generalize (((Ps.drop (j * w)).take w).reverse).map D.int = B at *
      generalize (Pg.take (j * w)).map D.int = A at *
      generalize ((Ps.drop (j * w)).take w).map D.int = C at *
      generalize ((j * w : Nat) : Int) = x at *
      simp [zs_cons, mtOk_lst g, oInt, ec]
      rw [rev_lst get_last, er]
      simp only [post_ok, R.bind_ok]
      rw [extend_lst (keep_app (keep_app g)) get_last (by omega)]
      simp only [post_ok]
      refine ⟨get_set (by simp; omega), ((e.trans .app).trans .app).set (Nat.le_refl _)⟩
    · rintro l t ⟨⟨v, rfl⟩, g, e⟩
      rw [hN, hW, rng3_len hw2] at g
      rw [List.take_of_length_le (by omega)] at g
      simp only
      unfold b_law_orders_right_7
      refine seq_post ?_
      have gt1 := e _ _ g1'
      have gt2 := e _ _ g2
      obtain ⟨r, hr⟩ : ∃ r : Nat, (4 - Ps.length % 4) % 4 = r := ⟨_, rfl⟩
      have fd : ∀ (u : Sto), u[q1]? = some (.lst ((fill Ps).map .int)) → opSl (.obj q1) (some N) none u = .ok (.obj u.length) (u ++ [.lst ((List.replicate r (0 : Int)).map .int)]) := fun u gu => by
        rw [sl_lst gu, cut_map, cut_from (by omega), show N.toNat = Ps.length by omega, fill_drop, hr]
      have eg : Pg ++ List.replicate r (0 : Int) = fill Pg := by
        unfold fill
        rw [show (4 - Pg.length % 4) % 4 = r by omega]
      have lf : (fill Ps).length = Ps.length + r := by rw [fill_len, hr]
      have bFg : ∀ z ∈ fill Pg, z.natAbs < 10000000000 := fun z hz => by have := fill_bd h.great.bd z hz; omega
      have bR : ∀ z ∈ List.replicate r (0 : Int), z.natAbs < 10000000000 := fun z hz => by have := List.eq_of_mem_replicate hz; subst this; decide
      have eX : (Pg.map D.int) ++ ((List.replicate r (0 : Int)).map .int) = (fill Pg).map .int := by rw [← List.map_append, eg]
      have lx : (Pg.map D.int).length + ((List.replicate r (0 : Int)).map D.int).length ≤ 16777216 := by simp; omega
      have bl : ∀ (u : Sto), u[q1]? = some (.lst ((fill Ps).map .int)) → biF .len [.obj q1] u = .ok (.int (N + r)) u := fun u gu => by
        rw [bi_len_lst gu, List.length_map, lf, show ((Ps.length + r : Nat) : Int) = N + r by omega]
      have em2 : ∀ (u : Sto) (i : Nat), u[i]? = some (.lst [.int 0]) → bin .mul (.obj i) (.int (N + r - N)) u = .ok (.obj u.length) (u ++ [.lst ((List.replicate r (0 : Int)).map .int)]) := fun u i gu => by
        rw [show N + (r : Int) - N = (r : Int) by omega, mul_lst gu (by omega) (by simp; omega) (by omega)]
        simp
      have bs : ∀ u, bin .sub (.int (N + r)) (.int N) u = .ok (.int (N + r - N)) u := fun u => rfl
      generalize (r : Int) = rr at *
      generalize N + rr = NR at *
      generalize NR - N = NS at *
      generalize (List.replicate r (0 : Int)) = Z0 at *
      simp only [zs_ret, ze_and, ze_one, ze_cmp, ze_bin, ze_var, ze_sl, ze_bi, ze_lst, zl_cons, zl_nil, ze_int, post_bindS]
      simp [oInt, fd t gt1]
      rw [add_lst (keep_app g) get_last (by simpa using lx)]
      rw [eX]
      have ea : Ext t (t ++ [MO.lst (Z0.map .int)] ++ [MO.lst ((fill Pg).map .int)]) := Ext.app.trans .app
      have ga := get_last (s := t ++ [MO.lst (Z0.map .int)]) (o := MO.lst ((fill Pg).map .int))
      generalize (t ++ [MO.lst (Z0.map .int)]).length = qa at *
      generalize t ++ [MO.lst (Z0.map .int)] ++ [MO.lst ((fill Pg).map .int)] = u at *
      simp only [post_ok]
      rw [lists_eq bFg ga (ea _ _ gt2)]
      simp only [post_ok, asB, if_true, R.post_bind]
      rw [fd u (ea _ _ gt1)]
      simp only [post_ok]
      have gz := get_last (s := u) (o := MO.lst (Z0.map .int))
      have eb : Ext u (u ++ [MO.lst (Z0.map .int)]) := .app
      generalize u ++ [MO.lst (Z0.map .int)] = u2 at *
      generalize u.length = qz at *
      rw [if_pos (show 1 ≤ line by decide)]
      simp only [post_ok]
      rw [bl _ (keep_app (eb _ _ (ea _ _ gt1)))]
      simp only [post_ok]
      rw [bs]
      simp only [post_ok]
      rw [em2 _ _ get_last]
      simp only [post_ok]
      rw [lists_eq bR (keep_app (keep_app gz)) get_last]
      simp only [post_ok]
      exact ⟨trivial, ((((e14.trans e).trans ea).trans eb).trans .app).trans .app⟩
  have w1 := h.w1
  rw [← hW] at w1
  by_cases h23 : k = 2 ∨ k = 3
  · rw [if_pos h23] at w1
    have hm : ∀ s, cmp .mem (.int k) (.tup [.int 2, .int 3]) s = .ok (.bl true) s := fun s => by rw [mem23, decide_eq_true (by simpa using h23)]
    simp [hm, line, zs_cons, width_eq hk.pos, w1]
    refine R.post_mono tail ?_ fun _ _ h => h
    rintro ⟨f, l⟩ s1 h
    cases f <;> exact h
  · rw [if_neg h23] at w1
    have hm : ∀ s, cmp .mem (.int k) (.tup [.int 2, .int 3]) s = .ok (.bl false) s := fun s => by rw [mem23, decide_eq_false (by simpa using h23)]
    rw [← w1] at tail
    simp [hm, line, zs_cons]
    refine R.post_mono tail ?_ fun _ _ h => h
    rintro ⟨f, l⟩ s1 h
    cases f <;> exact h
/-! raw -/
def IN5 (k : Int) (s1 : Sto) (i : Nat) (acc : List D) (t : Sto) : Prop := (∃ ns : List Int, acc = ns.map .int ∧ ns.length ≤ i ∧ ∀ z ∈ ns, z ≠ k) ∧ Ext s1 t
theorem raw_post {n : Nat} {o : List Nat} {k c : Int} {d : D} {P : List Int} {s : Sto} {E : D → Sto → Prop} (hk : Kd k) (h : Gw o k (k ∈ K6) d P c) (h3 : (P.length : Int) ≤ 300 * due k) :
    (callN fns (n + 4) 18 [.str o, .int k, d, .tup (cellsD (fill P))] s).post (fun r t => r = .bl true ∧ Ext s t) E := by
  have bF : ∀ z ∈ fill P, z.natAbs < 10000000000 := fun z hz => by have := fill_bd h.bd z hz; omega
  have dl := due_le k
  have lP := h.len
  have hcnt := h.cnt
  rw [call_law_raw_right]
  refine fin_post ?_
  unfold b_law_raw_right_0
  refine seq_post ?_
  simp only [zs_asg, ze_bi, zl_cons, zl_nil, post_bindS]
  refine comp_post (s1 := s) (its := K6.map .int) (l0 := [some (.str o), some (.int k), some d, some (.tup (cellsD (fill P))), none, none, none, none]) (IN5 k s) (by simp [line]) rfl ?_ ?_ ⟨⟨[], rfl, by simp, by simp⟩, .app⟩
  · rintro i y acc t hi ⟨⟨ns, rfl, hn, hb⟩, e⟩ hqa
    rw [List.getElem?_map] at hi
    simp only [Option.map_eq_some_iff] at hi
    obtain ⟨z, hz, rfl⟩ := hi
    have hil := (List.getElem?_eq_some_iff.mp hz).1
    have hil : i < 6 := hil
    simp [isNil]
    split
    · rename_i h5
      exact ⟨hqa, ⟨ns, rfl, by omega, hb⟩, e⟩
    · rename_i h5
      refine ⟨hqa, by omega, ⟨ns ++ [z], by simp, by simp; omega, ?_⟩, e.set (Nat.le_refl _)⟩
      intro y hy
      rcases List.mem_append.mp hy with hy | hy
      · exact hb y hy
      · simp at hy; subst hy; exact h5
  rintro acc t ⟨⟨K, rfl, hn, hb⟩, e⟩ hqa
  simp [bi_tuple_lst hqa]
  have nK : k ∉ K := fun hm => hb k hm rfl
  unfold b_law_raw_right_1
  refine seq_post ?_
  simp
  refine R.post_mono (count_post (n := n + 1) hk h.un lP) ?_ fun _ _ h => h
  rintro r s1 ⟨rfl, e1⟩
  try simp
  unfold b_law_raw_right_2
  refine seq_post ?_
  rw [cells_chs]
  have cf := chs_flat (fill_mod P)
  have hX : ∃ X, (chs (fill P)).flatten = P ++ X := ⟨_, cf⟩
  obtain ⟨X, hX⟩ := hX
  have hu : Un o k (k ∈ K) c P (.tup (P.map .int)) := .raw c P nK hcnt
  have hs : Sp o k (k ∈ K) (.tup (P.map .int)) P := .raw P nK
  have lf : (fill P).length ≤ 1203 := by rw [fill_len]; omega
  simp
  refine R.post_mono (unpacked_post (n := n + 1) hX (by rw [cf]; omega) hu hk.pos) ?_ fun _ _ h => h
  rintro r s2 ⟨rfl, e2⟩
  try simp
  unfold b_law_raw_right_3
  refine seq_post ?_
  have hw : Wb 0 s2 1 1200 (.tup (P.map .int)) := .tup (wms_nums (fun z hz => by have := h.bd z hz; omega) lP)
  have hwB := raw_worB (k := k) h3 (by rw [← hcnt]; exact Int.mul_emod_left c (due k)) h.bd
  have lz : ∀ s, biF .len [.tup (P.map D.int)] s = .ok (.int P.length) s := fun s => by rw [bi_len_tup, List.length_map]
  have em : ∀ s, bin .mul (.int c) (.int (due k)) s = .ok (.int P.length) s := fun s => by rw [← hcnt]; exact bin_mulR (by omega) (by omega)
  have ei : ∀ s, cmp .isn (.bl true) (.bl true) s = .ok (.bl false) s := fun s => rfl
  have eP : ∃ Q : D, Q = .tup (P.map .int) := ⟨_, rfl⟩
  obtain ⟨Qd, hQ⟩ := eP
  rw [← hQ] at hw hs lz hwB hu ⊢
  generalize (P.length : Int) = PL at *
  simp
  refine R.post_mono (worths_post (n := n) hw (by omega) hk.pos fun hm => absurd hm nK) ?_ fun _ _ h => h
  rintro r s3 ⟨rfl, e3⟩
  rw [decide_eq_false nK, hwB]
  simp [ei, lz, width_eq hk.pos, em]
  unfold b_law_raw_right_4
  refine seq_post ?_
  simp
  refine R.post_mono (packed_post (n := n) hs hk.pos (by omega)) ?_ fun _ _ h => h
  rintro r s4 ⟨rfl, e4⟩
  rw [← cells_chs, cells_eq bF]
  simp
  exact (((e.trans e1).trans e2).trans e3).trans e4
/-! raw worths of lists -/
theorem raw8 {d : D} (h : PlK 8 40 d) : ∃ ns : List Int, d = .tup (ns.map .int) ∧ ns.length ≤ 40 ∧ ns.length % 4 = 0 ∧ ∀ z ∈ ns, 0 ≤ z ∧ z < 256 := by
  cases h with
  | txt z h4 _ _ => exact absurd h4 (by decide)
  | num ns h3 _ _ => exact absurd h3 (by decide)
  | raw ns h4 h3 hn hm hb =>
    refine ⟨ns, rfl, hn, ?_, hb⟩
    have : w3 8 = 4 := by decide
    rw [this] at hm
    omega
theorem fill_four {P : List Int} (h : P.length % 4 = 0) : fill P = P := by
  unfold fill
  rw [h]; simp
def IR (p j a : Nat) (o : List Nat) (i : Nat) (l : Lo) (t : Sto) : Prop := (∃ v2 v3 v4 v5, l = [some (.obj p), some (.str o), v2, v3, v4, v5]) ∧ Pen p j (a + 200 * i) t
theorem one_list {n p j a : Nat} {o : List Nat} {k : Int} {v3 v4 v5 : Option D} {s : Sto} {Q : Fl × Lo → Sto → Prop} {E : D → Sto → Prop} (h : Pen p j a s) (ha : a ≤ 500000) (hk : k = 5 ∨ k = 6)
    (next : ∀ (v2 v3 v4 v5 : Option D) (t : Sto), Pen p j (a + 200) t → Q (.nx, [some (.obj p), some (.str o), v2, v3, v4, v5]) t) :
    ((sem (callN fns (n + 4)) b_law_lists_right_0a_0).s [some (.obj p), some (.str o), some (.int k), v3, v4, v5] s).post Q E := by
  have k0 : 0 ≤ k := by omega
  have dk : due k = 4 := by rcases hk with rfl | rfl <;> decide
  unfold b_law_lists_right_0a_0
  refine seq_post ?_
  simp
  refine R.post_mono (plain_post (n := n + 1) h (by omega) (by omega) (by omega)) ?_ fun _ _ h => h
  rintro d s1 ⟨hd, p1, k1⟩
  obtain ⟨ns, hd, hn, hm, hb⟩ := raw8 hd
  try simp
  unfold b_law_lists_right_0a_1
  refine seq_post ?_
  simp [line]
  have p1' : Pen p j (a + 150) (s1 ++ [MO.lst [D.tup [.int 1, .int 2, .int 3, .int 4], D.tup []]]) := p1.app
  have g1 := get_last (s := s1) (o := MO.lst [D.tup [.int 1, .int 2, .int 3, .int 4], D.tup []])
  have lp := p1.lt
  have hl : s1.length ≠ p := by omega
  generalize s1 ++ [MO.lst [D.tup [.int 1, .int 2, .int 3, .int 4], D.tup []]] = s2 at *
  refine R.post_mono (draws p1' (by omega) (by omega) (by omega)) ?_ fun _ _ h => h
  rintro r s3 ⟨u, rfl, u1, u2, p3, k3⟩
  have g3 := k3.old _ _ hl g1
  obtain ⟨K, hK, nK⟩ : ∃ K : List Int, L2.atI [D.tup [.int 1, .int 2, .int 3, .int 4], D.tup []] u = some (.tup (K.map .int)) ∧ k ∉ K := by
    have : u = 0 ∨ u = 1 := by omega
    rcases this with rfl | rfl
    · exact ⟨[1, 2, 3, 4], rfl, by simp; omega⟩
    · exact ⟨[], rfl, by simp⟩
  rw [ix_lst g3, hK]
  simp
  have bF : ∀ z ∈ ns, z.natAbs < 10000000000 := fun z hz => by have := hb z hz; omega
  have hs : Sp o k (k ∈ K) (.tup (ns.map .int)) ns := .raw ns nK
  have hcnt : ((ns.length / 4 : Nat) : Int) * due k = ns.length := by rw [dk]; omega
  have hu : Un o k (k ∈ K) ((ns.length / 4 : Nat) : Int) ns (.tup (ns.map .int)) := .raw _ ns nK hcnt
  have hw : ∀ s, Wb 0 s 1 1200 (.tup (ns.map .int)) := fun s => .tup (wms_nums bF (by omega))
  have hwB := raw_worB (k := k) (ns := ns) (by rw [dk]; omega) (by rw [dk]; omega) hb
  have lz : ∀ s, biF .len [.tup (ns.map D.int)] s = .ok (.int ns.length) s := fun s => by rw [bi_len_tup, List.length_map]
  have ed : ∀ s, bin .div (.int ns.length) (.int 4) s = .ok (.int ((ns.length / 4 : Nat) : Int)) s := fun s => by
    rw [bin_div (by omega) (by omega), show (ns.length : Int) / 4 = ((ns.length / 4 : Nat) : Int) by omega]
  have ne : ∀ s, cmp .ne (.tup (ns.map D.int)) (.tup (ns.map .int)) s = .ok (.bl false) s := fun s => ints_ne bF
  have lc : ∀ s, biF .len [.tup (cellsD ns)] s = .ok (.int ((ns.length / 4 : Nat) : Int)) s := fun s => by
    rw [bi_len_tup]; unfold cellsD; rw [List.length_map, List.length_range]
  have ei : ∀ s, cmp .isn (.bl true) (.bl true) s = .ok (.bl false) s := fun s => rfl
  have ec : ∀ s, bin .add (.tup (cellsD ns)) (.tup [.tup [.int 9, .int 8, .int 7, .int 6]]) s = .ok (.tup (cellsOf (chs ns ++ [[9, 8, 7, 6]]))) s := fun s => by
    rw [opAdd_tup (by unfold cellsD; simp; omega), cells_chs]
    unfold cellsOf
    rw [List.map_append]
    rfl
  have hX : (chs ns ++ [[9, 8, 7, 6]]).flatten = ns ++ [9, 8, 7, 6] := by rw [List.flatten_append, chs_flat hm]; rfl
  have lX : (chs ns ++ [[9, 8, 7, 6]]).flatten.length ≤ 90000 := by rw [hX]; simp; omega
  have ff := fill_four hm
  have n90 : ns.length ≤ 90000 := by omega
  rw [← hd] at hs hu hw hwB lz ne
  generalize ((ns.length / 4 : Nat) : Int) = c at *
  generalize (ns.length : Int) = L at *
  unfold b_law_lists_right_0a_2
  refine seq_post ?_
  simp
  refine R.post_mono (packed_post (n := n + 1) hs k0 n90) ?_ fun _ _ h => h
  rintro r s4 ⟨rfl, e4⟩
  rw [ff]
  try simp
  unfold b_law_lists_right_0a_3
  refine seq_post ?_
  simp
  refine R.post_mono (worths_post (n := n + 1) (hw s4) (by omega) k0 fun hm => absurd hm nK) ?_ fun _ _ h => h
  rintro r s5 ⟨rfl, e5⟩
  rw [decide_eq_false nK, hwB]
  simp [ei, lz, lc, ed]
  unfold b_law_lists_right_0a_4
  refine seq_post ?_
  simp [lz, ed, line, ec]
  refine R.post_mono (unpacked_post (n := n + 2) hX lX hu k0) ?_ fun _ _ h => h
  rintro r s6 ⟨rfl, e6⟩
  simp [ne]
  exact next _ _ _ _ s6 ((p3.ext ((e4.trans e5).trans e6)).le (by omega))
theorem lists_post {n p j a : Nat} {o : List Nat} {s : Sto} {E : D → Sto → Prop} (h : Pen p j a s) (ha : a ≤ 400000) :
    (callN fns (n + 5) 19 [.obj p, .str o] s).post (fun r t => r = .bl true ∧ Pen p j (a + 400) t) E := by
  rw [call_law_lists_right]
  refine fin_post ?_
  unfold b_law_lists_right_0
  refine seq_post ?_
  simp [line]
  refine for_post (IR p j a o) ?_ ?_ ⟨⟨_, _, _, _, rfl⟩, h⟩
  · rintro i y l t hi ⟨⟨v2, v3, v4, v5, rfl⟩, pt⟩
    have hi2 : i < 2 := by simpa using (List.getElem?_eq_some_iff.mp hi).1
    obtain ⟨k, rfl, hk⟩ : ∃ k : Int, y = .int k ∧ (k = 5 ∨ k = 6) := by
      have : i = 0 ∨ i = 1 := by omega
      rcases this with rfl | rfl
      · cases hi; exact ⟨5, rfl, .inl rfl⟩
      · cases hi; exact ⟨6, rfl, .inr rfl⟩
    simp
    refine one_list pt (by omega) hk fun v2 v3 v4 v5 t2 p2 => ?_
    exact ⟨⟨_, _, _, _, rfl⟩, p2.le (by omega)⟩
  · rintro l t ⟨⟨v2, v3, v4, v5, rfl⟩, pt⟩
    simp only
    unfold b_law_lists_right_1
    refine seq_post ?_
    simp
    exact pt.le (by simp)
/-! one behind the other -/
theorem ints_inj : ∀ {a b : List Int}, a.map D.int = b.map .int → a = b
  | [], [], _ => rfl
  | [], _ :: _, h => by cases h
  | _ :: _, [], h => by cases h
  | x :: a, y :: b, h => by
    simp only [List.map_cons, List.cons.injEq, D.int.injEq] at h
    rw [h.1, ints_inj h.2]
theorem sp_cat {o : List Nat} {k : Int} {kn : Prop} {d d2 : D} {P P2 : List Int} (h : Sp o k kn d P) (h2 : Sp o k kn d2 P2) (hd : PlK k 40 d) (hd2 : PlK k 40 d2) (lP : P.length ≤ 1200) (lP2 : P2.length ≤ 1200) :
    ∃ dd, (∀ s, bin .add d d2 s = .ok dd s) ∧ Sp o k kn dd (P ++ P2) := by
  cases h with
  | raw _ hn =>
    cases h2 with
    | raw _ _ =>
      refine ⟨.tup ((P ++ P2).map .int), fun s => ?_, .raw _ hn⟩
      rw [opAdd_tup (by simp; omega), List.map_append]
    | txt z2 hm _ _ => exact absurd hm hn
    | num ns2 hm _ _ _ => exact absurd hm hn
  | txt z hm h4 hz =>
    cases h2 with
    | raw _ hn => exact absurd hm hn
    | txt z2 _ _ hz2 =>
      have a : z.length ≤ 40 := by cases hd; assumption
      have b : z2.length ≤ 40 := by cases hd2; assumption
      refine ⟨.str (z ++ z2), fun s => if_pos (by show z.length + z2.length ≤ 16777216; omega), ?_⟩
      rw [← List.map_append]
      exact .txt _ hm h4 (by rw [List.length_append]; omega)
    | num ns2 _ h3 _ _ => omega
  | num ns hm h3 hn hb =>
    cases h2 with
    | raw _ hn => exact absurd hm hn
    | txt z2 _ h4 _ => omega
    | num ns2 _ _ hn2 hb2 =>
      have a : ns.length ≤ 40 := by
        have e : ∀ {x : D}, PlK k 40 x → ∀ m : List Int, x = .tup (m.map .int) → m.length ≤ 40 := by
          intro x hx m e
          cases hx with
          | txt z h4 _ _ => cases e
          | num ns' _ hn' _ => rw [← ints_inj (D.tup.inj e)]; exact hn'
          | raw ns' _ _ hn' _ _ => rw [← ints_inj (D.tup.inj e)]; exact hn'
        exact e hd ns rfl
      have b : ns2.length ≤ 40 := by
        have e : ∀ {x : D}, PlK k 40 x → ∀ m : List Int, x = .tup (m.map .int) → m.length ≤ 40 := by
          intro x hx m e
          cases hx with
          | txt z h4 _ _ => cases e
          | num ns' _ hn' _ => rw [← ints_inj (D.tup.inj e)]; exact hn'
          | raw ns' _ _ hn' _ _ => rw [← ints_inj (D.tup.inj e)]; exact hn'
        exact e hd2 ns2 rfl
      refine ⟨.tup ((ns ++ ns2).map .int), fun s => ?_, ?_⟩
      · rw [opAdd_tup (by simp; omega), List.map_append]
      · rw [← List.flatMap_append]
        exact .num _ hm h3 (by rw [List.length_append]; omega) fun z hz => by
          rcases List.mem_append.mp hz with hz | hz
          · exact hb z hz
          · exact hb2 z hz
theorem cells_cat {P F : List Int} (h : P.length % 4 = 0) : cellsD (P ++ F) = cellsD P ++ cellsD F := by
  unfold cellsD
  rw [List.length_append, show (P.length + F.length) / 4 = P.length / 4 + F.length / 4 by omega, List.range_add, List.map_append, List.map_map]
  congr 1
  · apply List.map_congr_left
    intro i hi
    rw [List.mem_range] at hi
    unfold chunk
    rw [List.drop_append_of_le_length (by omega), List.take_append_of_le_length (by rw [List.length_drop]; omega)]
  · apply List.map_congr_left
    intro i hi
    show D.tup (chunk (P ++ F) (P.length / 4 + i)) = _
    unfold chunk
    rw [show 4 * (P.length / 4 + i) = P.length + 4 * i by omega, ← List.drop_drop, List.drop_left' rfl]
theorem fill_cat {P P2 : List Int} (h : P.length % 4 = 0) : fill (P ++ P2) = P ++ fill P2 := by
  unfold fill
  rw [List.append_assoc, List.length_append, show (4 - (P.length + P2.length) % 4) % 4 = (4 - P2.length % 4) % 4 by omega]
theorem sp_fun {o : List Nat} {k : Int} {kn : Prop} {d : D} {P P2 : List Int} (h : Sp o k kn d P) (h2 : Sp o k kn d P2) : P = P2 := by
  have key : ∀ {e1 e2 : D}, Sp o k kn e1 P → Sp o k kn e2 P2 → e1 = e2 → P = P2 := by
    intro e1 e2 h h2 he
    cases h with
    | raw _ hn =>
      cases h2 with
      | raw _ _ => exact ints_inj (D.tup.inj he)
      | txt z2 hm _ _ => exact absurd hm hn
      | num ns2 hm _ _ _ => exact absurd hm hn
    | txt z hm h4 hz =>
      cases h2 with
      | raw _ hn => exact absurd hm hn
      | txt z2 _ _ hz2 => rw [D.str.inj he]
      | num ns2 _ h3 _ _ => omega
    | num ns hm h3 hn hb =>
      cases h2 with
      | raw _ hn => exact absurd hm hn
      | txt z2 _ h4 _ => omega
      | num ns2 _ _ _ _ => rw [ints_inj (D.tup.inj he)]
  exact key h h2 rfl
theorem turn_0 {n p j a : Nat} {x0 v2 v3 v4 v5 v6 v7 v8 v9 : Option D} {s : Sto} {Q : Fl × Lo → Sto → Prop} {E : D → Sto → Prop} (h : Pen p j a s) (ha : a ≤ 400000)
    (next : ∀ (o : List Nat) (k : Int) (d : D) (t : Sto), Kd k → PlK k 40 d → Pen p j (a + 200) t →
      ((sem (callN fns (n + 6)) b_law_1a_3).s [x0, some (.obj p), v2, some (.str o), some (.int k), some d, v6, v7, v8, v9] t).post Q E) :
    ((sem (callN fns (n + 6)) b_law_1a_0).s [x0, some (.obj p), v2, v3, v4, v5, v6, v7, v8, v9] s).post Q E := by
  unfold b_law_1a_0
  refine seq_post ?_
  simp [line]
  refine R.post_mono (draws h.app (by omega) (by omega) (by omega)) ?_ fun _ _ h => h
  rintro d s1 ⟨u, rfl, u1, u2, p1, k1⟩
  have lp := h.lt
  have g1 := k1.old s.length _ (by omega) get_last
  obtain ⟨o, ho⟩ : ∃ o : List Nat, L2.atI [D.str [115, 109, 97, 108, 108], D.str [103, 114, 101, 97, 116]] u = some (.str o) := by
    have : u = 0 ∨ u = 1 := by omega
    rcases this with rfl | rfl <;> exact ⟨_, rfl⟩
  rw [ix_lst g1, ho]
  clear g1 ho
  simp
  unfold b_law_1a_1
  refine seq_post ?_
  simp
  refine R.post_mono (draws p1 (by omega) (by omega) (by omega)) ?_ fun _ _ h => h
  rintro d s3 ⟨v, rfl, w1, w2, p3, k3⟩
  simp [line]
  refine R.post_mono (draws (p3.app) (by omega) (by omega) (by omega)) ?_ fun _ _ h => h
  rintro d s4 ⟨w, rfl, x1, x2, p4, k4⟩
  have lp3 := p3.lt
  have g4 := k4.old s3.length _ (by omega) get_last
  obtain ⟨k, hk, hK⟩ : ∃ k : Int, L2.atI [D.int 1, .int 2, .int 3, .int 4, .int 0, .int 7, .int 8, .int 9, .int 65535, .int (10 + v)] w = some (.int k) ∧ Kd k := by
    unfold Kd
    have : w = 0 ∨ w = 1 ∨ w = 2 ∨ w = 3 ∨ w = 4 ∨ w = 5 ∨ w = 6 ∨ w = 7 ∨ w = 8 ∨ w = 9 := by omega
    rcases this with rfl | rfl | rfl | rfl | rfl | rfl | rfl | rfl | rfl | rfl <;> exact ⟨_, rfl, by omega⟩
  rw [ix_lst g4, hk]
  simp
  clear g4 hk
  unfold b_law_1a_2
  refine seq_post ?_
  simp
  refine R.post_mono (plain_post (n := n + 3) p4 (by omega) hK.pos (by unfold Kd at hK; omega)) ?_ fun _ _ h => h
  rintro d s5 ⟨hd, p5, k5⟩
  exact next o k d s5 hK hd (p5.le (by omega))
def IL (x0 : D) (p j : Nat) (k : Nat) (l : Lo) (t : Sto) : Prop := ∃ v2 v3 v4 v5 v6 v7 v8 v9, l = [some x0, some (.obj p), v2, v3, v4, v5, v6, v7, v8, v9] ∧ Pen p j (k * 1000) t
theorem pl_small {k : Int} {d : D} {o : List Nat} {P : List Int} {c : Int} (h : PlK k 40 d) (g : Gw o k (k ∈ K6) d P c) : (P.length : Int) ≤ 300 * due k := by
  have dl := due_le k
  have hc := g.cnt
  have : P.length ≤ 160 := by
    cases g.sp with
    | raw _ hn =>
      have e : ∀ {x : D}, PlK k 40 x → x = .tup (P.map .int) → P.length ≤ 160 := by
        intro x hx e
        cases hx with
        | txt z h4 _ _ => cases e
        | num ns' _ hn' _ => rw [← ints_inj (D.tup.inj e)]; omega
        | raw ns' _ _ hn' _ _ => rw [← ints_inj (D.tup.inj e)]; omega
      exact e h rfl
    | txt z _ _ _ =>
      have a : z.length ≤ 40 := by cases h; assumption
      rw [List.length_map]; omega
    | num ns _ _ _ _ =>
      have e : ∀ {x : D}, PlK k 40 x → x = .tup (ns.map .int) → ns.length ≤ 40 := by
        intro x hx e
        cases hx with
        | txt z h4 _ _ => cases e
        | num ns' _ hn' _ => rw [← ints_inj (D.tup.inj e)]; exact hn'
        | raw ns' _ _ hn' _ _ => rw [← ints_inj (D.tup.inj e)]; exact hn'
      have a := e h rfl
      rw [flat_len]
      have : ns.length * (due k).toNat ≤ 40 * 4 := Nat.mul_le_mul a (by omega)
      omega
  omega
theorem turn_3 {n p j a i : Nat} {o : List Nat} {k : Int} {d x0 : D} {v2 v6 v7 v8 v9 : Option D} {s : Sto} {E : D → Sto → Prop} (hk : Kd k) (hd : PlK k 40 d) (hp : Pen p j a s) (ha : a ≤ 300000) (hi : a + 600 ≤ i * 1000) :
    ((sem (callN fns (n + 6)) b_law_1a_3).s [some x0, some (.obj p), v2, some (.str o), some (.int k), some d, v6, v7, v8, v9] s).post (fun r t => r.1 = .nx ∧ IL x0 p j i r.2 t) E := by
  obtain ⟨P, c, hg⟩ := gw_of (o := o) hk (by omega) hd
  obtain ⟨Ps, Pg, w, L, c2, h2⟩ := two_of hk (by omega) hd
  have k0 := hk.pos
  have lP := hg.len
  have hsm := pl_small hd hg
  have hwB := pl_worB hk (by omega) hd
  have wp := worths_post (n := n + 3) (E := E) (K := K6) (k := k) (w := 40) (m := 1) (p := 0) (s := s) (pl_wm hd) (by omega) k0 (fun h => hk.mem.mp h)
  rw [hwB] at wp
  have pk := fun (d : D) (P : List Int) (s : Sto) (h : Sp o k (k ∈ K6) d P) (hl : P.length ≤ 90000) => packed_post (n := n + 3) (E := E) (s := s) h k0 hl
  have cf := chs_flat (fill_mod P)
  obtain ⟨X, hX⟩ : ∃ X, (chs (fill P)).flatten = P ++ X := ⟨_, cf⟩
  have lf : (fill P).length ≤ 1203 := by rw [fill_len]; omega
  have up := fun s => unpacked_post (n := n + 4) (E := E) (s := s) hX (by rw [cf]; omega) hg.un k0
  rw [← cells_chs] at up
  simp only [List.map_cons, List.map_nil] at wp pk up
  have ei : ∀ s, cmp .isn (.bl true) (.bl true) s = .ok (.bl false) s := fun s => rfl
  have em : ∀ s, bin .mul (.int c) (.int (due k)) s = .ok (.int P.length) s := fun s => by
    have dl := due_le k
    rw [← hg.cnt]; exact bin_mulR (by omega) (by omega)
  have ed : ∀ s, bin .div (.int ((P.length : Int) + 3)) (.int 4) s = .ok (.int (((fill P).length / 4 : Nat) : Int)) s := fun s => by
    rw [bin_div (by omega) (by omega), show ((P.length : Int) + 3) / 4 = (((fill P).length / 4 : Nat) : Int) by rw [fill_len]; omega]
  have lc : ∀ s, biF .len [.tup (cellsD (fill P))] s = .ok (.int (((fill P).length / 4 : Nat) : Int)) s := fun s => by
    rw [bi_len_tup]; unfold cellsD; rw [List.length_map, List.length_range]
  have mod4 : ∀ s, bin .mod (.int P.length) (.int 4) s = .ok (.int ((P.length : Int) % 4)) s := fun s => bin_mod (by omega)
  have m0 : (P.length : Int) % 4 = 0 → P.length % 4 = 0 := by omega
  generalize (((fill P).length / 4 : Nat) : Int) = LC at *
  generalize (P.length : Int) % 4 = M at *
  generalize hPL : (P.length : Int) = PL at *
  unfold b_law_1a_3
  refine seq_post ?_
  simp
  refine R.post_mono wp ?_ fun _ _ h => h
  rintro r s1 ⟨rfl, e1⟩
  simp [ei]
  unfold b_law_1a_4
  refine seq_post ?_
  simp
  refine R.post_mono (count_post (n := n + 4) hk hg.un lP) ?_ fun _ _ h => h
  rintro r s2 ⟨rfl, e2⟩
  try simp
  unfold b_law_1a_5
  refine seq_post ?_
  simp
  refine R.post_mono (pk d P _ hg.sp (by omega)) ?_ fun _ _ h => h
  rintro r s3 ⟨rfl, e3⟩
  try simp
  unfold b_law_1a_6
  refine seq_post ?_
  simp [lc, width_eq k0, em, ed]
  refine R.post_mono (up s3) ?_ fun _ _ h => h
  rintro r s4 ⟨rfl, e4⟩
  rw [pl_ne hd]
  simp
  unfold b_law_1a_7
  refine seq_post ?_
  simp
  refine R.post_mono (orders_post (n := n + 2) hk h2) ?_ fun _ _ h => h
  rintro r s5 ⟨rfl, e5⟩
  simp
  refine R.post_mono (raw_post (n := n + 2) hk hg (by omega)) ?_ fun _ _ h => h
  rintro r s6 ⟨rfl, e6⟩
  simp
  have e16 := ((((e1.trans e2).trans e3).trans e4).trans e5).trans e6
  unfold b_law_1a_8
  refine seq_post ?_
  simp
  refine R.post_mono (lists_post (n := n + 1) (hp.ext e16) (by omega)) ?_ fun _ _ h => h
  rintro r s7 ⟨rfl, p7⟩
  simp
  unfold b_law_1a_9
  refine seq_post ?_
  simp
  refine R.post_mono (plain_post (n := n + 3) p7 (by omega) k0 (by unfold Kd at hk; omega)) ?_ fun _ _ h => h
  rintro d2 s8 ⟨hd2, p8, k8⟩
  obtain ⟨P2, c3, hg2⟩ := gw_of (o := o) hk (by omega) hd2
  have lP2 := hg2.len
  obtain ⟨dd, hdd, hsd⟩ := sp_cat hg.sp hg2.sp hd hd2 lP lP2
  try simp
  unfold b_law_1a_10
  refine seq_post ?_
  simp [hdd]
  refine R.post_mono (pk dd (P ++ P2) _ hsd (by rw [List.length_append]; omega)) ?_ fun _ _ h => h
  rintro r s9 ⟨rfl, e9⟩
  try simp
  unfold b_law_1a_11
  refine seq_post ?_
  simp [width_eq k0, em, mod4]
  by_cases hM : M = 0
  · simp [hM]
    refine R.post_mono (pk d2 P2 _ hg2.sp (by omega)) ?_ fun _ _ h => h
    rintro r s10 ⟨rfl, e10⟩
    have hm4 := m0 hM
    have lf2 : (fill P2).length ≤ 1203 := by rw [fill_len]; omega
    have lcl : ∀ F : List Int, (cellsD F).length = F.length / 4 := fun F => by unfold cellsD; simp
    rw [fill_cat hm4, cells_cat hm4, fill_four hm4]
    rw [opAdd_tup (by rw [lcl, lcl]; omega)]
    simp only [post_ok]
    rw [← cells_cat hm4, cells_ne (fun z hz => by
      rcases List.mem_append.mp hz with hz | hz
      · have := hg.bd z hz; omega
      · have := fill_bd hg2.bd z hz; omega)]
    simp
    exact ⟨_, _, _, _, _, _, _, _, rfl, ((p8.ext e9).ext e10).le (by omega)⟩
  · simp [hM]
    exact ⟨_, _, _, _, _, _, _, _, rfl, (p8.ext e9).le (by omega)⟩
theorem law_true (ns : List Int) (hl : ns.length ≤ 63) (hb : ∀ z ∈ ns, PySem.Builtin.Int.intBits z ≤ 1048576) : ∃ st', callN fns (6 + 1) 20 [.kl (ns.map .int)] [] = .ok (.bl true) st' := by
  suffices h : (callN fns (6 + 1) 20 [.kl (ns.map .int)] []).post (fun d _ => d = .bl true) (fun _ _ => False) by
    obtain ⟨d, s, e, rfl⟩ := post_exists h
    exact ⟨s, e⟩
  rw [call_law]
  refine fin_post ?_
  generalize hx0 : D.kl (ns.map .int) = x0
  unfold b_law_0
  refine seq_post ?_
  simp
  rw [call_law_pen, ← hx0]
  refine R.post_mono pen_call ?_ fun _ _ h => h
  rintro d s ⟨rfl, hp, _⟩
  rw [hx0]
  generalize ([] : Sto).length = p at *
  generalize p + 2 = c at *
  unfold b_law_1
  refine seq_post ?_
  simp [rgOkI (a := 0) (b := 16) (by omega) (by omega) (by omega) (by omega)]
  refine for_post (IL x0 p c) ?_ ?_ ?_
  · rintro i d l t hi ⟨v2, v3, v4, v5, v6, v7, v8, v9, rfl, hp⟩
    obtain ⟨rfl, hi⟩ := rng_get hi
    generalize hd2 : D.int (0 + (i : Int)) = d2
    simp
    refine turn_0 (n := 0) hp (by omega) fun o k d t1 hk hd p1 => ?_
    refine R.post_mono (turn_3 (n := 0) (i := i + 1) hk hd p1 (by omega) (by omega)) ?_ fun _ _ h => h
    rintro ⟨f, l⟩ t6 ⟨rfl, h⟩
    exact h
  · rintro l t ⟨v2, v3, v4, v5, v6, v7, v8, v9, rfl, hp⟩
    simp only
    unfold b_law_2
    refine seq_post ?_
    simp
  · exact ⟨_, _, _, _, _, _, _, _, rfl, hp.le (by omega)⟩
end Z.k10

set_option maxHeartbeats 4000000 in
theorem PySem.Challenge.cw_tornentries_k10_whole_worths_there_and_b_holds : PySem.Challenge.rw_tornentries_k10_whole_worths_there_and_b.Holds := by
  w_on; o_law; k_head
  (case hw => w_witness2)
  k_fill
  refine Z.law_end (l := PySem.Challenge.rw_tornentries_k10_whole_worths_there_and_b) (G := Z.k10.G) (fs := Z.k10.fns) (x := "_law_script") 6 20 rfl rfl ⟨rfl, by decide, by decide⟩ (fun w h Y => PySem.W.kIn_of Y) ?T Z.k10.law_true
  case T =>
    intro w mg h KX Gn
    refine' Z.k10.text KX Gn (Z.cst_tup KX Gn ?z0 ?y0 ?x0 rfl (by decide)) (Z.cst_tup KX Gn ?z1 ?y1 ?x1 rfl (by decide)) (Z.cst_tup KX Gn ?z2 ?y2 ?x2 rfl (by decide)) (Z.cst_int KX Gn ?z3) (Z.cst_int KX Gn ?z4) (Z.cst_int KX Gn ?z5) (Z.cst_int KX Gn ?z6) (Z.cst_int KX Gn ?z7) (Z.cst_str KX Gn ?z8 ?x8) (.mk ?a0 ?l0 ?c0 ?k0) (.mk ?a1 ?l1 ?c1 ?k1) (.mk ?a2 ?l2 ?c2 ?k2) (.mk ?a3 ?l3 ?c3 ?k3) (.mk ?a4 ?l4 ?c4 ?k4 ?n4 Z.cstV_int) (.mk ?a5 ?l5 ?c5 ?k5 ?n5 (Z.cstV_tup ?vy5 ?vx5 rfl (by decide))) (.mk ?a6 ?l6 ?c6 ?k6) (.mk ?a7 ?l7 ?c7 ?k7) (.mk ?a8 ?l8 ?c8 ?k8 ?n8 (Z.cstV_tup ?vy8 ?vx8 rfl (by decide))) (.mk ?a9 ?l9 ?c9 ?k9 ?n9 (Z.cstV_tup ?vy9 ?vx9 rfl (by decide))) (.mk ?a10 ?l10 ?c10 ?k10) (.mk ?a11 ?l11 ?c11 ?k11) (.mk ?a12 ?l12 ?c12 ?k12) (.mk ?a13 ?l13 ?c13 ?k13) (.mk ?a14 ?l14 ?c14 ?k14) (.mk ?a15 ?l15 ?c15 ?k15) (.mk ?a16 ?l16 ?c16 ?k16) (.mk ?a17 ?l17 ?c17 ?k17) (.mk ?a18 ?l18 ?c18 ?k18) (.mk ?a19 ?l19 ?c19 ?k19) (.mk ?a20 ?l20 ?c20 ?k20) ?b0 ?b1 ?b2 ?b3 ?b4 ?b5 ?b6 ?b7 ?b8 ?b9 ?b10 ?b11 ?b12 ?b13 ?b14 ?b15 ?b16 ?b17 ?b18 ?b19 ?b20 ?b21 ?b22 ?b23 (Z.cst_dct KX Gn ?wa0 ?wb0 ?wc0)
    (case z0 => k_is); (case y0 => k_is); (case x0 => rfl)
    (case z1 => k_is); (case y1 => k_is); (case x1 => rfl)
    (case z2 => k_is); (case y2 => k_is); (case x2 => rfl)
    (case z3 => k_is)
    (case z4 => k_is)
    (case z5 => k_is)
    (case z6 => k_is)
    (case z7 => k_is)
    (case z8 => k_is); (case x8 => rfl)
    (case a0 => k_is); (case l0 => k_is); (case c0 => k_is); (case k0 => k_is)
    (case a1 => k_is); (case l1 => k_is); (case c1 => k_is); (case k1 => k_is)
    (case a2 => k_is); (case l2 => k_is); (case c2 => k_is); (case k2 => k_is)
    (case a3 => k_is); (case l3 => k_is); (case c3 => k_is); (case k3 => k_is)
    (case a4 => k_is); (case l4 => k_is); (case c4 => k_is); (case k4 => k_is)
    (case n4 => k_is)
    (case a5 => k_is); (case l5 => k_is); (case c5 => k_is); (case k5 => k_is)
    (case n5 => k_is); (case vy5 => k_is); (case vx5 => rfl)
    (case a6 => k_is); (case l6 => k_is); (case c6 => k_is); (case k6 => k_is)
    (case a7 => k_is); (case l7 => k_is); (case c7 => k_is); (case k7 => k_is)
    (case a8 => k_is); (case l8 => k_is); (case c8 => k_is); (case k8 => k_is)
    (case n8 => k_is); (case vy8 => k_is); (case vx8 => rfl)
    (case a9 => k_is); (case l9 => k_is); (case c9 => k_is); (case k9 => k_is)
    (case n9 => k_is); (case vy9 => k_is); (case vx9 => rfl)
    (case a10 => k_is); (case l10 => k_is); (case c10 => k_is); (case k10 => k_is)
    (case a11 => k_is); (case l11 => k_is); (case c11 => k_is); (case k11 => k_is)
    (case a12 => k_is); (case l12 => k_is); (case c12 => k_is); (case k12 => k_is)
    (case a13 => k_is); (case l13 => k_is); (case c13 => k_is); (case k13 => k_is)
    (case a14 => k_is); (case l14 => k_is); (case c14 => k_is); (case k14 => k_is)
    (case a15 => k_is); (case l15 => k_is); (case c15 => k_is); (case k15 => k_is)
    (case a16 => k_is); (case l16 => k_is); (case c16 => k_is); (case k16 => k_is)
    (case a17 => k_is); (case l17 => k_is); (case c17 => k_is); (case k17 => k_is)
    (case a18 => k_is); (case l18 => k_is); (case c18 => k_is); (case k18 => k_is)
    (case a19 => k_is); (case l19 => k_is); (case c19 => k_is); (case k19 => k_is)
    (case a20 => k_is); (case l20 => k_is); (case c20 => k_is); (case k20 => k_is)
    (case wa0 => k_is); (case wb0 => k_is); (case wc0 => rfl)
    (case b0 => k_is)
    (case b1 => k_is)
    (case b2 => k_is)
    (case b3 => k_is)
    (case b4 => k_is)
    (case b5 => k_is)
    (case b6 => k_is)
    (case b7 => k_is)
    (case b8 => k_is)
    (case b9 => k_is)
    (case b10 => k_is)
    (case b11 => k_is)
    (case b12 => k_is)
    (case b13 => k_is)
    (case b14 => k_is)
    (case b15 => k_is)
    (case b16 => k_is)
    (case b17 => k_is)
    (case b18 => k_is)
    (case b19 => k_is)
    (case b20 => k_is)
    (case b21 => k_is)
    (case b22 => k_is)
    (case b23 => k_is)
