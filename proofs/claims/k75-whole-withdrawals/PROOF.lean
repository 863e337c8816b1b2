import PyProof.Rows.All
import HandS.ForMost
import KE.SortData
import HandS.Codes
import HandS.Head0
import HandS.Head1
import HandS.Head2
import HandS.ForExc
import HandS.Evl
import HandS.TryMany
import HandS.IsInst
import HandS.TupAny
import HandS.TupMul
import HandS.Zip
import HandS.Walk
import HandS.Deep
import HandS.Strs
import HandS.Style
import HandS.HeadHook1
import HandS.HeadWalk
import KE.DataFind
import PyProof.Transfer
import KE.DataMinMax
import HandS.CallRecv
import HandS.HeadHook2
import HandS.Defaults
import PySem.Challenge.RW_chainpapers_k75_whole_withdrawals
import PyProof.ExcBaseAll.ValueError
import PyProof.ReprLen
set_option Elab.async false
set_option linter.all false
set_option autoImplicit false
/-! Part 1: a small language of our own, and what its texts do. -/
namespace K75
open PySem

/-! ### equality of data, decided -/
mutual
def eqD : PyData → PyData → Bool
  | .none, .none => true
  | .bool a, .bool b => a == b
  | .int a, .int b => a == b
  | .str a, .str b => a == b
  | .list a, .list b => eqDs a b
  | .tuple a, .tuple b => eqDs a b
  | .dict a, .dict b => eqKs a b
  | _, _ => false
def eqDs : List PyData → List PyData → Bool
  | [], [] => true
  | a :: r, b :: t => eqD a b && eqDs r t
  | _, _ => false
def eqKs : List (PyData × PyData) → List (PyData × PyData) → Bool
  | [], [] => true
  | (a, a') :: r, (b, b') :: t => eqD a b && eqD a' b' && eqKs r t
  | _, _ => false
end
mutual
theorem eqD_refl : ∀ d, eqD d d = true
  | .none => rfl
  | .bool a => by simp [eqD]
  | .int a => by simp [eqD]
  | .str a => by simp [eqD]
  | .list a => by simp [eqD, eqDs_refl a]
  | .tuple a => by simp [eqD, eqDs_refl a]
  | .dict a => by simp [eqD, eqKs_refl a]
theorem eqDs_refl : ∀ d, eqDs d d = true
  | [] => rfl
  | a :: r => by simp [eqDs, eqD_refl a, eqDs_refl r]
theorem eqKs_refl : ∀ d, eqKs d d = true
  | [] => rfl
  | (a, b) :: r => by simp [eqKs, eqD_refl a, eqD_refl b, eqKs_refl r]
end
mutual
theorem eqD_eq : ∀ {a b : PyData}, eqD a b = true → a = b
  | .none, b, h => by cases b <;> simp_all [eqD]
  | .bool x, b, h => by cases b <;> simp_all [eqD]
  | .int x, b, h => by cases b <;> simp_all [eqD]
  | .str x, b, h => by cases b <;> simp_all [eqD]
  | .list x, b, h => by
    cases b with
    | list y => simp only [eqD] at h; rw [eqDs_eq h]
    | _ => simp [eqD] at h
  | .tuple x, b, h => by
    cases b with
    | tuple y => simp only [eqD] at h; rw [eqDs_eq h]
    | _ => simp [eqD] at h
  | .dict x, b, h => by
    cases b with
    | dict y => simp only [eqD] at h; rw [eqKs_eq h]
    | _ => simp [eqD] at h
theorem eqDs_eq : ∀ {a b : List PyData}, eqDs a b = true → a = b
  | [], b, h => by cases b <;> simp_all [eqDs]
  | x :: r, b, h => by
    cases b with
    | nil => simp [eqDs] at h
    | cons y t =>
      simp only [eqDs, Bool.and_eq_true] at h
      rw [eqD_eq h.1, eqDs_eq h.2]
theorem eqKs_eq : ∀ {a b : List (PyData × PyData)}, eqKs a b = true → a = b
  | [], b, h => by cases b <;> simp_all [eqKs]
  | (x, x') :: r, b, h => by
    cases b with
    | nil => simp [eqKs] at h
    | cons y t =>
      obtain ⟨y, y'⟩ := y
      simp only [eqKs, Bool.and_eq_true] at h
      rw [eqD_eq h.1.1, eqD_eq h.1.2, eqKs_eq h.2]
end
instance : DecidableEq PyData := fun a b => if h : eqD a b = true then .isTrue (eqD_eq h) else .isFalse fun e => h (by rw [e]; exact eqD_refl b)

/-! ### names -/
inductive Cl | reading | desk deriving DecidableEq, Repr
inductive Fd | text | place | lots | done | undone deriving DecidableEq, Repr
inductive Xc | name | number | word | isThere | notThere deriving DecidableEq, Repr
inductive Fn
  | is_whole | is_truth | is_tuple_of | fits_word | fits_words | is_ascending | fits_lot | fits_name | need_name
  | seal_by | number_row | value_row | need_key | fits_entry | fits_scope | fits_within | fits_list | need_list
  | can_reach | list_text | number_text | truth_text | name_text | list_of_text | thing_text | truth_in | numbers_in
  | list_in | with_thing | without_thing | stepped | can_step | own_seal | need_text | read_in | read_by | read_list
  | need_times | read_thing | newest_plain
  | r_init | r_sign | r_goes_on | r_marks | r_ends | r_one_of | r_word | r_number | r_number_or_none | r_words | r_entry | r_item | r_several
  | d_init | d_store | d_deeds | d_does | d_put | d_puts_list | d_withdraw | d_give_back | d_undo
  | l_cup | l_roll | l_some | l_groups | l_row | l_seal | l_sealed_list | l_words | l_several | l_integer | l_list_text
  | l_same | l_call | l_is_number | l_flaw | l_newest | l_listed | law
  deriving DecidableEq, Repr

/-! ### values, the store -/
inductive Val where
  | d (x : PyData)
  | o (n : Nat)
  deriving DecidableEq
inductive MO where
  | lst (xs : List PyData)
  | ins (c : Cl) (fs : List (Fd × Val))
  deriving DecidableEq
abbrev Sto := List MO
abbrev Loc := List (Option Val)

/-! ### texts -/
inductive Bop | add | sub | mul | fdiv | mod | pow deriving DecidableEq, Repr
inductive Cop | eq | ne | lt | le | gt | ge | isIn | notIn | is_ deriving DecidableEq, Repr
inductive Ty | bool | int | str | tuple deriving DecidableEq, Repr
inductive Bi | len | all | any | tuple | list | sorted | int | str | repr | ord | abs | max deriving DecidableEq, Repr
inductive Dm | join | startswith deriving DecidableEq, Repr
mutual
inductive E where
  | never
  | k (d : PyData)
  | v (i : Nat)
  | g (x : Str) (d : PyData)
  | bin (op : Bop) (a b : E)
  | neg (n : Int)
  | not (a : E)
  | and (a b : E)
  | or (a b : E)
  | cmp (op : Cop) (a b : E)
  | chain (a b c : E)
  | ite (c a b : E)
  | tup (es : Es)
  | lst (es : Es)
  | ix (a i : E)
  | slTo (a i : E)
  | slFrom (a i : E)
  | fld (a : E) (f : Fd)
  | call (f : Fn) (es : Es)
  | meth (f : Fn) (a : E) (es : Es)
  | mk (c : Cl) (es : Es)
  | isi (a : E) (t : Ty)
  | bi (b : Bi) (es : Es)
  | dm (m : Dm) (a b : E)
  | tix (x : Str) (d : PyData) (b : E)
  | pop (a : E)
  | pick (ks : List Str) (gs : List (Str × PyData)) (a : E)
  | comp (i : Nat) (it elt : E)
  | compIf (i : Nat) (it c elt : E)
  | compU (is : List Nat) (it elt : E)
  | compZ (i j : Nat) (a b elt : E)
inductive Es where
  | nil
  | cons (e : E) (r : Es)
end
mutual
inductive S where
  | never
  | set (i : Nat) (e : E)
  | setC (i : Nat) (e : E)
  | setN (i : Nat)
  | fset (o : E) (f : Fd) (e : E)
  | fsetN (o : E) (f : Fd)
  | iset (o i e : E)
  | unp (is : List Nat) (e : E)
  | par (i j : Nat) (a b : E)
  | parN (i j : Nat) (a : E)
  | par3 (i j k : Nat) (a b c : E)
  | ex (e : E)
  | app (o e : E)
  | rem (o e : E)
  | ite (c : E) (a b : Ss)
  | whl (c : E) (b : Ss)
  | forN (i : Nat) (it : E) (b : Ss)
  | forR (i : Nat) (n : E) (b : Ss)
  | forU (is : List Nat) (it : E) (b : Ss)
  | ret (e : E)
  | retN (es : Es)
  | rai (c : Xc)
  | try_ (b : Ss) (hs : List (Xc × PyData))
inductive Ss where
  | nil
  | cons (s : S) (r : Ss)
end

/-! ### outcomes -/
inductive R (α : Type) where
  | no
  | ok (a : α) (M : Sto)
  | ex (c : Xc) (M : Sto)
def R.bind {α β : Type} (r : R α) (f : α → Sto → R β) : R β := match r with
  | .no => .no
  | .ok a M => f a M
  | .ex c M => .ex c M
inductive F where
  | no
  | nx (G : Loc) (M : Sto)
  | ret (v : Val) (M : Sto)
  | ex (c : Xc) (G : Loc) (M : Sto)
def R.to {α : Type} (r : R α) (G : Loc) (f : α → Sto → F) : F := match r with
  | .no => .no
  | .ok a M => f a M
  | .ex c M => .ex c G M
def F.bind (r : F) (f : Loc → Sto → F) : F := match r with
  | .nx G M => f G M
  | r => r
def R.of {α : Type} (x : Option α) (M : Sto) : R α := match x with
  | some a => .ok a M
  | none => .no

/-- what a value is as data: a list object by what it holds now -/
def toD (M : Sto) : Val → Option PyData
  | .d x => some x
  | .o n => match M[n]? with
    | some (.lst xs) => some (.list xs)
    | _ => none
def toDs (M : Sto) : List Val → Option (List PyData)
  | [] => some []
  | v :: r => match toD M v, toDs M r with
    | some d, some ds => some (d :: ds)
    | _, _ => none
/-- plain data alone -/
def asDs : List Val → Option (List PyData)
  | [] => some []
  | .d x :: r => match asDs r with
    | some ds => some (x :: ds)
    | none => none
  | .o _ :: _ => none

/-! ### operations on data -/
def lim : Nat := 16777216
def binD : Bop → PyData → PyData → Option PyData
  | .add, .int i, .int j => some (.int (i + j))
  | .add, .str a, .str b => if a.length + b.length ≤ lim then some (.str (a ++ b)) else none
  | .add, .tuple a, .tuple b => if a.length + b.length ≤ lim then some (.tuple (a ++ b)) else none
  | .add, .list a, .list b => if a.length + b.length ≤ lim then some (.list (a ++ b)) else none
  | .sub, .int i, .int j => some (.int (i - j))
  | .mul, .int i, .int j => if (-18446744073709551616 < i ∧ i < 18446744073709551616) ∨ (-18446744073709551616 < j ∧ j < 18446744073709551616) then some (.int (i * j)) else none
  | .mul, .tuple [x], .int 5 => some (.tuple [x, x, x, x, x])
  | .fdiv, .int i, .int j => if 0 < j ∧ j < 1073741824 then some (.int (i / j)) else none
  | .mod, .int i, .int j => if 0 < j then some (.int (i % j)) else none
  | .pow, .int 10, .int j => if 0 ≤ j ∧ j ≤ 20 then some (.int (10 ^ j.toNat)) else none
  | _, _, _ => none
def hasIn (x : PyData) (ys : List PyData) : Bool := ys.any fun z => PyData.eqv z x
def cmpD : Cop → PyData → PyData → Option Bool
  | .eq, x, y => if SeqAt.shaped x && SeqAt.shaped y then some (PyData.eqv x y) else none
  | .ne, x, y => if SeqAt.shaped x && SeqAt.shaped y then some (!PyData.eqv x y) else none
  | .lt, .int i, .int j => some (decide (i < j))
  | .lt, .str a, .str b => some (decide (a.cps.toList < b.cps.toList))
  | .lt, .tuple a, .tuple b => if PySem.W.alike (.tuple a) (.tuple b) && decide (PyData.depth (.tuple a) ≤ 64) then some (PySem.W.dataLt (.tuple a) (.tuple b)) else none
  | .le, .int i, .int j => some (decide (i ≤ j))
  | .gt, .int i, .int j => some (decide (j < i))
  | .ge, .int i, .int j => some (decide (j ≤ i))
  | .isIn, .str ⟨⟨[c]⟩⟩, .str z => some (decide (c ∈ z.cps.toList))
  | .isIn, x, .tuple ys => if SeqAt.shaped x && SeqAt.shaped (.tuple ys) then some (hasIn x ys) else none
  | .isIn, x, .list ys => if SeqAt.shaped x && SeqAt.shaped (.list ys) then some (hasIn x ys) else none
  | .notIn, .str ⟨⟨[c]⟩⟩, .str z => some (!decide (c ∈ z.cps.toList))
  | .notIn, x, .tuple ys => if SeqAt.shaped x && SeqAt.shaped (.tuple ys) then some (!hasIn x ys) else none
  | .notIn, x, .list ys => if SeqAt.shaped x && SeqAt.shaped (.list ys) then some (!hasIn x ys) else none
  | .is_, .none, .none => some true
  | .is_, _, .none => some false
  | _, _, _ => none
def ixD : PyData → PyData → Option PyData
  | .tuple xs, .int i => if 0 ≤ i then xs[i.toNat]? else none
  | .list xs, .int i => if 0 ≤ i then xs[i.toNat]? else none
  | .str z, .int i => if 0 ≤ i ∧ z.length ≤ lim then (match z.cps.toList[i.toNat]? with | some c => some (.str ⟨#[c]⟩) | none => none) else none
  | _, _ => none
def toSlD : PyData → PyData → Option PyData
  | .tuple xs, .int i => if 0 ≤ i then some (.tuple (xs.take i.toNat)) else none
  | _, _ => none
def fromSlD : PyData → PyData → Option PyData
  | .tuple xs, .int i => if 0 ≤ i then some (.tuple (xs.drop i.toNat)) else none
  | _, _ => none
def isiD : PyData → Ty → Bool
  | .bool _, .bool => true
  | .bool _, .int => true
  | .int _, .int => true
  | .str _, .str => true
  | .tuple _, .tuple => true
  | _, _ => false
def boolsD : List PyData → Option (List Bool)
  | [] => some []
  | .bool b :: r => match boolsD r with
    | some bs => some (b :: bs)
    | none => none
  | _ :: _ => none
def strsD : List PyData → Option (List Str)
  | [] => some []
  | .str b :: r => match strsD r with
    | some bs => some (b :: bs)
    | none => none
  | _ :: _ => none
def tupleish : PyData → Bool
  | .tuple (_ :: _) => true
  | _ => false
def sortable (xs : List PyData) : Bool := xs.all (fun x => tupleish x && decide (x.depth ≤ 64)) && xs.all fun x => xs.all fun y => PySem.W.alike x y
def maxFrom (b : PyData) : List PyData → PyData
  | [] => b
  | x :: r => maxFrom (if PySem.W.dataLt b x then x else b) r
def showsD (d : PyData) : Bool := tupleish d && PyData.showable d && !PyData.hasDict d && decide (d.depth ≤ 64) && decide (d.shown.length ≤ lim)
def biD : Bi → List PyData → Option PyData
  | .len, [.str z] => if z.length ≤ lim then some (.int z.length) else none
  | .len, [.tuple xs] => some (.int xs.length)
  | .len, [.list xs] => some (.int xs.length)
  | .all, [.list xs] => match boolsD xs with | some bs => some (.bool (bs.all id)) | none => none
  | .any, [.list xs] => match boolsD xs with | some bs => some (.bool (bs.any id)) | none => none
  | .tuple, [.list xs] => some (.tuple xs)
  | .tuple, [.tuple xs] => some (.tuple xs)
  | .list, [.list xs] => some (.list xs)
  | .list, [.tuple xs] => some (.list xs)
  | .sorted, [.list xs] => if sortable xs then some (.list (xs.mergeSort (PySem.W.dataLe false id))) else none
  | .sorted, [.tuple xs] => if sortable xs then some (.list (xs.mergeSort (PySem.W.dataLe false id))) else none
  | .int, [.int i] => some (.int i)
  | .int, [.str ⟨⟨[c]⟩⟩] => if 48 ≤ c ∧ c ≤ 57 then some (.int ((c : Int) - 48)) else none
  | .str, [.int i] => if i.natAbs.log2 < 1920 then some (.str (Str.ofString (toString i))) else none
  | .repr, [x] => if showsD x then some (.str x.shown) else none
  | .ord, [.str ⟨⟨[c]⟩⟩] => some (.int c)
  | .abs, [.int i] => some (.int (if i < 0 then -i else i))
  | .max, [.list (x :: r)] => if sortable (x :: r) then some (maxFrom x r) else none
  | _, _ => none
def dmD : Dm → PyData → PyData → Option PyData
  | .join, .str a, .list ys => match strsD ys with
    | some zs => if (zs.map (·.length)).sum + zs.length * a.length ≤ lim then some (.str (Txt.join a zs)) else none
    | none => none
  | .join, .str a, .tuple ys => match strsD ys with
    | some zs => if (zs.map (·.length)).sum + zs.length * a.length ≤ lim then some (.str (Txt.join a zs)) else none
    | none => none
  | .startswith, .str a, .str b => some (.bool (Txt.startswith a b))
  | _, _, _ => none
def tixD : PyData → PyData → Option PyData
  | .tuple ys, .str z => match strsD ys with
    | some zs => match zs.findIdx? (· == z) with
      | some j => some (.int j)
      | none => none
    | none => none
  | _, _ => none
/-- what is walked -/
def seqD : PyData → Option (List PyData)
  | .tuple xs => some xs
  | .list xs => some xs
  | .str z => some (z.cps.toList.map fun c => .str ⟨#[c]⟩)
  | _ => none
def setAll (G : Loc) : List Nat → List PyData → Option Loc
  | [], [] => some G
  | i :: r, x :: t => setAll (G.set i (some (.d x))) r t
  | _, _ => none
def unpD (G : Loc) (is : List Nat) : PyData → Option Loc
  | .tuple xs => setAll G is xs
  | _ => none
def wipeG (G : Loc) : List Nat → Loc
  | [] => G
  | i :: r => (wipeG G r).set i none

def Fn.cls : Fn → Option Cl
  | .r_init | .r_sign | .r_goes_on | .r_marks | .r_ends | .r_one_of | .r_word | .r_number | .r_number_or_none | .r_words | .r_entry | .r_item | .r_several => some .reading
  | .d_init | .d_store | .d_deeds | .d_does | .d_put | .d_puts_list | .d_withdraw | .d_give_back | .d_undo => some .desk
  | _ => none
def Cl.init : Cl → Fn
  | .reading => .r_init
  | .desk => .d_init

def putFd (f : Fd) (v : Val) : List (Fd × Val) → List (Fd × Val)
  | [] => [(f, v)]
  | (g, w) :: r => if g = f then (f, v) :: r else (g, w) :: putFd f v r

/-! ### loops -/
def compL (put : PyData → Option Loc) (c : Loc → Sto → R Val) (elt : Loc → Sto → R Val) : List PyData → Sto → List PyData → R (List PyData)
  | [], M, acc => .ok acc M
  | x :: r, M, acc => match put x with
    | none => .no
    | some G => (c G M).bind fun b M1 => match b with
      | .d (.bool true) => (elt G M1).bind fun y M2 => match y with
        | .d y => if acc.length < lim then compL put c elt r M2 (acc ++ [y]) else .no
        | .o _ => .no
      | .d (.bool false) => compL put c elt r M1 acc
      | _ => .no
def loopW (c : Loc → Sto → R Val) (b : Loc → Sto → F) : Nat → Loc → Sto → F
  | 0, _, _ => .no
  | n + 1, G, M => (c G M).to G fun x M1 => match x with
    | .d (.bool true) => (b G M1).bind fun G2 M2 => loopW c b n G2 M2
    | .d (.bool false) => .nx G M1
    | _ => .no
def forL (put : PyData → Loc → Option Loc) (b : Loc → Sto → F) : List PyData → Loc → Sto → F
  | [], G, M => .nx G M
  | x :: r, G, M => match put x G with
    | none => .no
    | some G1 => (b G1 M).bind fun G2 M2 => forL put b r G2 M2
def turns : Nat := 1000

/-! ### what the texts do -/
abbrev Env := Fn → List Val → Sto → R Val
/-- no exception within, a list object that is walked stays as it is -/
def noX {α : Type} (r : R α) : R α := match r with
  | .ok a M => .ok a M
  | _ => .no
def walked (M : Sto) (v : Val) : Option (List PyData) := match toD M v with
  | some d => seqD d
  | none => none
def stillE (v : Val) (f : Loc → Sto → R Val) (G : Loc) (M : Sto) : R Val := match v with
  | .d _ => f G M
  | .o _ => match f G M with
    | .ok a M' => if M' = M then .ok a M' else .no
    | _ => .no
def pickD (ks : List Str) (ds : List PyData) (a : Val) : Option PyData := match a with
  | .d (.str z) => (ks.zip ds).lookup z
  | _ => none
mutual
def evE (Φ : Env) : E → Loc → Sto → R Val
  | .never, _, _ => .no
  | .k d, _, M => .ok (.d d) M
  | .g _ d, _, M => .ok (.d d) M
  | .v i, G, M => match G[i]? with
    | some (some v) => .ok v M
    | _ => .no
  | .bin op a b, G, M => (evE Φ a G M).bind fun x M1 => (evE Φ b G M1).bind fun y M2 => match toD M2 x, toD M2 y with
    | some p, some q => R.of ((binD op p q).map .d) M2
    | _, _ => .no
  | .neg n, _, M => .ok (.d (.int (-n))) M
  | .not a, G, M => (evE Φ a G M).bind fun x M1 => match x with
    | .d (.bool b) => .ok (.d (.bool (!b))) M1
    | _ => .no
  | .and a b, G, M => (evE Φ a G M).bind fun x M1 => match x with
    | .d (.bool true) => (evE Φ b G M1).bind fun y M2 => match y with
      | .d (.bool c) => .ok (.d (.bool c)) M2
      | _ => .no
    | .d (.bool false) => .ok (.d (.bool false)) M1
    | _ => .no
  | .or a b, G, M => (evE Φ a G M).bind fun x M1 => match x with
    | .d (.bool false) => (evE Φ b G M1).bind fun y M2 => match y with
      | .d (.bool c) => .ok (.d (.bool c)) M2
      | _ => .no
    | .d (.bool true) => .ok (.d (.bool true)) M1
    | _ => .no
  | .cmp op a b, G, M => (evE Φ a G M).bind fun x M1 => (evE Φ b G M1).bind fun y M2 => match toD M2 x, toD M2 y with
    | some p, some q => R.of ((cmpD op p q).map fun c => .d (.bool c)) M2
    | _, _ => .no
  | .chain a b c, G, M => (evE Φ a G M).bind fun x M1 => (evE Φ b G M1).bind fun y M2 => match x, y with
    | .d (.int i), .d (.int j) => if i ≤ j then (evE Φ c G M2).bind fun z M3 => match z with
        | .d (.int k) => .ok (.d (.bool (decide (j ≤ k)))) M3
        | _ => .no
      else .ok (.d (.bool false)) M2
    | _, _ => .no
  | .ite c a b, G, M => (evE Φ c G M).bind fun x M1 => match x with
    | .d (.bool true) => evE Φ a G M1
    | .d (.bool false) => evE Φ b G M1
    | _ => .no
  | .tup es, G, M => (evEs Φ es G M).bind fun vs M1 => match asDs vs with
    | some ds => if ds.length ≤ lim then .ok (.d (.tuple ds)) M1 else .no
    | none => .no
  | .lst es, G, M => (evEs Φ es G M).bind fun vs M1 => match asDs vs with
    | some ds => if ds.length ≤ lim then .ok (.d (.list ds)) M1 else .no
    | none => .no
  | .ix a i, G, M => (evE Φ a G M).bind fun x M1 => (evE Φ i G M1).bind fun y M2 => match toD M2 x, y with
    | some p, .d q => R.of ((ixD p q).map .d) M2
    | _, _ => .no
  | .slTo a i, G, M => (evE Φ a G M).bind fun x M1 => (evE Φ i G M1).bind fun y M2 => match x, y with
    | .d p, .d q => R.of ((toSlD p q).map .d) M2
    | _, _ => .no
  | .slFrom a i, G, M => (evE Φ a G M).bind fun x M1 => (evE Φ i G M1).bind fun y M2 => match x, y with
    | .d p, .d q => R.of ((fromSlD p q).map .d) M2
    | _, _ => .no
  | .fld a f, G, M => (evE Φ a G M).bind fun x M1 => match x with
    | .o n => match M1[n]? with
      | some (.ins _ fs) => R.of (fs.lookup f) M1
      | _ => .no
    | _ => .no
  | .call f es, G, M => (evEs Φ es G M).bind fun vs M1 => Φ f vs M1
  | .meth f a es, G, M => (evE Φ a G M).bind fun x M1 => match x with
    | .o n => match M1[n]? with
      | some (.ins c _) => if f.cls = some c then (evEs Φ es G M1).bind fun vs M2 => Φ f (x :: vs) M2 else .no
      | _ => .no
    | _ => .no
  | .mk c es, G, M => (evEs Φ es G M).bind fun vs M1 => (Φ c.init (.o M1.length :: vs) (M1 ++ [.ins c []])).bind fun r M2 => match r with
    | .d .none => .ok (.o M1.length) M2
    | _ => .no
  | .isi a t, G, M => (evE Φ a G M).bind fun x M1 => match x with
    | .d p => .ok (.d (.bool (isiD p t))) M1
    | _ => .no
  | .bi b es, G, M => (evEs Φ es G M).bind fun vs M1 => match toDs M1 vs with
    | some ds => R.of ((biD b ds).map .d) M1
    | none => .no
  | .dm m a b, G, M => (evE Φ a G M).bind fun x M1 => match x with
    | .d (.str p) => (evE Φ b G M1).bind fun y M2 => match y with
      | .d q => R.of ((dmD m (.str p) q).map .d) M2
      | _ => .no
    | _ => .no
  | .tix _ d b, G, M => match d with
    | .tuple zs => (evE Φ b G M).bind fun y M1 => match y with
      | .d q => R.of ((tixD (.tuple zs) q).map .d) M1
      | _ => .no
    | _ => .no
  | .pop a, G, M => (evE Φ a G M).bind fun x M1 => match x with
    | .o n => match M1[n]? with
      | some (.lst xs) => match xs.getLast? with
        | some y => .ok (.d y) (M1.set n (.lst xs.dropLast))
        | none => .no
      | _ => .no
    | _ => .no
  | .pick ks gs a, G, M => (evE Φ a G M).bind fun x M1 => R.of ((pickD ks (gs.map (·.2)) x).map .d) M1
  | .comp i it elt, G, M => (evE Φ it G M).bind fun v M1 => match walked M1 v with
    | some xs => noX ((compL (fun x => some ((wipeG G [i]).set i (some (.d x)))) (fun _ M => .ok (.d (.bool true)) M) (stillE v fun G M => evE Φ elt G M) xs M1 []).bind fun ys M2 => .ok (.d (.list ys)) M2)
    | none => .no
  | .compIf i it c elt, G, M => (evE Φ it G M).bind fun v M1 => match walked M1 v with
    | some xs => noX ((compL (fun x => some ((wipeG G [i]).set i (some (.d x)))) (stillE v fun G M => evE Φ c G M) (stillE v fun G M => evE Φ elt G M) xs M1 []).bind fun ys M2 => .ok (.d (.list ys)) M2)
    | none => .no
  | .compU is it elt, G, M => (evE Φ it G M).bind fun v M1 => match walked M1 v with
    | some xs => noX ((compL (fun x => unpD (wipeG G is) is x) (fun _ M => .ok (.d (.bool true)) M) (stillE v fun G M => evE Φ elt G M) xs M1 []).bind fun ys M2 => .ok (.d (.list ys)) M2)
    | none => .no
  | .compZ i j a b elt, G, M => (evE Φ a G M).bind fun x M1 => (evE Φ b G M1).bind fun y M2 => match x, y with
    | .d (.tuple xs), .d (.tuple ys) => noX ((compL (fun x => unpD (wipeG G [i, j]) [i, j] x) (fun _ M => .ok (.d (.bool true)) M) (fun G M => evE Φ elt G M) ((xs.zip ys).map fun p => .tuple [p.1, p.2]) M2 []).bind fun ys M3 => .ok (.d (.list ys)) M3)
    | _, _ => .no
def evEs (Φ : Env) : Es → Loc → Sto → R (List Val)
  | .nil, _, M => .ok [] M
  | .cons e r, G, M => (evE Φ e G M).bind fun v M1 => (evEs Φ r G M1).bind fun vs M2 => .ok (v :: vs) M2
end
mutual
def exS (Φ : Env) : S → Loc → Sto → F
  | .never, _, _ => .no
  | .set i e, G, M => (evE Φ e G M).to G fun v M1 => .nx (G.set i (some v)) M1
  | .setC i e, G, M => (evE Φ e G M).to G fun v M1 => .nx (G.set i (some v)) M1
  | .setN i, G, M => .nx (G.set i (some (.o M.length))) (M ++ [.lst []])
  | .fset o f e, G, M => (evE Φ e G M).to G fun v M1 => (evE Φ o G M1).to G fun x M2 => match x with
    | .o n => match M2[n]? with
      | some (.ins c fs) => if fs.length < 8 then .nx G (M2.set n (.ins c (putFd f v fs))) else .no
      | _ => .no
    | _ => .no
  | .fsetN o f, G, M => (evE Φ o G (M ++ [.lst []])).to G fun x M2 => match x with
    | .o n => match M2[n]? with
      | some (.ins c fs) => if fs.length < 8 then .nx G (M2.set n (.ins c (putFd f (.o M.length) fs))) else .no
      | _ => .no
    | _ => .no
  | .iset o i e, G, M => (evE Φ e G M).to G fun v M1 => (evE Φ o G M1).to G fun x M2 => (evE Φ i G M2).to G fun j M3 => match v, x, j with
    | .d y, .o n, .d (.int j) => match M3[n]? with
      | some (.lst xs) => if 0 ≤ j ∧ j < xs.length then .nx G (M3.set n (.lst (xs.set j.toNat y))) else .no
      | _ => .no
    | _, _, _ => .no
  | .unp is e, G, M => (evE Φ e G M).to G fun v M1 => match v with
    | .d d => match unpD G is d with
      | some G1 => .nx G1 M1
      | none => .no
    | _ => .no
  | .par i j a b, G, M => (evE Φ a G M).to G fun x M1 => (evE Φ b G M1).to G fun y M2 => .nx ((G.set i (some x)).set j (some y)) M2
  | .parN i j a, G, M => (evE Φ a G M).to G fun x M1 => .nx ((G.set i (some x)).set j (some (.o M1.length))) (M1 ++ [.lst []])
  | .par3 i j k a b c, G, M => (evE Φ a G M).to G fun x M1 => (evE Φ b G M1).to G fun y M2 => (evE Φ c G M2).to G fun z M3 => .nx (((G.set i (some x)).set j (some y)).set k (some z)) M3
  | .ex e, G, M => (evE Φ e G M).to G fun _ M1 => .nx G M1
  | .app o e, G, M => (evE Φ o G M).to G fun x M1 => match x with
    | .o n => match M1[n]? with
      | some (.lst _) => (evE Φ e G M1).to G fun v M2 => match v, M2[n]? with
        | .d y, some (.lst xs) => if xs.length < lim then .nx G (M2.set n (.lst (xs ++ [y]))) else .no
        | _, _ => .no
      | _ => .no
    | _ => .no
  | .rem o e, G, M => (evE Φ o G M).to G fun x M1 => match x with
    | .o n => match M1[n]? with
      | some (.lst _) => (evE Φ e G M1).to G fun v M2 => match v, M2[n]? with
        | .d y, some (.lst xs) => if SeqAt.shaped y && SeqAt.shaped (.list xs) then (match xs.findIdx? (fun z => PyData.eqv z y) with
          | some k => .nx G (M2.set n (.lst (xs.eraseIdx k)))
          | none => .no) else .no
        | _, _ => .no
      | _ => .no
    | _ => .no
  | .ite c a b, G, M => (evE Φ c G M).to G fun x M1 => match x with
    | .d (.bool true) => exSs Φ a G M1
    | .d (.bool false) => exSs Φ b G M1
    | _ => .no
  | .whl c b, G, M => loopW (fun G M => evE Φ c G M) (fun G M => exSs Φ b G M) turns G M
  | .forN i it b, G, M => (evE Φ it G M).to G fun v M1 => match v with
    | .d d => match seqD d with
      | some xs => forL (fun x G => some (G.set i (some (.d x)))) (fun G M => exSs Φ b G M) xs G M1
      | none => .no
    | _ => .no
  | .forR i n b, G, M => (evE Φ n G M).to G fun v M1 => match v with
    | .d (.int n) => if -1000 < n ∧ n < 1000 then forL (fun x G => some (G.set i (some (.d x)))) (fun G M => exSs Φ b G M) ((List.range n.toNat).map fun (j : Nat) => .int (j : Int)) G M1 else .no
    | _ => .no
  | .forU is it b, G, M => (evE Φ it G M).to G fun v M1 => match v with
    | .d (.tuple xs) => forL (fun x G => unpD G is x) (fun G M => exSs Φ b G M) xs G M1
    | _ => .no
  | .ret e, G, M => (evE Φ e G M).to G fun v M1 => .ret v M1
  | .retN es, G, M => (evEs Φ es G M).to G fun vs M1 => match asDs vs with
    | some ds => if ds.length ≤ lim then .ret (.o M1.length) (M1 ++ [.lst ds]) else .no
    | none => .no
  | .rai c, G, M => .ex c G M
  | .try_ b hs, G, M => match exSs Φ b G M with
    | .ex c G1 M1 => match hs.lookup c with
      | some d => .ret (.d d) M1
      | none => .ex c G1 M1
    | r => r
def exSs (Φ : Env) : Ss → Loc → Sto → F
  | .nil, G, M => .nx G M
  | .cons s r, G, M => (exS Φ s G M).bind fun G1 M1 => exSs Φ r G1 M1
end
/-- a def's text: how many parameters, how many further slots, its block; trim: what it makes is let go -/
structure Body where
  np : Nat
  nl : Nat
  code : Ss
  trim : Bool
def runB (Φ : Env) (b : Body) (vs : List Val) (M : Sto) : R Val :=
  if vs.length = b.np then
    match exSs Φ b.code (vs.map some ++ List.replicate b.nl none) M with
    | .no => .no
    | .ex c _ M' => if b.trim then .no else .ex c M'
    | .nx _ M' => if b.trim then (if M'.take M.length = M then .ok (.d .none) M else .no) else .ok (.d .none) M'
    | .ret v M' => if b.trim then (match v with
      | .d d => if M'.take M.length = M then .ok (.d d) M else .no
      | .o _ => .no) else .ok v M'
  else .no
end K75

set_option Elab.async false
set_option linter.all false
set_option autoImplicit false
/-! Part 2: the program's defs in that language (printed by genir.py). -/
namespace K75
open PySem
def ir_is_whole : Body := ⟨3, 0, (.cons (.ret (.and (.isi (.v 0) .int) (.and (.not (.isi (.v 0) .bool)) (.chain (.v 1) (.v 0) (.v 2)))))
    .nil), false⟩
def ir_is_truth : Body := ⟨1, 0, (.cons (.ret (.isi (.v 0) .bool))
    .nil), false⟩
def ir_is_tuple_of : Body := ⟨3, 0, (.cons (.ret (.and (.isi (.v 0) .tuple) (.chain (.v 1) (.bi .len (.cons (.v 0) .nil)) (.v 2))))
    .nil), false⟩
def ir_fits_word : Body := ⟨1, 1, (.cons (.ret (.and (.isi (.v 0) .str) (.and (.chain (.k (.int 1)) (.bi .len (.cons (.v 0) .nil)) (.g ⟨#[76, 79, 78, 71, 69, 83, 84]⟩ (.int 12))) (.bi .all (.cons (.comp 1 (.v 0) (.cmp .isIn (.v 1) (.g ⟨#[83, 73, 71, 78, 83, 95, 118, 97, 108, 117, 101, 115]⟩ (.str ⟨#[97, 98, 99, 100, 101, 102, 103, 104, 105, 106, 107, 108, 109, 110, 111, 112, 113, 114, 115, 116, 117, 118, 119, 120, 121, 122, 48, 49, 50, 51, 52, 53, 54, 55, 56, 57]⟩)))) .nil)))))
    .nil), false⟩
def ir_fits_words : Body := ⟨3, 1, (.cons (.ret (.and (.call .is_tuple_of (.cons (.v 0) (.cons (.v 1) (.cons (.v 2) .nil)))) (.bi .all (.cons (.comp 3 (.v 0) (.call .fits_word (.cons (.v 3) .nil))) .nil))))
    .nil), false⟩
def ir_is_ascending : Body := ⟨1, 2, (.cons (.ret (.bi .all (.cons (.compZ 1 2 (.v 0) (.slFrom (.v 0) (.k (.int 1))) (.cmp .lt (.v 1) (.v 2))) .nil)))
    .nil), false⟩
def ir_fits_lot : Body := ⟨4, 1, (.cons (.ite (.or (.not (.call .is_tuple_of (.cons (.v 0) (.cons (.v 1) (.cons (.v 2) .nil))))) (.not (.bi .all (.cons (.comp 4 (.v 0) (.and (.isi (.v 4) .str) (.cmp .isIn (.v 4) (.v 3)))) .nil)))) (.cons (.ret (.k (.bool false)))
    .nil) .nil)
    (.cons (.ret (.call .is_ascending (.cons (.v 0) .nil)))
    .nil)), false⟩
def ir_fits_name : Body := ⟨1, 0, (.cons (.ret (.call .fits_words (.cons (.v 0) (.cons (.k (.int 1)) (.cons (.g ⟨#[68, 69, 69, 80]⟩ (.int 4)) .nil)))))
    .nil), false⟩
def ir_need_name : Body := ⟨1, 0, (.cons (.ite (.not (.call .fits_name (.cons (.v 0) .nil))) (.cons (.rai .name)
    .nil) .nil)
    .nil), false⟩
def ir_seal_by : Body := ⟨2, 2, (.cons (.set 2 (.bin .mod (.v 0) (.g ⟨#[80, 82, 73, 77, 69]⟩ (.int 4294967291))))
    (.cons (.forN 3 (.v 1) (.cons (.set 2 (.bin .mod (.bin .add (.bin .add (.bin .mul (.v 2) (.g ⟨#[84, 85, 82, 78]⟩ (.int 257))) (.v 3)) (.k (.int 1))) (.g ⟨#[80, 82, 73, 77, 69]⟩ (.int 4294967291))))
    .nil))
    (.cons (.ret (.bin .mod (.bin .add (.bin .mul (.v 2) (.v 2)) (.v 0)) (.g ⟨#[80, 82, 73, 77, 69]⟩ (.int 4294967291))))
    .nil))), false⟩
def ir_number_row : Body := ⟨1, 1, (.cons (.set 1 (.tup .nil))
    (.cons (.whl (.cmp .gt (.v 0) (.k (.int 127))) (.cons (.par 1 0 (.bin .add (.v 1) (.tup (.cons (.bin .add (.k (.int 128)) (.bin .mod (.v 0) (.k (.int 128)))) .nil))) (.bin .fdiv (.v 0) (.k (.int 128))))
    .nil))
    (.cons (.ret (.bin .add (.v 1) (.tup (.cons (.v 0) .nil))))
    .nil))), false⟩
def ir_value_row : Body := ⟨1, 3, (.cons (.ite (.isi (.v 0) .bool) (.cons (.ret (.tup (.cons (.k (.int 4)) (.cons (.ite (.v 0) (.k (.int 1)) (.k (.int 0))) .nil))))
    .nil) .nil)
    (.cons (.ite (.isi (.v 0) .int) (.cons (.ret (.bin .add (.tup (.cons (.k (.int 1)) .nil)) (.call .number_row (.cons (.bin .add (.v 0) (.k (.int 1))) .nil))))
    .nil) .nil)
    (.cons (.ite (.isi (.v 0) .str) (.cons (.ret (.bin .add (.bin .add (.tup (.cons (.k (.int 2)) .nil)) (.call .number_row (.cons (.bi .len (.cons (.v 0) .nil)) .nil))) (.bi .tuple (.cons (.comp 3 (.v 0) (.bi .ord (.cons (.v 3) .nil))) .nil))))
    .nil) .nil)
    (.cons (.set 1 (.bin .add (.tup (.cons (.k (.int 3)) .nil)) (.call .number_row (.cons (.bi .len (.cons (.v 0) .nil)) .nil))))
    (.cons (.forN 2 (.v 0) (.cons (.set 1 (.bin .add (.v 1) (.call .value_row (.cons (.v 2) .nil))))
    .nil))
    (.cons (.ret (.v 1))
    .nil)))))), false⟩
def ir_need_key : Body := ⟨1, 0, (.cons (.ite (.not (.call .is_whole (.cons (.v 0) (.cons (.k (.int 0)) (.cons (.g ⟨#[75, 69, 89, 83]⟩ (.int 4294967295)) .nil))))) (.cons (.rai .number)
    .nil) .nil)
    .nil), false⟩
def ir_fits_entry : Body := ⟨1, 0, (.cons (.ite (.or (.not (.call .is_tuple_of (.cons (.v 0) (.cons (.k (.int 4)) (.cons (.k (.int 4)) .nil))))) (.or (.not (.call .fits_name (.cons (.ix (.v 0) (.k (.int 0))) .nil))) (.not (.call .is_whole (.cons (.ix (.v 0) (.k (.int 1))) (.cons (.k (.int 0)) (.cons (.g ⟨#[83, 69, 82, 73, 65, 76, 83]⟩ (.int 1000000)) .nil))))))) (.cons (.ret (.k (.bool false)))
    .nil) .nil)
    (.cons (.ret (.and (.call .is_whole (.cons (.ix (.v 0) (.k (.int 2))) (.cons (.k (.int 0)) (.cons (.g ⟨#[84, 73, 77, 69, 83]⟩ (.int 1000000000)) .nil)))) (.and (.isi (.ix (.v 0) (.k (.int 3))) .str) (.cmp .isIn (.ix (.v 0) (.k (.int 3))) (.bin .add (.g ⟨#[82, 69, 65, 83, 79, 78, 83]⟩ (.tuple [(.str ⟨#[99, 101, 97, 115, 101, 100]⟩), (.str ⟨#[99, 104, 97, 110, 103, 101, 100]⟩), (.str ⟨#[104, 101, 97, 100]⟩), (.str ⟨#[104, 111, 108, 100]⟩), (.str ⟨#[107, 101, 121]⟩), (.str ⟨#[114, 101, 112, 108, 97, 99, 101, 100]⟩), (.str ⟨#[114, 105, 103, 104, 116, 115]⟩)])) (.tup (.cons (.g ⟨#[66, 65, 67, 75]⟩ (.str ⟨#[98, 97, 99, 107]⟩)) .nil)))))))
    .nil)), false⟩
def ir_fits_scope : Body := ⟨1, 0, (.cons (.ite (.or (.not (.call .is_tuple_of (.cons (.v 0) (.cons (.k (.int 3)) (.cons (.k (.int 3)) .nil))))) (.or (.not (.isi (.ix (.v 0) (.k (.int 0))) .str)) (.cmp .notIn (.ix (.v 0) (.k (.int 0))) (.g ⟨#[83, 67, 79, 80, 69, 83]⟩ (.tuple [(.str ⟨#[97, 108, 108]⟩), (.str ⟨#[104, 101, 97, 100, 115]⟩), (.str ⟨#[117, 115, 101, 114, 115]⟩)]))))) (.cons (.ret (.k (.bool false)))
    .nil) .nil)
    (.cons (.ret (.and (.call .is_truth (.cons (.ix (.v 0) (.k (.int 1))) .nil)) (.call .fits_lot (.cons (.ix (.v 0) (.k (.int 2))) (.cons (.k (.int 0)) (.cons (.bin .sub (.bi .len (.cons (.g ⟨#[82, 69, 65, 83, 79, 78, 83]⟩ (.tuple [(.str ⟨#[99, 101, 97, 115, 101, 100]⟩), (.str ⟨#[99, 104, 97, 110, 103, 101, 100]⟩), (.str ⟨#[104, 101, 97, 100]⟩), (.str ⟨#[104, 111, 108, 100]⟩), (.str ⟨#[107, 101, 121]⟩), (.str ⟨#[114, 101, 112, 108, 97, 99, 101, 100]⟩), (.str ⟨#[114, 105, 103, 104, 116, 115]⟩)])) .nil)) (.k (.int 1))) (.cons (.g ⟨#[82, 69, 65, 83, 79, 78, 83]⟩ (.tuple [(.str ⟨#[99, 101, 97, 115, 101, 100]⟩), (.str ⟨#[99, 104, 97, 110, 103, 101, 100]⟩), (.str ⟨#[104, 101, 97, 100]⟩), (.str ⟨#[104, 111, 108, 100]⟩), (.str ⟨#[107, 101, 121]⟩), (.str ⟨#[114, 101, 112, 108, 97, 99, 101, 100]⟩), (.str ⟨#[114, 105, 103, 104, 116, 115]⟩)])) .nil)))))))
    .nil)), false⟩
def ir_fits_within : Body := ⟨1, 7, (.cons (.par3 1 2 3 (.ix (.v 0) (.k (.int 0))) (.ix (.v 0) (.k (.int 3))) (.ix (.v 0) (.k (.int 6))))
    (.cons (.forU [4, 5, 6, 7] (.ix (.v 0) (.k (.int 7))) (.cons (.ite (.or (.and (.cmp .ne (.v 4) (.v 1)) (.not (.ix (.v 3) (.k (.int 1))))) (.and (.cmp .eq (.v 7) (.g ⟨#[66, 65, 67, 75]⟩ (.str ⟨#[98, 97, 99, 107]⟩))) (.cmp .lt (.v 2) (.k (.int 0))))) (.cons (.ret (.k (.bool false)))
    .nil) .nil)
    (.cons (.ite (.and (.cmp .ne (.v 7) (.g ⟨#[66, 65, 67, 75]⟩ (.str ⟨#[98, 97, 99, 107]⟩))) (.and (.cmp .ne (.ix (.v 3) (.k (.int 2))) (.tup .nil)) (.cmp .notIn (.v 7) (.ix (.v 3) (.k (.int 2)))))) (.cons (.ret (.k (.bool false)))
    .nil) .nil)
    .nil)))
    (.cons (.ret (.k (.bool true)))
    .nil))), false⟩
def ir_fits_list : Body := ⟨1, 1, (.cons (.ite (.or (.not (.call .is_tuple_of (.cons (.v 0) (.cons (.k (.int 9)) (.cons (.k (.int 9)) .nil))))) (.or (.not (.call .fits_name (.cons (.ix (.v 0) (.k (.int 0))) .nil))) (.not (.call .is_whole (.cons (.ix (.v 0) (.k (.int 1))) (.cons (.k (.int 0)) (.cons (.g ⟨#[75, 69, 89, 83]⟩ (.int 4294967295)) .nil))))))) (.cons (.ret (.k (.bool false)))
    .nil) .nil)
    (.cons (.ite (.or (.not (.call .is_whole (.cons (.ix (.v 0) (.k (.int 2))) (.cons (.k (.int 0)) (.cons (.g ⟨#[78, 85, 77, 66, 69, 82, 83]⟩ (.int 1000000)) .nil))))) (.not (.call .is_whole (.cons (.ix (.v 0) (.k (.int 3))) (.cons (.neg 1) (.cons (.bin .sub (.ix (.v 0) (.k (.int 2))) (.k (.int 1))) .nil)))))) (.cons (.ret (.k (.bool false)))
    .nil) .nil)
    (.cons (.ite (.or (.not (.call .is_whole (.cons (.ix (.v 0) (.k (.int 4))) (.cons (.k (.int 0)) (.cons (.g ⟨#[84, 73, 77, 69, 83]⟩ (.int 1000000000)) .nil))))) (.not (.call .is_whole (.cons (.ix (.v 0) (.k (.int 5))) (.cons (.ix (.v 0) (.k (.int 4))) (.cons (.g ⟨#[84, 73, 77, 69, 83]⟩ (.int 1000000000)) .nil)))))) (.cons (.ret (.k (.bool false)))
    .nil) .nil)
    (.cons (.ite (.or (.not (.call .fits_scope (.cons (.ix (.v 0) (.k (.int 6))) .nil))) (.not (.call .is_whole (.cons (.ix (.v 0) (.k (.int 8))) (.cons (.k (.int 0)) (.cons (.g ⟨#[75, 69, 89, 83]⟩ (.int 4294967295)) .nil)))))) (.cons (.ret (.k (.bool false)))
    .nil) .nil)
    (.cons (.ite (.or (.not (.call .is_tuple_of (.cons (.ix (.v 0) (.k (.int 7))) (.cons (.k (.int 0)) (.cons (.g ⟨#[69, 78, 84, 82, 73, 69, 83]⟩ (.int 30)) .nil))))) (.not (.bi .all (.cons (.comp 1 (.ix (.v 0) (.k (.int 7))) (.call .fits_entry (.cons (.v 1) .nil))) .nil)))) (.cons (.ret (.k (.bool false)))
    .nil) .nil)
    (.cons (.ret (.and (.call .is_ascending (.cons (.bi .tuple (.cons (.comp 1 (.ix (.v 0) (.k (.int 7))) (.slTo (.v 1) (.k (.int 2)))) .nil)) .nil)) (.call .fits_within (.cons (.v 0) .nil))))
    .nil)))))), false⟩
def ir_need_list : Body := ⟨1, 0, (.cons (.ite (.not (.call .fits_list (.cons (.v 0) .nil))) (.cons .never
    .nil) .nil)
    .nil), false⟩
def ir_can_reach : Body := ⟨3, 2, (.cons (.ite (.cmp .eq (.v 0) (.k (.int 0))) (.cons (.ret (.cmp .le (.v 1) (.k (.int 0))))
    .nil) .nil)
    (.cons (.par 3 4 (.v 0) (.v 0))
    (.cons (.whl (.cmp .le (.v 3) (.v 2)) (.cons (.ite (.cmp .ge (.v 4) (.v 1)) (.cons (.ret (.k (.bool true)))
    .nil) .nil)
    (.cons (.par 3 4 (.bin .mul (.k (.int 10)) (.v 3)) (.bin .add (.bin .mul (.k (.int 10)) (.v 4)) (.k (.int 9))))
    .nil)))
    (.cons (.ret (.k (.bool false)))
    .nil)))), false⟩
def ir_list_text : Body := ⟨1, 0, (.cons (.ret (.bin .add (.bin .add (.k (.str ⟨#[91]⟩)) (.dm .join (.k (.str ⟨#[44]⟩)) (.v 0))) (.k (.str ⟨#[93]⟩))))
    .nil), false⟩
def ir_number_text : Body := ⟨1, 0, (.cons (.ret (.ite (.cmp .lt (.v 0) (.k (.int 0))) (.k (.str ⟨#[45]⟩)) (.bi .str (.cons (.v 0) .nil))))
    .nil), false⟩
def ir_truth_text : Body := ⟨1, 0, (.cons (.ret (.ite (.v 0) (.k (.str ⟨#[121, 101, 115]⟩)) (.k (.str ⟨#[110, 111]⟩))))
    .nil), false⟩
def ir_name_text : Body := ⟨1, 0, (.cons (.ret (.dm .join (.k (.str ⟨#[47]⟩)) (.v 0)))
    .nil), false⟩
def ir_list_of_text : Body := ⟨1, 12, (.cons (.unp [1, 2, 3, 4, 5, 6, 7, 8, 9] (.v 0))
    (.cons (.setC 10 (.comp 12 (.v 8) (.dm .join (.k (.str ⟨#[58]⟩)) (.lst (.cons (.call .name_text (.cons (.ix (.v 12) (.k (.int 0))) .nil)) (.cons (.bi .str (.cons (.ix (.v 12) (.k (.int 1))) .nil)) (.cons (.bi .str (.cons (.ix (.v 12) (.k (.int 2))) .nil)) (.cons (.ix (.v 12) (.k (.int 3))) .nil))))))))
    (.cons (.set 11 (.lst (.cons (.k (.str ⟨#[108, 105, 115, 116]⟩)) (.cons (.call .name_text (.cons (.v 1) .nil)) (.cons (.bi .str (.cons (.v 2) .nil)) (.cons (.bi .str (.cons (.v 3) .nil)) (.cons (.call .number_text (.cons (.v 4) .nil)) (.cons (.bi .str (.cons (.v 5) .nil)) (.cons (.bi .str (.cons (.v 6) .nil)) .nil)))))))))
    (.cons (.ret (.dm .join (.k (.str ⟨#[32]⟩)) (.bin .add (.v 11) (.lst (.cons (.ix (.v 7) (.k (.int 0))) (.cons (.call .truth_text (.cons (.ix (.v 7) (.k (.int 1))) .nil)) (.cons (.call .list_text (.cons (.bi .list (.cons (.ix (.v 7) (.k (.int 2))) .nil)) .nil)) (.cons (.call .list_text (.cons (.v 10) .nil)) (.cons (.bi .str (.cons (.v 9) .nil)) .nil)))))))))
    .nil)))), false⟩
def ir_thing_text : Body := ⟨2, 0, (.cons (.ite (.cmp .eq (.v 0) (.k (.str ⟨#[99, 101, 114, 116, 105, 102, 105, 99, 97, 116, 101]⟩))) (.cons (.ret .never)
    .nil) .nil)
    (.cons (.ret (.ite (.cmp .eq (.v 0) (.k (.str ⟨#[108, 105, 115, 116]⟩))) (.call .list_of_text (.cons (.v 1) .nil)) .never))
    .nil)), false⟩
def ir_truth_in : Body := ⟨1, 0, (.cons (.ret (.cmp .eq (.meth .r_one_of (.v 0) (.cons (.g ⟨#[84, 82, 85, 84, 72, 83]⟩ (.tuple [(.str ⟨#[110, 111]⟩), (.str ⟨#[121, 101, 115]⟩)])) .nil)) (.k (.str ⟨#[121, 101, 115]⟩))))
    .nil), false⟩
def ir_numbers_in : Body := ⟨2, 2, (.cons (.set 2 (.tup .nil))
    (.cons (.forN 3 (.v 1) (.cons (.set 2 (.bin .add (.v 2) (.tup (.cons (.meth .r_number (.v 0) (.cons (.k (.int 0)) (.cons (.v 3) .nil))) .nil))))
    (.cons (.ex (.meth .r_marks (.v 0) (.cons (.k (.str ⟨#[32]⟩)) .nil)))
    .nil)))
    (.cons (.ret (.v 2))
    .nil))), false⟩
def ir_list_in : Body := ⟨1, 8, (.cons (.ex (.meth .r_marks (.v 0) (.cons (.k (.str ⟨#[32]⟩)) .nil)))
    (.cons (.set 1 (.meth .r_words (.v 0) .nil))
    (.cons (.ex (.meth .r_marks (.v 0) (.cons (.k (.str ⟨#[32]⟩)) .nil)))
    (.cons (.set 2 (.call .numbers_in (.cons (.v 0) (.cons (.tup (.cons (.g ⟨#[75, 69, 89, 83]⟩ (.int 4294967295)) (.cons (.g ⟨#[78, 85, 77, 66, 69, 82, 83]⟩ (.int 1000000)) .nil))) .nil))))
    (.cons (.set 3 (.meth .r_number_or_none (.v 0) (.cons (.g ⟨#[78, 85, 77, 66, 69, 82, 83]⟩ (.int 1000000)) .nil)))
    (.cons (.ex (.meth .r_marks (.v 0) (.cons (.k (.str ⟨#[32]⟩)) .nil)))
    (.cons (.set 4 (.call .numbers_in (.cons (.v 0) (.cons (.tup (.cons (.g ⟨#[84, 73, 77, 69, 83]⟩ (.int 1000000000)) (.cons (.g ⟨#[84, 73, 77, 69, 83]⟩ (.int 1000000000)) .nil))) .nil))))
    (.cons (.set 5 (.meth .r_one_of (.v 0) (.cons (.g ⟨#[83, 67, 79, 80, 69, 83]⟩ (.tuple [(.str ⟨#[97, 108, 108]⟩), (.str ⟨#[104, 101, 97, 100, 115]⟩), (.str ⟨#[117, 115, 101, 114, 115]⟩)])) .nil)))
    (.cons (.ex (.meth .r_marks (.v 0) (.cons (.k (.str ⟨#[32]⟩)) .nil)))
    (.cons (.set 6 (.call .truth_in (.cons (.v 0) .nil)))
    (.cons (.ex (.meth .r_marks (.v 0) (.cons (.k (.str ⟨#[32]⟩)) .nil)))
    (.cons (.set 7 (.meth .r_several (.v 0) (.cons (.k (.int 0)) (.cons (.bin .sub (.bi .len (.cons (.g ⟨#[82, 69, 65, 83, 79, 78, 83]⟩ (.tuple [(.str ⟨#[99, 101, 97, 115, 101, 100]⟩), (.str ⟨#[99, 104, 97, 110, 103, 101, 100]⟩), (.str ⟨#[104, 101, 97, 100]⟩), (.str ⟨#[104, 111, 108, 100]⟩), (.str ⟨#[107, 101, 121]⟩), (.str ⟨#[114, 101, 112, 108, 97, 99, 101, 100]⟩), (.str ⟨#[114, 105, 103, 104, 116, 115]⟩)])) .nil)) (.k (.int 1))) (.cons (.k (.str ⟨#[114, 101, 97, 115, 111, 110]⟩)) .nil)))))
    (.cons (.ex (.meth .r_marks (.v 0) (.cons (.k (.str ⟨#[32]⟩)) .nil)))
    (.cons (.set 8 (.meth .r_several (.v 0) (.cons (.k (.int 0)) (.cons (.g ⟨#[69, 78, 84, 82, 73, 69, 83]⟩ (.int 30)) (.cons (.g ⟨#[69, 78, 84, 82, 89]⟩ (.str ⟨#[101, 110, 116, 114, 121]⟩)) .nil)))))
    (.cons (.ex (.meth .r_marks (.v 0) (.cons (.k (.str ⟨#[32]⟩)) .nil)))
    (.cons (.ret (.bin .add (.bin .add (.bin .add (.bin .add (.tup (.cons (.v 1) .nil)) (.v 2)) (.tup (.cons (.v 3) .nil))) (.v 4)) (.tup (.cons (.tup (.cons (.v 5) (.cons (.v 6) (.cons (.v 7) .nil)))) (.cons (.v 8) (.cons (.meth .r_number (.v 0) (.cons (.k (.int 0)) (.cons (.g ⟨#[75, 69, 89, 83]⟩ (.int 4294967295)) .nil))) .nil))))))
    .nil)))))))))))))))), false⟩
def ir_with_thing : Body := ⟨2, 0, (.cons (.ret (.bi .tuple (.cons (.bi .sorted (.cons (.bin .add (.v 0) (.tup (.cons (.v 1) .nil))) .nil)) .nil)))
    .nil), false⟩
def ir_without_thing : Body := ⟨2, 1, (.cons (.ret (.bi .tuple (.cons (.compIf 2 (.v 0) (.cmp .ne (.v 2) (.v 1)) (.v 2)) .nil)))
    .nil), false⟩
def ir_stepped : Body := ⟨4, 1, (.cons (.set 4 (.ite (.cmp .eq (.v 1) (.k (.str ⟨#[112, 117, 116]⟩))) (.call .with_thing (.cons (.ix (.v 0) (.v 2)) (.cons (.v 3) .nil))) (.call .without_thing (.cons (.ix (.v 0) (.v 2)) (.cons (.v 3) .nil)))))
    (.cons (.ret (.bin .add (.bin .add (.slTo (.v 0) (.v 2)) (.tup (.cons (.v 4) .nil))) (.slFrom (.v 0) (.bin .add (.v 2) (.k (.int 1))))))
    .nil)), false⟩
def ir_can_step : Body := ⟨4, 0, (.cons (.ret (.cmp .eq (.cmp .isIn (.v 3) (.ix (.v 0) (.v 2))) (.cmp .eq (.v 1) (.k (.str ⟨#[111, 117, 116]⟩)))))
    .nil), false⟩
def ir_own_seal : Body := ⟨2, 0, (.cons (.ret (.call .seal_by (.cons (.ix (.v 0) (.v 1)) (.cons (.call .value_row (.cons (.slTo (.v 0) (.g ⟨#[76, 65, 83, 84]⟩ (.int 8))) .nil)) .nil))))
    .nil), false⟩
def ir_need_text : Body := ⟨1, 0, (.cons (.ite (.or (.not (.isi (.v 0) .str)) (.cmp .gt (.bi .len (.cons (.v 0) .nil)) (.g ⟨#[83, 73, 71, 78, 83, 95, 116, 101, 120, 116, 115]⟩ (.int 20000)))) (.cons .never
    .nil) .nil)
    .nil), false⟩
def ir_read_in : Body := ⟨2, 0, (.cons (.ite (.cmp .eq (.v 0) (.k (.str ⟨#[110, 97, 109, 101]⟩))) (.cons (.ret (.meth .r_words (.v 1) .nil))
    .nil) .nil)
    (.cons (.ite (.cmp .eq (.v 0) (.k (.str ⟨#[111, 116, 104, 101, 114]⟩))) (.cons (.ret .never)
    .nil) .nil)
    (.cons (.ite (.cmp .eq (.v 0) (.k (.str ⟨#[115, 117, 98, 116, 114, 101, 101]⟩))) (.cons (.ret .never)
    .nil) .nil)
    (.cons (.ite (.cmp .eq (.v 0) (.k (.str ⟨#[113, 117, 101, 115, 116, 105, 111, 110]⟩))) (.cons (.ret .never)
    .nil) .nil)
    (.cons (.ite (.cmp .eq (.v 0) (.k (.str ⟨#[115, 116, 111, 114, 101]⟩))) (.cons (.ret .never)
    .nil) .nil)
    (.cons (.ex (.meth .r_marks (.v 1) (.cons (.v 0) .nil)))
    (.cons (.ite (.cmp .eq (.v 0) (.k (.str ⟨#[99, 101, 114, 116, 105, 102, 105, 99, 97, 116, 101]⟩))) (.cons (.ret .never)
    .nil) .nil)
    (.cons (.ret (.ite (.cmp .eq (.v 0) (.k (.str ⟨#[108, 105, 115, 116]⟩))) (.call .list_in (.cons (.v 1) .nil)) .never))
    .nil)))))))), false⟩
def ir_read_by : Body := ⟨2, 2, (.cons (.set 2 (.mk .reading (.cons (.v 1) .nil)))
    (.cons (.set 3 (.call .read_in (.cons (.v 0) (.cons (.v 2) .nil))))
    (.cons (.ex (.meth .r_ends (.v 2) .nil))
    (.cons (.ret (.v 3))
    .nil)))), true⟩
def ir_read_list : Body := ⟨1, 1, (.cons (.ex (.call .need_text (.cons (.v 0) .nil)))
    (.cons (.set 1 (.call .read_by (.cons (.k (.str ⟨#[108, 105, 115, 116]⟩)) (.cons (.v 0) .nil))))
    (.cons (.ex (.call .need_list (.cons (.v 1) .nil)))
    (.cons (.ret (.v 1))
    .nil)))), false⟩
def ir_need_times : Body := ⟨3, 0, (.cons (.ite (.or (.not (.call .is_whole (.cons (.v 0) (.cons (.k (.int 0)) (.cons (.g ⟨#[83, 69, 82, 73, 65, 76, 83]⟩ (.int 1000000)) .nil))))) (.or (.not (.call .is_whole (.cons (.v 1) (.cons (.k (.int 0)) (.cons (.g ⟨#[84, 73, 77, 69, 83]⟩ (.int 1000000000)) .nil))))) (.not (.call .is_whole (.cons (.v 2) (.cons (.v 1) (.cons (.g ⟨#[84, 73, 77, 69, 83]⟩ (.int 1000000000)) .nil))))))) (.cons (.rai .number)
    .nil) .nil)
    .nil), false⟩
def ir_read_thing : Body := ⟨1, 1, (.cons (.ex (.call .need_text (.cons (.v 0) .nil)))
    (.cons (.set 1 (.meth .r_one_of (.mk .reading (.cons (.v 0) .nil)) (.cons (.g ⟨#[84, 72, 73, 78, 71, 83]⟩ (.tuple [(.str ⟨#[97, 110, 99, 104, 111, 114]⟩), (.str ⟨#[99, 101, 114, 116, 105, 102, 105, 99, 97, 116, 101]⟩), (.str ⟨#[108, 105, 115, 116]⟩)])) .nil)))
    (.cons (.ite (.cmp .eq (.v 1) (.k (.str ⟨#[99, 101, 114, 116, 105, 102, 105, 99, 97, 116, 101]⟩))) (.cons (.ret (.tup (.cons (.tix ⟨#[83, 79, 82, 84, 83]⟩ (.tuple [(.str ⟨#[99, 101, 114, 116, 105, 102, 105, 99, 97, 116, 101]⟩), (.str ⟨#[108, 105, 115, 116]⟩), (.str ⟨#[97, 110, 99, 104, 111, 114]⟩)]) (.v 1)) (.cons .never .nil))))
    .nil) .nil)
    (.cons (.ret (.tup (.cons (.tix ⟨#[83, 79, 82, 84, 83]⟩ (.tuple [(.str ⟨#[99, 101, 114, 116, 105, 102, 105, 99, 97, 116, 101]⟩), (.str ⟨#[108, 105, 115, 116]⟩), (.str ⟨#[97, 110, 99, 104, 111, 114]⟩)]) (.v 1)) (.cons (.ite (.cmp .eq (.v 1) (.k (.str ⟨#[108, 105, 115, 116]⟩))) (.call .read_list (.cons (.v 0) .nil)) .never) .nil))))
    .nil)))), true⟩
def ir_newest_plain : Body := ⟨3, 2, (.cons (.set 3 (.k .none))
    (.cons (.forN 4 (.ix (.v 0) (.k (.int 1))) (.cons (.ite (.and (.cmp .eq (.slTo (.v 4) (.k (.int 2))) (.tup (.cons (.v 1) (.cons (.v 2) .nil)))) (.and (.cmp .lt (.ix (.v 4) (.k (.int 3))) (.k (.int 0))) (.cmp .eq (.ix (.v 4) (.k (.int 6))) (.g ⟨#[80, 76, 65, 73, 78, 95, 100, 101, 115, 107]⟩ (.tuple [(.str ⟨#[97, 108, 108]⟩), (.bool false), (.tuple [])]))))) (.cons (.ite (.or (.cmp .is_ (.v 3) (.k .none)) (.cmp .ge (.ix (.v 4) (.k (.int 2))) (.ix (.v 3) (.k (.int 2))))) (.cons (.set 3 (.v 4))
    .nil) .nil)
    .nil) .nil)
    .nil))
    (.cons (.ret (.v 3))
    .nil))), false⟩
def ir_r_init : Body := ⟨2, 0, (.cons (.fset (.v 0) .text (.v 1))
    (.cons (.fset (.v 0) .place (.k (.int 0)))
    .nil)), false⟩
def ir_r_sign : Body := ⟨1, 0, (.cons (.ret (.ite (.cmp .lt (.fld (.v 0) .place) (.bi .len (.cons (.fld (.v 0) .text) .nil))) (.ix (.fld (.v 0) .text) (.fld (.v 0) .place)) (.g ⟨#[69, 78, 68]⟩ (.str ⟨#[126]⟩))))
    .nil), false⟩
def ir_r_goes_on : Body := ⟨2, 0, (.cons (.ite (.not (.v 1)) (.cons .never
    .nil) .nil)
    (.cons (.fset (.v 0) .place (.bin .add (.fld (.v 0) .place) (.k (.int 1))))
    .nil)), false⟩
def ir_r_marks : Body := ⟨2, 1, (.cons (.forN 2 (.v 1) (.cons (.ex (.meth .r_goes_on (.v 0) (.cons (.cmp .eq (.meth .r_sign (.v 0) .nil) (.v 2)) .nil)))
    .nil))
    .nil), false⟩
def ir_r_ends : Body := ⟨1, 0, (.cons (.ite (.cmp .lt (.fld (.v 0) .place) (.bi .len (.cons (.fld (.v 0) .text) .nil))) (.cons .never
    .nil) .nil)
    .nil), false⟩
def ir_r_one_of : Body := ⟨2, 2, (.cons (.set 2 (.k (.str ⟨#[]⟩)))
    (.cons (.whl (.bi .any (.cons (.comp 3 (.v 1) (.dm .startswith (.v 3) (.bin .add (.v 2) (.meth .r_sign (.v 0) .nil)))) .nil)) (.cons (.set 2 (.bin .add (.v 2) (.meth .r_sign (.v 0) .nil)))
    (.cons (.ex (.meth .r_goes_on (.v 0) (.cons (.k (.bool true)) .nil)))
    .nil)))
    (.cons (.ite (.cmp .notIn (.v 2) (.v 1)) (.cons .never
    .nil) .nil)
    (.cons (.ret (.v 2))
    .nil)))), false⟩
def ir_r_word : Body := ⟨1, 1, (.cons (.set 1 (.k (.str ⟨#[]⟩)))
    (.cons (.whl (.and (.cmp .isIn (.meth .r_sign (.v 0) .nil) (.g ⟨#[83, 73, 71, 78, 83, 95, 118, 97, 108, 117, 101, 115]⟩ (.str ⟨#[97, 98, 99, 100, 101, 102, 103, 104, 105, 106, 107, 108, 109, 110, 111, 112, 113, 114, 115, 116, 117, 118, 119, 120, 121, 122, 48, 49, 50, 51, 52, 53, 54, 55, 56, 57]⟩))) (.cmp .lt (.bi .len (.cons (.v 1) .nil)) (.g ⟨#[76, 79, 78, 71, 69, 83, 84]⟩ (.int 12)))) (.cons (.set 1 (.bin .add (.v 1) (.meth .r_sign (.v 0) .nil)))
    (.cons (.ex (.meth .r_goes_on (.v 0) (.cons (.k (.bool true)) .nil)))
    .nil)))
    (.cons (.ite (.cmp .eq (.v 1) (.k (.str ⟨#[]⟩))) (.cons .never
    .nil) .nil)
    (.cons (.ret (.v 1))
    .nil)))), false⟩
def ir_r_number : Body := ⟨3, 3, (.cons (.set 3 (.k (.int 0)))
    (.cons (.set 4 (.fld (.v 0) .place))
    (.cons (.whl (.cmp .isIn (.meth .r_sign (.v 0) .nil) (.g ⟨#[68, 73, 71, 73, 84, 83]⟩ (.str ⟨#[48, 49, 50, 51, 52, 53, 54, 55, 56, 57]⟩))) (.cons (.set 5 (.bin .add (.bin .mul (.k (.int 10)) (.v 3)) (.bi .int (.cons (.meth .r_sign (.v 0) .nil) .nil))))
    (.cons (.ex (.meth .r_goes_on (.v 0) (.cons (.and (.or (.cmp .gt (.v 3) (.k (.int 0))) (.cmp .eq (.fld (.v 0) .place) (.v 4))) (.call .can_reach (.cons (.v 5) (.cons (.v 1) (.cons (.v 2) .nil))))) .nil)))
    (.cons (.set 3 (.v 5))
    .nil))))
    (.cons (.ite (.or (.cmp .eq (.fld (.v 0) .place) (.v 4)) (.cmp .lt (.v 3) (.v 1))) (.cons .never
    .nil) .nil)
    (.cons (.ret (.v 3))
    .nil))))), false⟩
def ir_r_number_or_none : Body := ⟨2, 0, (.cons (.ite (.cmp .eq (.meth .r_sign (.v 0) .nil) (.k (.str ⟨#[45]⟩))) (.cons (.ex (.meth .r_goes_on (.v 0) (.cons (.k (.bool true)) .nil)))
    (.cons (.ret (.neg 1))
    .nil)) .nil)
    (.cons (.ret (.meth .r_number (.v 0) (.cons (.k (.int 0)) (.cons (.v 1) .nil))))
    .nil)), false⟩
def ir_r_words : Body := ⟨1, 1, (.cons (.set 1 (.tup (.cons (.meth .r_word (.v 0) .nil) .nil)))
    (.cons (.whl (.and (.cmp .eq (.meth .r_sign (.v 0) .nil) (.k (.str ⟨#[47]⟩))) (.cmp .lt (.bi .len (.cons (.v 1) .nil)) (.g ⟨#[68, 69, 69, 80]⟩ (.int 4)))) (.cons (.ex (.meth .r_goes_on (.v 0) (.cons (.k (.bool true)) .nil)))
    (.cons (.set 1 (.bin .add (.v 1) (.tup (.cons (.meth .r_word (.v 0) .nil) .nil))))
    .nil)))
    (.cons (.ret (.v 1))
    .nil))), false⟩
def ir_r_entry : Body := ⟨1, 3, (.cons (.set 1 (.meth .r_words (.v 0) .nil))
    (.cons (.ex (.meth .r_marks (.v 0) (.cons (.k (.str ⟨#[58]⟩)) .nil)))
    (.cons (.set 2 (.meth .r_number (.v 0) (.cons (.k (.int 0)) (.cons (.g ⟨#[83, 69, 82, 73, 65, 76, 83]⟩ (.int 1000000)) .nil))))
    (.cons (.ex (.meth .r_marks (.v 0) (.cons (.k (.str ⟨#[58]⟩)) .nil)))
    (.cons (.set 3 (.meth .r_number (.v 0) (.cons (.k (.int 0)) (.cons (.g ⟨#[84, 73, 77, 69, 83]⟩ (.int 1000000000)) .nil))))
    (.cons (.ex (.meth .r_marks (.v 0) (.cons (.k (.str ⟨#[58]⟩)) .nil)))
    (.cons (.ret (.tup (.cons (.v 1) (.cons (.v 2) (.cons (.v 3) (.cons (.meth .r_one_of (.v 0) (.cons (.bin .add (.g ⟨#[82, 69, 65, 83, 79, 78, 83]⟩ (.tuple [(.str ⟨#[99, 101, 97, 115, 101, 100]⟩), (.str ⟨#[99, 104, 97, 110, 103, 101, 100]⟩), (.str ⟨#[104, 101, 97, 100]⟩), (.str ⟨#[104, 111, 108, 100]⟩), (.str ⟨#[107, 101, 121]⟩), (.str ⟨#[114, 101, 112, 108, 97, 99, 101, 100]⟩), (.str ⟨#[114, 105, 103, 104, 116, 115]⟩)])) (.tup (.cons (.g ⟨#[66, 65, 67, 75]⟩ (.str ⟨#[98, 97, 99, 107]⟩)) .nil))) .nil)) .nil))))))
    .nil))))))), false⟩
def ir_r_item : Body := ⟨2, 0, (.cons (.ite (.cmp .eq (.v 1) (.k (.str ⟨#[115, 117, 98, 116, 114, 101, 101]⟩))) (.cons (.ret .never)
    .nil) .nil)
    (.cons (.ite (.cmp .eq (.v 1) (.k (.str ⟨#[111, 116, 104, 101, 114]⟩))) (.cons (.ret .never)
    .nil) .nil)
    (.cons (.ite (.cmp .eq (.v 1) (.k (.str ⟨#[110, 97, 109, 101]⟩))) (.cons (.ret (.meth .r_words (.v 0) .nil))
    .nil) .nil)
    (.cons (.ite (.cmp .eq (.v 1) (.k (.str ⟨#[119, 111, 114, 100]⟩))) (.cons (.ret (.meth .r_word (.v 0) .nil))
    .nil) .nil)
    (.cons (.ite (.cmp .eq (.v 1) (.k (.str ⟨#[101, 110, 116, 114, 121]⟩))) (.cons (.ret (.meth .r_entry (.v 0) .nil))
    .nil) .nil)
    (.cons (.ite (.cmp .isIn (.v 1) (.tup (.cons (.k (.str ⟨#[109, 97, 112, 112, 105, 110, 103]⟩)) (.cons (.k (.str ⟨#[115, 101, 97, 108, 101, 114]⟩)) .nil)))) (.cons (.ret .never)
    .nil) .nil)
    (.cons (.ret (.meth .r_one_of (.v 0) (.cons (.pick [⟨#[112, 117, 114, 112, 111, 115, 101]⟩, ⟨#[117, 115, 101]⟩, ⟨#[114, 101, 97, 115, 111, 110]⟩, ⟨#[97, 115, 107, 101, 100]⟩] [(⟨#[80, 85, 82, 80, 79, 83, 69, 83]⟩, (.tuple [(.str ⟨#[97, 110, 121]⟩), (.str ⟨#[99, 97, 108, 108]⟩), (.str ⟨#[115, 101, 114, 118, 101]⟩), (.str ⟨#[115, 105, 103, 110]⟩), (.str ⟨#[115, 116, 97, 109, 112]⟩)])), (⟨#[85, 83, 69, 83]⟩, (.tuple [(.str ⟨#[97, 103, 114, 101, 101]⟩), (.str ⟨#[99, 101, 114, 116, 115]⟩), (.str ⟨#[108, 105, 115, 116, 115]⟩), (.str ⟨#[115, 105, 103, 110]⟩)])), (⟨#[82, 69, 65, 83, 79, 78, 83]⟩, (.tuple [(.str ⟨#[99, 101, 97, 115, 101, 100]⟩), (.str ⟨#[99, 104, 97, 110, 103, 101, 100]⟩), (.str ⟨#[104, 101, 97, 100]⟩), (.str ⟨#[104, 111, 108, 100]⟩), (.str ⟨#[107, 101, 121]⟩), (.str ⟨#[114, 101, 112, 108, 97, 99, 101, 100]⟩), (.str ⟨#[114, 105, 103, 104, 116, 115]⟩)])), (⟨#[65, 83, 75, 69, 68]⟩, (.tuple [(.str ⟨#[99, 97, 108, 108]⟩), (.str ⟨#[115, 101, 114, 118, 101]⟩), (.str ⟨#[115, 105, 103, 110]⟩), (.str ⟨#[115, 116, 97, 109, 112]⟩)]))] (.v 1)) .nil)))
    .nil))))))), false⟩
def ir_r_several : Body := ⟨4, 1, (.cons (.ex (.meth .r_marks (.v 0) (.cons (.k (.str ⟨#[91]⟩)) .nil)))
    (.cons (.ite (.and (.cmp .eq (.v 1) (.k (.int 0))) (.cmp .eq (.meth .r_sign (.v 0) .nil) (.k (.str ⟨#[93]⟩)))) (.cons (.ex (.meth .r_goes_on (.v 0) (.cons (.k (.bool true)) .nil)))
    (.cons (.ret (.tup .nil))
    .nil)) .nil)
    (.cons (.set 4 (.tup (.cons (.meth .r_item (.v 0) (.cons (.v 3) .nil)) .nil)))
    (.cons (.whl (.and (.cmp .eq (.meth .r_sign (.v 0) .nil) (.k (.str ⟨#[44]⟩))) (.cmp .lt (.bi .len (.cons (.v 4) .nil)) (.v 2))) (.cons (.ex (.meth .r_goes_on (.v 0) (.cons (.k (.bool true)) .nil)))
    (.cons (.set 4 (.bin .add (.v 4) (.tup (.cons (.meth .r_item (.v 0) (.cons (.v 3) .nil)) .nil))))
    .nil)))
    (.cons (.ex (.meth .r_marks (.v 0) (.cons (.k (.str ⟨#[93]⟩)) .nil)))
    (.cons (.ret (.v 4))
    .nil)))))), false⟩
def ir_d_init : Body := ⟨1, 0, (.cons (.fset (.v 0) .lots (.tup (.cons (.tup .nil) (.cons (.tup .nil) (.cons (.tup .nil) .nil)))))
    (.cons (.fsetN (.v 0) .done)
    (.cons (.fsetN (.v 0) .undone)
    .nil))), false⟩
def ir_d_store : Body := ⟨1, 0, (.cons (.ret (.fld (.v 0) .lots))
    .nil), false⟩
def ir_d_deeds : Body := ⟨1, 3, (.cons (.ret (.compU [1, 2, 3] (.fld (.v 0) .done) (.tup (.cons (.v 1) (.cons (.call .thing_text (.cons (.ix (.g ⟨#[83, 79, 82, 84, 83]⟩ (.tuple [(.str ⟨#[99, 101, 114, 116, 105, 102, 105, 99, 97, 116, 101]⟩), (.str ⟨#[108, 105, 115, 116]⟩), (.str ⟨#[97, 110, 99, 104, 111, 114]⟩)])) (.v 2)) (.cons (.v 3) .nil))) .nil)))))
    .nil), false⟩
def ir_d_does : Body := ⟨4, 0, (.cons (.ite (.and (.cmp .eq (.v 1) (.k (.str ⟨#[112, 117, 116]⟩))) (.cmp .eq (.bi .len (.cons (.ix (.fld (.v 0) .lots) (.v 2)) .nil)) (.ix (.g ⟨#[77, 79, 83, 84]⟩ (.tuple [(.int 30), (.int 12), (.int 6)])) (.v 2)))) (.cons .never
    .nil) .nil)
    (.cons (.ite (.cmp .eq (.bi .len (.cons (.fld (.v 0) .done) .nil)) (.g ⟨#[68, 69, 69, 68, 83]⟩ (.int 200))) (.cons .never
    .nil) .nil)
    (.cons (.fset (.v 0) .lots (.call .stepped (.cons (.fld (.v 0) .lots) (.cons (.v 1) (.cons (.v 2) (.cons (.v 3) .nil))))))
    (.cons (.app (.fld (.v 0) .done) (.tup (.cons (.v 1) (.cons (.v 2) (.cons (.v 3) .nil)))))
    (.cons (.fsetN (.v 0) .undone)
    .nil))))), false⟩
def ir_d_put : Body := ⟨2, 2, (.cons (.unp [2, 3] (.call .read_thing (.cons (.v 1) .nil)))
    (.cons (.ite (.not (.call .can_step (.cons (.fld (.v 0) .lots) (.cons (.k (.str ⟨#[112, 117, 116]⟩)) (.cons (.v 2) (.cons (.v 3) .nil)))))) (.cons (.rai .isThere)
    .nil) .nil)
    (.cons (.ex (.meth .d_does (.v 0) (.cons (.k (.str ⟨#[112, 117, 116]⟩)) (.cons (.v 2) (.cons (.v 3) .nil)))))
    .nil))), false⟩
def ir_d_puts_list : Body := ⟨6, 3, (.cons (.set 6 (.call .newest_plain (.cons (.fld (.v 0) .lots) (.cons (.v 1) (.cons (.v 2) .nil)))))
    (.cons (.set 7 (.ite (.cmp .is_ (.v 6) (.k .none)) (.k (.int 0)) (.bin .add (.ix (.v 6) (.k (.int 2))) (.k (.int 1)))))
    (.cons (.ite (.cmp .gt (.bi .len (.cons (.v 3) .nil)) (.g ⟨#[69, 78, 84, 82, 73, 69, 83]⟩ (.int 30))) (.cons .never
    .nil) .nil)
    (.cons (.ite (.cmp .gt (.v 7) (.g ⟨#[78, 85, 77, 66, 69, 82, 83]⟩ (.int 1000000))) (.cons .never
    .nil) .nil)
    (.cons (.set 8 (.tup (.cons (.v 1) (.cons (.v 2) (.cons (.v 7) (.cons (.neg 1) (.cons (.v 4) (.cons (.v 5) (.cons (.g ⟨#[80, 76, 65, 73, 78, 95, 100, 101, 115, 107]⟩ (.tuple [(.str ⟨#[97, 108, 108]⟩), (.bool false), (.tuple [])])) (.cons (.bi .tuple (.cons (.bi .sorted (.cons (.v 3) .nil)) .nil)) .nil))))))))))
    (.cons (.set 8 (.bin .add (.v 8) (.tup (.cons (.call .own_seal (.cons (.v 8) (.cons (.g ⟨#[76, 73, 83, 84, 95, 83, 69, 65, 76, 69, 82]⟩ (.int 1)) .nil))) .nil))))
    (.cons (.ex (.meth .d_does (.v 0) (.cons (.k (.str ⟨#[112, 117, 116]⟩)) (.cons (.k (.int 1)) (.cons (.v 8) .nil)))))
    (.cons (.ret (.call .thing_text (.cons (.k (.str ⟨#[108, 105, 115, 116]⟩)) (.cons (.v 8) .nil))))
    .nil)))))))), false⟩
def ir_d_withdraw : Body := ⟨8, 3, (.cons (.ex (.call .need_name (.cons (.v 1) .nil)))
    (.cons (.ex (.call .need_key (.cons (.v 2) .nil)))
    (.cons (.ex (.call .need_times (.cons (.v 3) (.cons (.v 4) (.cons (.g ⟨#[84, 73, 77, 69, 83]⟩ (.int 1000000000)) .nil)))))
    (.cons (.ite (.or (.not (.isi (.v 5) .str)) (.cmp .notIn (.v 5) (.g ⟨#[82, 69, 65, 83, 79, 78, 83]⟩ (.tuple [(.str ⟨#[99, 101, 97, 115, 101, 100]⟩), (.str ⟨#[99, 104, 97, 110, 103, 101, 100]⟩), (.str ⟨#[104, 101, 97, 100]⟩), (.str ⟨#[104, 111, 108, 100]⟩), (.str ⟨#[107, 101, 121]⟩), (.str ⟨#[114, 101, 112, 108, 97, 99, 101, 100]⟩), (.str ⟨#[114, 105, 103, 104, 116, 115]⟩)])))) (.cons (.rai .word)
    .nil) .nil)
    (.cons (.ex (.call .need_times (.cons (.v 3) (.cons (.v 6) (.cons (.v 7) .nil)))))
    (.cons (.set 8 (.call .newest_plain (.cons (.fld (.v 0) .lots) (.cons (.v 1) (.cons (.v 2) .nil)))))
    (.cons (.set 9 (.ite (.cmp .is_ (.v 8) (.k .none)) (.tup .nil) (.ix (.v 8) (.k (.int 7)))))
    (.cons (.ite (.bi .any (.cons (.comp 10 (.v 9) (.cmp .eq (.ix (.v 10) (.k (.int 1))) (.v 3))) .nil)) (.cons (.rai .isThere)
    .nil) .nil)
    (.cons (.ret (.meth .d_puts_list (.v 0) (.cons (.v 1) (.cons (.v 2) (.cons (.bin .add (.v 9) (.tup (.cons (.tup (.cons (.v 1) (.cons (.v 3) (.cons (.v 4) (.cons (.v 5) .nil))))) .nil))) (.cons (.v 6) (.cons (.v 7) .nil)))))))
    .nil))))))))), false⟩
def ir_d_give_back : Body := ⟨6, 4, (.cons (.ex (.call .need_name (.cons (.v 1) .nil)))
    (.cons (.ex (.call .need_key (.cons (.v 2) .nil)))
    (.cons (.ex (.call .need_times (.cons (.v 3) (.cons (.v 4) (.cons (.v 5) .nil)))))
    (.cons (.set 6 (.call .newest_plain (.cons (.fld (.v 0) .lots) (.cons (.v 1) (.cons (.v 2) .nil)))))
    (.cons (.set 7 (.ite (.cmp .is_ (.v 6) (.k .none)) (.tup .nil) (.ix (.v 6) (.k (.int 7)))))
    (.cons (.set 8 (.bi .tuple (.cons (.compIf 9 (.v 7) (.or (.cmp .ne (.ix (.v 9) (.k (.int 1))) (.v 3)) (.cmp .ne (.ix (.v 9) (.k (.int 3))) (.g ⟨#[72, 79, 76, 68]⟩ (.str ⟨#[104, 111, 108, 100]⟩)))) (.v 9)) .nil)))
    (.cons (.ite (.cmp .eq (.bi .len (.cons (.v 8) .nil)) (.bi .len (.cons (.v 7) .nil))) (.cons (.rai .notThere)
    .nil) .nil)
    (.cons (.ret (.meth .d_puts_list (.v 0) (.cons (.v 1) (.cons (.v 2) (.cons (.v 8) (.cons (.v 4) (.cons (.v 5) .nil)))))))
    .nil)))))))), false⟩
def ir_d_undo : Body := ⟨1, 3, (.cons (.ite (.cmp .eq (.fld (.v 0) .done) (.lst .nil)) (.cons .never
    .nil) .nil)
    (.cons (.unp [1, 2, 3] (.pop (.fld (.v 0) .done)))
    (.cons (.fset (.v 0) .lots (.call .stepped (.cons (.fld (.v 0) .lots) (.cons (.ite (.cmp .eq (.v 1) (.k (.str ⟨#[112, 117, 116]⟩))) (.k (.str ⟨#[111, 117, 116]⟩)) (.k (.str ⟨#[112, 117, 116]⟩))) (.cons (.v 2) (.cons (.v 3) .nil))))))
    (.cons (.app (.fld (.v 0) .undone) (.tup (.cons (.v 1) (.cons (.v 2) (.cons (.v 3) .nil)))))
    (.cons (.ret (.tup (.cons (.v 1) (.cons (.call .thing_text (.cons (.ix (.g ⟨#[83, 79, 82, 84, 83]⟩ (.tuple [(.str ⟨#[99, 101, 114, 116, 105, 102, 105, 99, 97, 116, 101]⟩), (.str ⟨#[108, 105, 115, 116]⟩), (.str ⟨#[97, 110, 99, 104, 111, 114]⟩)])) (.v 2)) (.cons (.v 3) .nil))) .nil))))
    .nil))))), false⟩
def ir_l_cup : Body := ⟨1, 1, (.cons (.set 1 (.bi .abs (.cons (.ix (.bin .add (.bi .list (.cons (.v 0) .nil)) (.lst (.cons (.k (.int 0)) .nil))) (.k (.int 0))) .nil)))
    (.cons (.retN (.cons (.ite (.cmp .ge (.v 1) (.bin .pow (.k (.int 10)) (.k (.int 18)))) (.bin .fdiv (.v 1) (.k (.int 71))) (.k (.int 0))) (.cons (.bin .add (.bin .mod (.bi .int (.cons (.bin .add (.bin .mul (.v 1) (.k (.int 281))) (.k (.int 2683))) .nil)) (.k (.int 2077503161))) (.k (.int 167))) .nil)))
    .nil)), false⟩
def ir_l_roll : Body := ⟨2, 2, (.cons (.ite (.cmp .gt (.ix (.v 0) (.k (.int 0))) (.k (.int 0))) (.cons (.set 2 (.bin .mod (.bi .int (.cons (.ix (.v 0) (.k (.int 0))) .nil)) (.v 1)))
    (.cons (.iset (.v 0) (.k (.int 0)) (.bin .fdiv (.ix (.v 0) (.k (.int 0))) (.v 1)))
    (.cons (.ret (.v 2))
    .nil))) .nil)
    (.cons (.iset (.v 0) (.k (.int 1)) (.bin .mod (.bi .int (.cons (.bin .add (.bin .mul (.ix (.v 0) (.k (.int 1))) (.k (.int 31051))) (.k (.int 7993))) .nil)) (.k (.int 2147483543))))
    (.cons (.set 3 (.bin .mod (.bi .int (.cons (.bin .mul (.ix (.v 0) (.k (.int 1))) (.bin .add (.ix (.v 0) (.k (.int 1))) (.k (.int 233)))) .nil)) (.k (.int 2147483587))))
    (.cons (.ret (.bin .mod (.bi .int (.cons (.bin .fdiv (.v 3) (.k (.int 823))) .nil)) (.v 1)))
    .nil)))), false⟩
def ir_l_some : Body := ⟨2, 0, (.cons (.ret (.ix (.v 1) (.call .l_roll (.cons (.v 0) (.cons (.bi .len (.cons (.v 1) .nil)) .nil)))))
    .nil), false⟩
def ir_l_groups : Body := ⟨1, 1, (.cons (.setN 1)
    (.cons (.whl (.cmp .gt (.v 0) (.k (.int 127))) (.cons (.app (.v 1) (.bin .add (.k (.int 128)) (.bin .mod (.bi .int (.cons (.v 0) .nil)) (.k (.int 128)))))
    (.cons (.set 0 (.bin .fdiv (.v 0) (.k (.int 128))))
    .nil)))
    (.cons (.ret (.bin .add (.v 1) (.lst (.cons (.v 0) .nil))))
    .nil))), true⟩
def ir_l_row : Body := ⟨1, 3, (.cons (.ite (.isi (.v 0) .bool) (.cons (.ret (.lst (.cons (.k (.int 4)) (.cons (.ite (.v 0) (.k (.int 1)) (.k (.int 0))) .nil))))
    .nil) .nil)
    (.cons (.ite (.isi (.v 0) .int) (.cons (.ret (.bin .add (.lst (.cons (.k (.int 1)) .nil)) (.call .l_groups (.cons (.bin .add (.v 0) (.k (.int 1))) .nil))))
    .nil) .nil)
    (.cons (.ite (.isi (.v 0) .str) (.cons (.ret (.bin .add (.bin .add (.lst (.cons (.k (.int 2)) .nil)) (.call .l_groups (.cons (.bi .len (.cons (.v 0) .nil)) .nil))) (.comp 3 (.v 0) (.bi .ord (.cons (.v 3) .nil)))))
    .nil) .nil)
    (.cons (.set 1 (.bin .add (.lst (.cons (.k (.int 3)) .nil)) (.call .l_groups (.cons (.bi .len (.cons (.v 0) .nil)) .nil))))
    (.cons (.forN 2 (.v 0) (.cons (.set 1 (.bin .add (.v 1) (.call .l_row (.cons (.v 2) .nil))))
    .nil))
    (.cons (.ret (.v 1))
    .nil)))))), false⟩
def ir_l_seal : Body := ⟨2, 2, (.cons (.set 2 (.bin .mod (.bi .int (.cons (.v 0) .nil)) (.k (.int 4294967291))))
    (.cons (.forN 3 (.v 1) (.cons (.set 2 (.bin .mod (.bi .int (.cons (.bin .add (.bin .add (.bin .mul (.v 2) (.k (.int 257))) (.v 3)) (.k (.int 1))) .nil)) (.k (.int 4294967291))))
    .nil))
    (.cons (.ret (.bin .mod (.bi .int (.cons (.bin .add (.bin .mul (.v 2) (.v 2)) (.v 0)) .nil)) (.k (.int 4294967291))))
    .nil))), false⟩
def ir_l_sealed_list : Body := ⟨1, 0, (.cons (.ret (.bin .add (.slTo (.v 0) (.k (.int 8))) (.tup (.cons (.call .l_seal (.cons (.ix (.v 0) (.k (.int 1))) (.cons (.call .l_row (.cons (.slTo (.v 0) (.k (.int 8))) .nil)) .nil))) .nil))))
    .nil), false⟩
def ir_l_words : Body := ⟨1, 0, (.cons (.ret (.dm .join (.k (.str ⟨#[47]⟩)) (.v 0)))
    .nil), false⟩
def ir_l_several : Body := ⟨1, 0, (.cons (.ret (.bin .add (.bin .add (.k (.str ⟨#[91]⟩)) (.dm .join (.k (.str ⟨#[44]⟩)) (.v 0))) (.k (.str ⟨#[93]⟩))))
    .nil), false⟩
def ir_l_integer : Body := ⟨1, 0, (.cons (.ret (.ite (.cmp .eq (.v 0) (.neg 1)) (.k (.str ⟨#[45]⟩)) (.bi .str (.cons (.v 0) .nil))))
    .nil), false⟩
def ir_l_list_text : Body := ⟨1, 3, (.cons (.set 1 (.lst (.cons (.k (.str ⟨#[108, 105, 115, 116]⟩)) (.cons (.call .l_words (.cons (.ix (.v 0) (.k (.int 0))) .nil)) (.cons (.bi .str (.cons (.ix (.v 0) (.k (.int 1))) .nil)) (.cons (.bi .str (.cons (.ix (.v 0) (.k (.int 2))) .nil)) (.cons (.call .l_integer (.cons (.ix (.v 0) (.k (.int 3))) .nil)) (.cons (.bi .str (.cons (.ix (.v 0) (.k (.int 4))) .nil)) (.cons (.bi .str (.cons (.ix (.v 0) (.k (.int 5))) .nil)) (.cons (.ix (.ix (.v 0) (.k (.int 6))) (.k (.int 0))) .nil))))))))))
    (.cons (.setC 2 (.comp 3 (.ix (.v 0) (.k (.int 7))) (.bin .add (.bin .add (.bin .add (.bin .add (.bin .add (.bin .add (.call .l_words (.cons (.ix (.v 3) (.k (.int 0))) .nil)) (.k (.str ⟨#[58]⟩))) (.bi .str (.cons (.ix (.v 3) (.k (.int 1))) .nil))) (.k (.str ⟨#[58]⟩))) (.bi .str (.cons (.ix (.v 3) (.k (.int 2))) .nil))) (.k (.str ⟨#[58]⟩))) (.ix (.v 3) (.k (.int 3))))))
    (.cons (.ret (.dm .join (.k (.str ⟨#[32]⟩)) (.bin .add (.v 1) (.lst (.cons (.ite (.ix (.ix (.v 0) (.k (.int 6))) (.k (.int 1))) (.k (.str ⟨#[121, 101, 115]⟩)) (.k (.str ⟨#[110, 111]⟩))) (.cons (.call .l_several (.cons (.bi .list (.cons (.ix (.ix (.v 0) (.k (.int 6))) (.k (.int 2))) .nil)) .nil)) (.cons (.call .l_several (.cons (.v 2) .nil)) (.cons (.bi .str (.cons (.ix (.v 0) (.k (.int 8))) .nil)) .nil))))))))
    .nil))), false⟩
def ir_l_same : Body := ⟨2, 0, (.cons (.ret (.cmp .eq (.bi .repr (.cons (.v 0) .nil)) (.bi .repr (.cons (.v 1) .nil))))
    .nil), false⟩
def ir_l_call : Body := ⟨3, 0, (.cons (.try_ (.cons (.ite (.v 1) (.cons (.ret (.tup (.cons (.k (.str ⟨#[116, 101, 120, 116]⟩)) (.cons (.meth .d_withdraw (.v 0) (.cons (.ix (.v 2) (.k (.int 0))) (.cons (.ix (.v 2) (.k (.int 1))) (.cons (.ix (.v 2) (.k (.int 2))) (.cons (.ix (.v 2) (.k (.int 3))) (.cons (.ix (.v 2) (.k (.int 4))) (.cons (.ix (.v 2) (.k (.int 5))) (.cons (.ix (.v 2) (.k (.int 6))) .nil)))))))) .nil))))
    .nil) .nil)
    (.cons (.ret (.tup (.cons (.k (.str ⟨#[116, 101, 120, 116]⟩)) (.cons (.meth .d_give_back (.v 0) (.cons (.ix (.v 2) (.k (.int 0))) (.cons (.ix (.v 2) (.k (.int 1))) (.cons (.ix (.v 2) (.k (.int 2))) (.cons (.ix (.v 2) (.k (.int 5))) (.cons (.ix (.v 2) (.k (.int 6))) .nil)))))) .nil))))
    .nil)) [(.name, (.tuple [(.str ⟨#[110, 97, 109, 101]⟩), (.int 0)])), (.number, (.tuple [(.str ⟨#[110, 117, 109, 98, 101, 114]⟩), (.int 0)])), (.word, (.tuple [(.str ⟨#[119, 111, 114, 100]⟩), (.int 0)])), (.isThere, (.tuple [(.str ⟨#[73, 115, 84, 104, 101, 114, 101]⟩), (.int 0)])), (.notThere, (.tuple [(.str ⟨#[78, 111, 116, 84, 104, 101, 114, 101]⟩), (.int 0)]))])
    .nil), false⟩
def ir_l_is_number : Body := ⟨3, 0, (.cons (.ret (.and (.isi (.v 0) .int) (.and (.not (.isi (.v 0) .bool)) (.chain (.v 1) (.v 0) (.v 2)))))
    .nil), false⟩
def ir_l_flaw : Body := ⟨2, 7, (.cons (.unp [2, 3, 4, 5, 6, 7, 8] (.v 1))
    (.cons (.ite (.or (.not (.isi (.v 2) .tuple)) (.not (.chain (.k (.int 1)) (.bi .len (.cons (.v 2) .nil)) (.k (.int 4))))) (.cons (.ret (.k (.str ⟨#[110, 97, 109, 101]⟩)))
    .nil) .nil)
    (.cons (.ite (.or (.not (.call .l_is_number (.cons (.v 3) (.cons (.k (.int 0)) (.cons (.k (.int 4294967295)) .nil))))) (.not (.call .l_is_number (.cons (.v 4) (.cons (.k (.int 0)) (.cons (.k (.int 1000000)) .nil)))))) (.cons (.ret (.k (.str ⟨#[110, 117, 109, 98, 101, 114]⟩)))
    .nil) .nil)
    (.cons (.ite (.and (.v 0) (.not (.call .l_is_number (.cons (.v 5) (.cons (.k (.int 0)) (.cons (.k (.int 1000000000)) .nil)))))) (.cons (.ret (.k (.str ⟨#[110, 117, 109, 98, 101, 114]⟩)))
    .nil) .nil)
    (.cons (.ite (.and (.v 0) (.cmp .notIn (.v 6) (.lst (.cons (.k (.str ⟨#[99, 101, 97, 115, 101, 100]⟩)) (.cons (.k (.str ⟨#[99, 104, 97, 110, 103, 101, 100]⟩)) (.cons (.k (.str ⟨#[104, 101, 97, 100]⟩)) (.cons (.k (.str ⟨#[104, 111, 108, 100]⟩)) (.cons (.k (.str ⟨#[107, 101, 121]⟩)) (.cons (.k (.str ⟨#[114, 101, 112, 108, 97, 99, 101, 100]⟩)) (.cons (.k (.str ⟨#[114, 105, 103, 104, 116, 115]⟩)) .nil)))))))))) (.cons (.ret (.k (.str ⟨#[119, 111, 114, 100]⟩)))
    .nil) .nil)
    (.cons (.ret (.ite (.and (.call .l_is_number (.cons (.v 7) (.cons (.k (.int 0)) (.cons (.k (.int 1000000000)) .nil)))) (.call .l_is_number (.cons (.v 8) (.cons (.v 7) (.cons (.k (.int 1000000000)) .nil))))) (.k (.str ⟨#[]⟩)) (.k (.str ⟨#[110, 117, 109, 98, 101, 114]⟩))))
    .nil)))))), false⟩
def ir_l_newest : Body := ⟨3, 2, (.cons (.setC 3 (.compIf 4 (.v 0) (.and (.cmp .eq (.slTo (.v 4) (.k (.int 2))) (.tup (.cons (.v 1) (.cons (.v 2) .nil)))) (.and (.cmp .eq (.ix (.v 4) (.k (.int 3))) (.neg 1)) (.cmp .eq (.ix (.v 4) (.k (.int 6))) (.tup (.cons (.k (.str ⟨#[97, 108, 108]⟩)) (.cons (.k (.bool false)) (.cons (.tup .nil) .nil))))))) (.tup (.cons (.ix (.v 4) (.k (.int 2))) (.cons (.v 4) .nil)))))
    (.cons (.ret (.ite (.cmp .ne (.v 3) (.lst .nil)) (.ix (.bi .max (.cons (.v 3) .nil)) (.k (.int 1))) (.tup (.cons (.v 1) (.cons (.v 2) (.cons (.neg 1) (.cons (.neg 1) (.cons (.k (.int 0)) (.cons (.k (.int 0)) (.cons (.tup (.cons (.k (.str ⟨#[97, 108, 108]⟩)) (.cons (.k (.bool false)) (.cons (.tup .nil) .nil)))) (.cons (.tup .nil) (.cons (.k (.int 0)) .nil))))))))))))
    .nil)), false⟩
def ir_l_listed : Body := ⟨1, 5, (.cons (.unp [1, 2] (.tup (.cons (.call .l_some (.cons (.v 0) (.cons (.lst (.cons (.tup (.cons (.k (.str ⟨#[114]⟩)) .nil)) (.cons (.tup (.cons (.k (.str ⟨#[114]⟩)) (.cons (.k (.str ⟨#[97]⟩)) .nil))) .nil))) .nil))) (.cons (.call .l_some (.cons (.v 0) (.cons (.lst (.cons (.neg 1) (.cons (.neg 1) (.cons (.neg 1) (.cons (.k (.int 0)) .nil))))) .nil))) .nil))))
    (.cons (.set 3 (.call .l_some (.cons (.v 0) (.cons (.lst (.cons (.tup (.cons (.k (.str ⟨#[97, 108, 108]⟩)) (.cons (.k (.bool false)) (.cons (.tup .nil) .nil)))) (.cons (.tup (.cons (.k (.str ⟨#[97, 108, 108]⟩)) (.cons (.k (.bool false)) (.cons (.tup .nil) .nil)))) (.cons (.tup (.cons (.k (.str ⟨#[104, 101, 97, 100, 115]⟩)) (.cons (.k (.bool false)) (.cons (.tup .nil) .nil)))) (.cons (.tup (.cons (.k (.str ⟨#[97, 108, 108]⟩)) (.cons (.k (.bool true)) (.cons (.tup .nil) .nil)))) (.cons (.tup (.cons (.k (.str ⟨#[97, 108, 108]⟩)) (.cons (.k (.bool false)) (.cons (.tup (.cons (.k (.str ⟨#[104, 111, 108, 100]⟩)) (.cons (.k (.str ⟨#[107, 101, 121]⟩)) .nil))) .nil)))) .nil)))))) .nil))))
    (.cons (.set 4 (.bi .tuple (.cons (.compIf 5 (.tup (.cons (.k (.int 1)) (.cons (.k (.int 2)) (.cons (.k (.int 7)) .nil)))) (.cmp .eq (.call .l_roll (.cons (.v 0) (.cons (.k (.int 2)) .nil))) (.k (.int 0))) (.tup (.cons (.v 1) (.cons (.v 5) (.cons (.k (.int 5)) (.cons (.call .l_some (.cons (.v 0) (.cons (.lst (.cons (.k (.str ⟨#[104, 111, 108, 100]⟩)) (.cons (.k (.str ⟨#[104, 111, 108, 100]⟩)) (.cons (.k (.str ⟨#[107, 101, 121]⟩)) .nil)))) .nil))) .nil)))))) .nil)))
    (.cons (.ret (.tup (.cons (.v 1) (.cons (.call .l_some (.cons (.v 0) (.cons (.lst (.cons (.k (.int 11)) (.cons (.k (.int 12)) .nil))) .nil))) (.cons (.call .l_some (.cons (.v 0) (.cons (.lst (.cons (.k (.int 1)) (.cons (.k (.int 2)) (.cons (.k (.int 2)) (.cons (.k (.int 999)) .nil))))) .nil))) (.cons (.v 2) (.cons (.k (.int 0)) (.cons (.call .l_some (.cons (.v 0) (.cons (.lst (.cons (.k (.int 9)) (.cons (.k (.int 90)) .nil))) .nil))) (.cons (.v 3) (.cons (.v 4) (.cons (.k (.int 0)) .nil)))))))))))
    .nil)))), false⟩
def ir_law : Body := ⟨1, 19, (.cons (.set 1 (.call .l_cup (.cons (.v 0) .nil)))
    (.cons (.parN 2 3 (.mk .desk .nil))
    (.cons (.forR 4 (.call .l_roll (.cons (.v 1) (.cons (.k (.int 5)) .nil))) (.cons (.set 5 (.call .l_listed (.cons (.v 1) .nil)))
    (.cons (.ite (.cmp .notIn (.v 5) (.v 3)) (.cons (.ex (.meth .d_put (.v 2) (.cons (.call .l_list_text (.cons (.v 5) .nil)) .nil)))
    (.cons (.app (.v 3) (.v 5))
    .nil)) .nil)
    .nil)))
    (.cons (.forR 4 (.bin .add (.k (.int 1)) (.call .l_roll (.cons (.v 1) (.cons (.k (.int 8)) .nil)))) (.cons (.par 6 7 (.cmp .gt (.call .l_roll (.cons (.v 1) (.cons (.k (.int 3)) .nil))) (.k (.int 0))) (.call .l_some (.cons (.v 1) (.cons (.lst (.cons (.k (.int 0)) (.cons (.k (.int 100)) (.cons (.k (.int 1000000000)) .nil)))) .nil))))
    (.cons (.par 8 9 (.call .l_some (.cons (.v 1) (.cons (.lst (.cons (.k (.str ⟨#[104, 111, 108, 100]⟩)) (.cons (.k (.str ⟨#[104, 111, 108, 100]⟩)) (.cons (.k (.str ⟨#[107, 101, 121]⟩)) (.cons (.k (.str ⟨#[104, 101, 97, 100]⟩)) (.cons (.k (.str ⟨#[99, 101, 97, 115, 101, 100]⟩)) .nil)))))) .nil))) (.call .l_some (.cons (.v 1) (.cons (.lst (.cons (.v 7) (.cons (.k (.int 1000000000)) .nil))) .nil))))
    (.cons (.set 10 (.tup (.cons (.call .l_some (.cons (.v 1) (.cons (.lst (.cons (.tup (.cons (.k (.str ⟨#[114]⟩)) .nil)) (.cons (.tup (.cons (.k (.str ⟨#[114]⟩)) (.cons (.k (.str ⟨#[97]⟩)) .nil))) .nil))) .nil))) (.cons (.call .l_some (.cons (.v 1) (.cons (.lst (.cons (.k (.int 11)) (.cons (.k (.int 12)) .nil))) .nil))) (.cons (.call .l_some (.cons (.v 1) (.cons (.lst (.cons (.k (.int 1)) (.cons (.k (.int 2)) (.cons (.k (.int 3)) (.cons (.k (.int 7)) .nil))))) .nil))) (.cons (.k (.int 5)) (.cons (.v 8) (.cons (.v 7) (.cons (.v 9) .nil)))))))))
    (.cons (.ite (.cmp .eq (.call .l_roll (.cons (.v 1) (.cons (.k (.int 4)) .nil))) (.k (.int 0))) (.cons (.set 11 (.call .l_roll (.cons (.v 1) (.cons (.k (.int 7)) .nil))))
    (.cons (.set 12 (.call .l_some (.cons (.v 1) (.cons (.lst (.cons (.k .none) (.cons (.neg 1) (.cons (.k (.bool true)) (.cons (.k (.str ⟨#[98, 97, 99, 107]⟩)) (.cons (.tup .nil) (.cons (.bin .mul (.tup (.cons (.k (.str ⟨#[97]⟩)) .nil)) (.k (.int 5))) (.cons (.bin .pow (.k (.int 10)) (.k (.int 12))) .nil)))))))) .nil))))
    (.cons (.set 10 (.bin .add (.bin .add (.slTo (.v 10) (.v 11)) (.tup (.cons (.v 12) .nil))) (.slFrom (.v 10) (.bin .add (.v 11) (.k (.int 1))))))
    (.cons (.ite (.cmp .eq (.call .l_roll (.cons (.v 1) (.cons (.k (.int 2)) .nil))) (.k (.int 0))) (.cons (.set 10 (.bin .add (.slTo (.v 10) (.k (.int 6))) (.tup (.cons (.call .l_some (.cons (.v 1) (.cons (.lst (.cons (.neg 1) (.cons (.k .none) (.cons (.bin .pow (.k (.int 10)) (.k (.int 12))) .nil)))) .nil))) .nil))))
    .nil) .nil)
    .nil)))) .nil)
    (.cons (.set 13 (.call .l_flaw (.cons (.v 6) (.cons (.v 10) .nil))))
    (.cons (.set 14 (.tup (.cons (.v 13) (.cons (.k (.int 0)) .nil))))
    (.cons (.ite (.cmp .eq (.v 13) (.k (.str ⟨#[]⟩))) (.cons (.set 15 (.call .l_newest (.cons (.v 3) (.cons (.ix (.v 10) (.k (.int 0))) (.cons (.ix (.v 10) (.k (.int 1))) .nil)))))
    (.cons (.setC 16 (.compIf 19 (.ix (.v 15) (.k (.int 7))) (.cmp .eq (.ix (.v 19) (.k (.int 1))) (.ix (.v 10) (.k (.int 2)))) (.v 19)))
    (.cons (.setC 17 (.compIf 19 (.ix (.v 15) (.k (.int 7))) (.cmp .ne (.ix (.v 19) (.k (.int 1))) (.ix (.v 10) (.k (.int 2)))) (.v 19)))
    (.cons (.ite (.and (.v 6) (.cmp .ne (.v 16) (.lst .nil))) (.cons (.set 14 (.tup (.cons (.k (.str ⟨#[73, 115, 84, 104, 101, 114, 101]⟩)) (.cons (.k (.int 0)) .nil))))
    .nil) (.cons (.ite (.and (.not (.v 6)) (.or (.cmp .eq (.v 16) (.lst .nil)) (.cmp .ne (.ix (.ix (.v 16) (.k (.int 0))) (.k (.int 3))) (.k (.str ⟨#[104, 111, 108, 100]⟩))))) (.cons (.set 14 (.tup (.cons (.k (.str ⟨#[78, 111, 116, 84, 104, 101, 114, 101]⟩)) (.cons (.k (.int 0)) .nil))))
    .nil) (.cons (.set 18 (.bi .tuple (.cons (.bi .sorted (.cons (.bin .add (.v 17) (.ite (.v 6) (.lst (.cons (.tup (.cons (.ix (.v 10) (.k (.int 0))) (.cons (.ix (.v 10) (.k (.int 2))) (.cons (.ix (.v 10) (.k (.int 3))) (.cons (.ix (.v 10) (.k (.int 4))) .nil))))) .nil)) (.lst .nil))) .nil)) .nil)))
    (.cons (.set 5 (.call .l_sealed_list (.cons (.tup (.cons (.ix (.v 10) (.k (.int 0))) (.cons (.ix (.v 10) (.k (.int 1))) (.cons (.bin .add (.ix (.v 15) (.k (.int 2))) (.k (.int 1))) (.cons (.neg 1) (.cons (.ix (.v 10) (.k (.int 5))) (.cons (.ix (.v 10) (.k (.int 6))) (.cons (.tup (.cons (.k (.str ⟨#[97, 108, 108]⟩)) (.cons (.k (.bool false)) (.cons (.tup .nil) .nil)))) (.cons (.v 18) (.cons (.k (.int 0)) .nil)))))))))) .nil)))
    (.cons (.app (.v 3) (.v 5))
    (.cons (.set 14 (.tup (.cons (.k (.str ⟨#[116, 101, 120, 116]⟩)) (.cons (.call .l_list_text (.cons (.v 5) .nil)) .nil))))
    .nil)))))
    .nil))
    .nil)))) .nil)
    (.cons (.ite (.or (.not (.call .l_same (.cons (.call .l_call (.cons (.v 2) (.cons (.v 6) (.cons (.v 10) .nil)))) (.cons (.v 14) .nil)))) (.not (.call .l_same (.cons (.meth .d_store (.v 2) .nil) (.cons (.tup (.cons (.tup .nil) (.cons (.bi .tuple (.cons (.bi .sorted (.cons (.v 3) .nil)) .nil)) (.cons (.tup .nil) .nil)))) .nil))))) (.cons (.ret (.k (.bool false)))
    .nil) .nil)
    (.cons (.ite (.and (.cmp .eq (.ix (.v 14) (.k (.int 0))) (.k (.str ⟨#[116, 101, 120, 116]⟩))) (.cmp .eq (.call .l_roll (.cons (.v 1) (.cons (.k (.int 4)) .nil))) (.k (.int 0)))) (.cons (.ite (.cmp .ne (.meth .d_undo (.v 2) .nil) (.tup (.cons (.k (.str ⟨#[112, 117, 116]⟩)) (.cons (.ix (.v 14) (.k (.int 1))) .nil)))) (.cons (.ret (.k (.bool false)))
    .nil) .nil)
    (.cons (.rem (.v 3) (.v 5))
    .nil)) .nil)
    .nil))))))))))
    (.cons (.ret (.and (.call .l_same (.cons (.meth .d_store (.v 2) .nil) (.cons (.tup (.cons (.tup .nil) (.cons (.bi .tuple (.cons (.bi .sorted (.cons (.v 3) .nil)) .nil)) (.cons (.tup .nil) .nil)))) .nil))) (.cmp .eq (.bi .len (.cons (.meth .d_deeds (.v 2) .nil) .nil)) (.bi .len (.cons (.v 3) .nil)))))
    .nil))))), false⟩
def ir : Fn → Body
  | .is_whole => ir_is_whole
  | .is_truth => ir_is_truth
  | .is_tuple_of => ir_is_tuple_of
  | .fits_word => ir_fits_word
  | .fits_words => ir_fits_words
  | .is_ascending => ir_is_ascending
  | .fits_lot => ir_fits_lot
  | .fits_name => ir_fits_name
  | .need_name => ir_need_name
  | .seal_by => ir_seal_by
  | .number_row => ir_number_row
  | .value_row => ir_value_row
  | .need_key => ir_need_key
  | .fits_entry => ir_fits_entry
  | .fits_scope => ir_fits_scope
  | .fits_within => ir_fits_within
  | .fits_list => ir_fits_list
  | .need_list => ir_need_list
  | .can_reach => ir_can_reach
  | .list_text => ir_list_text
  | .number_text => ir_number_text
  | .truth_text => ir_truth_text
  | .name_text => ir_name_text
  | .list_of_text => ir_list_of_text
  | .thing_text => ir_thing_text
  | .truth_in => ir_truth_in
  | .numbers_in => ir_numbers_in
  | .list_in => ir_list_in
  | .with_thing => ir_with_thing
  | .without_thing => ir_without_thing
  | .stepped => ir_stepped
  | .can_step => ir_can_step
  | .own_seal => ir_own_seal
  | .need_text => ir_need_text
  | .read_in => ir_read_in
  | .read_by => ir_read_by
  | .read_list => ir_read_list
  | .need_times => ir_need_times
  | .read_thing => ir_read_thing
  | .newest_plain => ir_newest_plain
  | .r_init => ir_r_init
  | .r_sign => ir_r_sign
  | .r_goes_on => ir_r_goes_on
  | .r_marks => ir_r_marks
  | .r_ends => ir_r_ends
  | .r_one_of => ir_r_one_of
  | .r_word => ir_r_word
  | .r_number => ir_r_number
  | .r_number_or_none => ir_r_number_or_none
  | .r_words => ir_r_words
  | .r_entry => ir_r_entry
  | .r_item => ir_r_item
  | .r_several => ir_r_several
  | .d_init => ir_d_init
  | .d_store => ir_d_store
  | .d_deeds => ir_d_deeds
  | .d_does => ir_d_does
  | .d_put => ir_d_put
  | .d_puts_list => ir_d_puts_list
  | .d_withdraw => ir_d_withdraw
  | .d_give_back => ir_d_give_back
  | .d_undo => ir_d_undo
  | .l_cup => ir_l_cup
  | .l_roll => ir_l_roll
  | .l_some => ir_l_some
  | .l_groups => ir_l_groups
  | .l_row => ir_l_row
  | .l_seal => ir_l_seal
  | .l_sealed_list => ir_l_sealed_list
  | .l_words => ir_l_words
  | .l_several => ir_l_several
  | .l_integer => ir_l_integer
  | .l_list_text => ir_l_list_text
  | .l_same => ir_l_same
  | .l_call => ir_l_call
  | .l_is_number => ir_l_is_number
  | .l_flaw => ir_l_flaw
  | .l_newest => ir_l_newest
  | .l_listed => ir_l_listed
  | .law => ir_law
/-- a call, so many calls deep -/
def call : Nat → Env
  | 0 => fun _ _ _ => .no
  | k + 1 => fun f vs M => runB (call k) (ir f) vs M
end K75


set_option autoImplicit false
namespace K75
open PySem PySem.Spec PyProof.Rows L2
def Cl.nm : Cl → Str
  | .reading => "Reading"
  | .desk => "Desk"
def Fd.nm : Fd → Str
  | .text => "text"
  | .place => "place"
  | .lots => "lots"
  | .done => "done"
  | .undone => "undone"
def Xc.nm : Xc → Str
  | .name => "InvalidName"
  | .number => "InvalidNumber"
  | .word => "InvalidWord"
  | .isThere => "IsThere"
  | .notThere => "NotThere"

def Fn.nm : Fn → Str
  | .is_whole => ⟨#[105, 115, 95, 119, 104, 111, 108, 101]⟩
  | .is_truth => ⟨#[105, 115, 95, 116, 114, 117, 116, 104]⟩
  | .is_tuple_of => ⟨#[105, 115, 95, 116, 117, 112, 108, 101, 95, 111, 102]⟩
  | .fits_word => ⟨#[102, 105, 116, 115, 95, 119, 111, 114, 100]⟩
  | .fits_words => ⟨#[102, 105, 116, 115, 95, 119, 111, 114, 100, 115]⟩
  | .is_ascending => ⟨#[105, 115, 95, 97, 115, 99, 101, 110, 100, 105, 110, 103]⟩
  | .fits_lot => ⟨#[102, 105, 116, 115, 95, 108, 111, 116]⟩
  | .fits_name => ⟨#[102, 105, 116, 115, 95, 110, 97, 109, 101]⟩
  | .need_name => ⟨#[110, 101, 101, 100, 95, 110, 97, 109, 101]⟩
  | .seal_by => ⟨#[115, 101, 97, 108, 95, 98, 121]⟩
  | .number_row => ⟨#[110, 117, 109, 98, 101, 114, 95, 114, 111, 119]⟩
  | .value_row => ⟨#[118, 97, 108, 117, 101, 95, 114, 111, 119]⟩
  | .need_key => ⟨#[110, 101, 101, 100, 95, 107, 101, 121]⟩
  | .fits_entry => ⟨#[102, 105, 116, 115, 95, 101, 110, 116, 114, 121]⟩
  | .fits_scope => ⟨#[102, 105, 116, 115, 95, 115, 99, 111, 112, 101]⟩
  | .fits_within => ⟨#[102, 105, 116, 115, 95, 119, 105, 116, 104, 105, 110]⟩
  | .fits_list => ⟨#[102, 105, 116, 115, 95, 108, 105, 115, 116]⟩
  | .need_list => ⟨#[110, 101, 101, 100, 95, 108, 105, 115, 116]⟩
  | .can_reach => ⟨#[99, 97, 110, 95, 114, 101, 97, 99, 104]⟩
  | .list_text => ⟨#[108, 105, 115, 116, 95, 116, 101, 120, 116]⟩
  | .number_text => ⟨#[110, 117, 109, 98, 101, 114, 95, 116, 101, 120, 116]⟩
  | .truth_text => ⟨#[116, 114, 117, 116, 104, 95, 116, 101, 120, 116]⟩
  | .name_text => ⟨#[110, 97, 109, 101, 95, 116, 101, 120, 116]⟩
  | .list_of_text => ⟨#[108, 105, 115, 116, 95, 111, 102, 95, 116, 101, 120, 116]⟩
  | .thing_text => ⟨#[116, 104, 105, 110, 103, 95, 116, 101, 120, 116]⟩
  | .truth_in => ⟨#[116, 114, 117, 116, 104, 95, 105, 110]⟩
  | .numbers_in => ⟨#[110, 117, 109, 98, 101, 114, 115, 95, 105, 110]⟩
  | .list_in => ⟨#[108, 105, 115, 116, 95, 105, 110]⟩
  | .with_thing => ⟨#[119, 105, 116, 104, 95, 116, 104, 105, 110, 103]⟩
  | .without_thing => ⟨#[119, 105, 116, 104, 111, 117, 116, 95, 116, 104, 105, 110, 103]⟩
  | .stepped => ⟨#[115, 116, 101, 112, 112, 101, 100]⟩
  | .can_step => ⟨#[99, 97, 110, 95, 115, 116, 101, 112]⟩
  | .own_seal => ⟨#[111, 119, 110, 95, 115, 101, 97, 108]⟩
  | .need_text => ⟨#[110, 101, 101, 100, 95, 116, 101, 120, 116]⟩
  | .read_in => ⟨#[114, 101, 97, 100, 95, 105, 110]⟩
  | .read_by => ⟨#[114, 101, 97, 100, 95, 98, 121]⟩
  | .read_list => ⟨#[114, 101, 97, 100, 95, 108, 105, 115, 116]⟩
  | .need_times => ⟨#[110, 101, 101, 100, 95, 116, 105, 109, 101, 115]⟩
  | .read_thing => ⟨#[114, 101, 97, 100, 95, 116, 104, 105, 110, 103]⟩
  | .newest_plain => ⟨#[110, 101, 119, 101, 115, 116, 95, 112, 108, 97, 105, 110]⟩
  | .r_init => ⟨#[95, 95, 105, 110, 105, 116, 95, 95]⟩
  | .r_sign => ⟨#[115, 105, 103, 110]⟩
  | .r_goes_on => ⟨#[103, 111, 101, 115, 95, 111, 110]⟩
  | .r_marks => ⟨#[109, 97, 114, 107, 115]⟩
  | .r_ends => ⟨#[101, 110, 100, 115]⟩
  | .r_one_of => ⟨#[111, 110, 101, 95, 111, 102]⟩
  | .r_word => ⟨#[119, 111, 114, 100]⟩
  | .r_number => ⟨#[110, 117, 109, 98, 101, 114]⟩
  | .r_number_or_none => ⟨#[110, 117, 109, 98, 101, 114, 95, 111, 114, 95, 110, 111, 110, 101]⟩
  | .r_words => ⟨#[119, 111, 114, 100, 115]⟩
  | .r_entry => ⟨#[101, 110, 116, 114, 121]⟩
  | .r_item => ⟨#[105, 116, 101, 109]⟩
  | .r_several => ⟨#[115, 101, 118, 101, 114, 97, 108]⟩
  | .d_init => ⟨#[95, 95, 105, 110, 105, 116, 95, 95]⟩
  | .d_store => ⟨#[115, 116, 111, 114, 101]⟩
  | .d_deeds => ⟨#[100, 101, 101, 100, 115]⟩
  | .d_does => ⟨#[100, 111, 101, 115]⟩
  | .d_put => ⟨#[112, 117, 116]⟩
  | .d_puts_list => ⟨#[112, 117, 116, 115, 95, 108, 105, 115, 116]⟩
  | .d_withdraw => ⟨#[119, 105, 116, 104, 100, 114, 97, 119]⟩
  | .d_give_back => ⟨#[103, 105, 118, 101, 95, 98, 97, 99, 107]⟩
  | .d_undo => ⟨#[117, 110, 100, 111]⟩
  | .l_cup => ⟨#[95, 108, 97, 119, 95, 99, 117, 112]⟩
  | .l_roll => ⟨#[95, 108, 97, 119, 95, 114, 111, 108, 108]⟩
  | .l_some => ⟨#[95, 108, 97, 119, 95, 115, 111, 109, 101]⟩
  | .l_groups => ⟨#[95, 108, 97, 119, 95, 103, 114, 111, 117, 112, 115]⟩
  | .l_row => ⟨#[95, 108, 97, 119, 95, 114, 111, 119]⟩
  | .l_seal => ⟨#[95, 108, 97, 119, 95, 115, 101, 97, 108]⟩
  | .l_sealed_list => ⟨#[95, 108, 97, 119, 95, 115, 101, 97, 108, 101, 100, 95, 108, 105, 115, 116]⟩
  | .l_words => ⟨#[95, 108, 97, 119, 95, 119, 111, 114, 100, 115]⟩
  | .l_several => ⟨#[95, 108, 97, 119, 95, 115, 101, 118, 101, 114, 97, 108]⟩
  | .l_integer => ⟨#[95, 108, 97, 119, 95, 105, 110, 116, 101, 103, 101, 114]⟩
  | .l_list_text => ⟨#[95, 108, 97, 119, 95, 108, 105, 115, 116, 95, 116, 101, 120, 116]⟩
  | .l_same => ⟨#[95, 108, 97, 119, 95, 115, 97, 109, 101]⟩
  | .l_call => ⟨#[95, 108, 97, 119, 95, 99, 97, 108, 108]⟩
  | .l_is_number => ⟨#[95, 108, 97, 119, 95, 105, 115, 95, 110, 117, 109, 98, 101, 114]⟩
  | .l_flaw => ⟨#[95, 108, 97, 119, 95, 102, 108, 97, 119]⟩
  | .l_newest => ⟨#[95, 108, 97, 119, 95, 110, 101, 119, 101, 115, 116]⟩
  | .l_listed => ⟨#[95, 108, 97, 119, 95, 108, 105, 115, 116, 101, 100]⟩
  | .law => ⟨#[108, 97, 119]⟩
def gdat : List (Str × PyData) := [
  (⟨#[65, 83, 75, 69, 68]⟩, (.tuple [(.str ⟨#[99, 97, 108, 108]⟩), (.str ⟨#[115, 101, 114, 118, 101]⟩), (.str ⟨#[115, 105, 103, 110]⟩), (.str ⟨#[115, 116, 97, 109, 112]⟩)])),
  (⟨#[66, 65, 67, 75]⟩, (.str ⟨#[98, 97, 99, 107]⟩)),
  (⟨#[68, 69, 69, 68, 83]⟩, (.int 200)),
  (⟨#[68, 69, 69, 80]⟩, (.int 4)),
  (⟨#[68, 73, 71, 73, 84, 83]⟩, (.str ⟨#[48, 49, 50, 51, 52, 53, 54, 55, 56, 57]⟩)),
  (⟨#[69, 78, 68]⟩, (.str ⟨#[126]⟩)),
  (⟨#[69, 78, 84, 82, 73, 69, 83]⟩, (.int 30)),
  (⟨#[69, 78, 84, 82, 89]⟩, (.str ⟨#[101, 110, 116, 114, 121]⟩)),
  (⟨#[72, 79, 76, 68]⟩, (.str ⟨#[104, 111, 108, 100]⟩)),
  (⟨#[75, 69, 89, 83]⟩, (.int 4294967295)),
  (⟨#[76, 65, 83, 84]⟩, (.int 8)),
  (⟨#[76, 73, 83, 84, 95, 83, 69, 65, 76, 69, 82]⟩, (.int 1)),
  (⟨#[76, 79, 78, 71, 69, 83, 84]⟩, (.int 12)),
  (⟨#[77, 79, 83, 84]⟩, (.tuple [(.int 30), (.int 12), (.int 6)])),
  (⟨#[78, 85, 77, 66, 69, 82, 83]⟩, (.int 1000000)),
  (⟨#[80, 76, 65, 73, 78, 95, 100, 101, 115, 107]⟩, (.tuple [(.str ⟨#[97, 108, 108]⟩), (.bool false), (.tuple [])])),
  (⟨#[80, 82, 73, 77, 69]⟩, (.int 4294967291)),
  (⟨#[80, 85, 82, 80, 79, 83, 69, 83]⟩, (.tuple [(.str ⟨#[97, 110, 121]⟩), (.str ⟨#[99, 97, 108, 108]⟩), (.str ⟨#[115, 101, 114, 118, 101]⟩), (.str ⟨#[115, 105, 103, 110]⟩), (.str ⟨#[115, 116, 97, 109, 112]⟩)])),
  (⟨#[82, 69, 65, 83, 79, 78, 83]⟩, (.tuple [(.str ⟨#[99, 101, 97, 115, 101, 100]⟩), (.str ⟨#[99, 104, 97, 110, 103, 101, 100]⟩), (.str ⟨#[104, 101, 97, 100]⟩), (.str ⟨#[104, 111, 108, 100]⟩), (.str ⟨#[107, 101, 121]⟩), (.str ⟨#[114, 101, 112, 108, 97, 99, 101, 100]⟩), (.str ⟨#[114, 105, 103, 104, 116, 115]⟩)])),
  (⟨#[83, 67, 79, 80, 69, 83]⟩, (.tuple [(.str ⟨#[97, 108, 108]⟩), (.str ⟨#[104, 101, 97, 100, 115]⟩), (.str ⟨#[117, 115, 101, 114, 115]⟩)])),
  (⟨#[83, 69, 82, 73, 65, 76, 83]⟩, (.int 1000000)),
  (⟨#[83, 73, 71, 78, 83, 95, 116, 101, 120, 116, 115]⟩, (.int 20000)),
  (⟨#[83, 73, 71, 78, 83, 95, 118, 97, 108, 117, 101, 115]⟩, (.str ⟨#[97, 98, 99, 100, 101, 102, 103, 104, 105, 106, 107, 108, 109, 110, 111, 112, 113, 114, 115, 116, 117, 118, 119, 120, 121, 122, 48, 49, 50, 51, 52, 53, 54, 55, 56, 57]⟩)),
  (⟨#[83, 79, 82, 84, 83]⟩, (.tuple [(.str ⟨#[99, 101, 114, 116, 105, 102, 105, 99, 97, 116, 101]⟩), (.str ⟨#[108, 105, 115, 116]⟩), (.str ⟨#[97, 110, 99, 104, 111, 114]⟩)])),
  (⟨#[84, 72, 73, 78, 71, 83]⟩, (.tuple [(.str ⟨#[97, 110, 99, 104, 111, 114]⟩), (.str ⟨#[99, 101, 114, 116, 105, 102, 105, 99, 97, 116, 101]⟩), (.str ⟨#[108, 105, 115, 116]⟩)])),
  (⟨#[84, 73, 77, 69, 83]⟩, (.int 1000000000)),
  (⟨#[84, 82, 85, 84, 72, 83]⟩, (.tuple [(.str ⟨#[110, 111]⟩), (.str ⟨#[121, 101, 115]⟩)])),
  (⟨#[84, 85, 82, 78]⟩, (.int 257)),
  (⟨#[85, 83, 69, 83]⟩, (.tuple [(.str ⟨#[97, 103, 114, 101, 101]⟩), (.str ⟨#[99, 101, 114, 116, 115]⟩), (.str ⟨#[108, 105, 115, 116, 115]⟩), (.str ⟨#[115, 105, 103, 110]⟩)]))]
/-! ### names -/

def bnames : List Str := ["len", "all", "any", "tuple", "list", "sorted", "int", "str", "repr", "ord", "abs", "max", "isinstance", "bool", "zip", "range"]

def Fn.pl : Fn → Nat × Option Nat
  | .is_whole => (13, none)
  | .is_truth => (14, none)
  | .is_tuple_of => (15, none)
  | .fits_word => (16, none)
  | .fits_words => (17, none)
  | .is_ascending => (18, none)
  | .fits_lot => (19, none)
  | .fits_name => (24, none)
  | .need_name => (29, none)
  | .seal_by => (34, none)
  | .number_row => (35, none)
  | .value_row => (36, none)
  | .need_key => (37, none)
  | .fits_entry => (69, none)
  | .fits_scope => (70, none)
  | .fits_within => (71, none)
  | .fits_list => (72, none)
  | .need_list => (74, none)
  | .can_reach => (87, none)
  | .list_text => (90, none)
  | .number_text => (91, none)
  | .truth_text => (92, none)
  | .name_text => (93, none)
  | .list_of_text => (98, none)
  | .thing_text => (100, none)
  | .truth_in => (106, none)
  | .numbers_in => (110, none)
  | .list_in => (112, none)
  | .with_thing => (120, none)
  | .without_thing => (121, none)
  | .stepped => (122, none)
  | .can_step => (123, none)
  | .own_seal => (127, none)
  | .need_text => (130, none)
  | .read_in => (131, none)
  | .read_by => (132, none)
  | .read_list => (134, none)
  | .need_times => (140, none)
  | .read_thing => (141, none)
  | .newest_plain => (142, none)
  | .r_init => (88, some 0)
  | .r_sign => (88, some 1)
  | .r_goes_on => (88, some 2)
  | .r_marks => (88, some 3)
  | .r_ends => (88, some 4)
  | .r_one_of => (88, some 5)
  | .r_word => (88, some 6)
  | .r_number => (88, some 7)
  | .r_number_or_none => (88, some 8)
  | .r_words => (88, some 9)
  | .r_entry => (88, some 14)
  | .r_item => (88, some 15)
  | .r_several => (88, some 16)
  | .d_init => (143, some 0)
  | .d_store => (143, some 1)
  | .d_deeds => (143, some 2)
  | .d_does => (143, some 3)
  | .d_put => (143, some 4)
  | .d_puts_list => (143, some 6)
  | .d_withdraw => (143, some 7)
  | .d_give_back => (143, some 8)
  | .d_undo => (143, some 9)
  | .l_cup => (145, none)
  | .l_roll => (146, none)
  | .l_some => (147, none)
  | .l_groups => (148, none)
  | .l_row => (149, none)
  | .l_seal => (150, none)
  | .l_sealed_list => (151, none)
  | .l_words => (152, none)
  | .l_several => (153, none)
  | .l_integer => (154, none)
  | .l_list_text => (155, none)
  | .l_same => (156, none)
  | .l_call => (157, none)
  | .l_is_number => (158, none)
  | .l_flaw => (159, none)
  | .l_newest => (160, none)
  | .l_listed => (161, none)
  | .law => (162, none)
def allFn : List Fn := [.is_whole, .is_truth, .is_tuple_of, .fits_word, .fits_words, .is_ascending, .fits_lot, .fits_name, .need_name, .seal_by, .number_row, .value_row, .need_key, .fits_entry, .fits_scope, .fits_within, .fits_list, .need_list, .can_reach, .list_text, .number_text, .truth_text, .name_text, .list_of_text, .thing_text, .truth_in, .numbers_in, .list_in, .with_thing, .without_thing, .stepped, .can_step, .own_seal, .need_text, .read_in, .read_by, .read_list, .need_times, .read_thing, .newest_plain, .r_init, .r_sign, .r_goes_on, .r_marks, .r_ends, .r_one_of, .r_word, .r_number, .r_number_or_none, .r_words, .r_entry, .r_item, .r_several, .d_init, .d_store, .d_deeds, .d_does, .d_put, .d_puts_list, .d_withdraw, .d_give_back, .d_undo, .l_cup, .l_roll, .l_some, .l_groups, .l_row, .l_seal, .l_sealed_list, .l_words, .l_several, .l_integer, .l_list_text, .l_same, .l_call, .l_is_number, .l_flaw, .l_newest, .l_listed, .law]
abbrev R0 : PySem.W.OpenRow := PySem.W.OpenLaw.row PySem.Challenge.rw_chainpapers_k75_whole_withdrawals
/-- the statement at a place of the text -/
def stAt (l : List Stmt) : Nat × Option Nat → Option Stmt
  | (i, none) => l[i]?
  | (i, some j) => match l[i]? with
    | some (.ClassDef _ _ _ b _ _ _ _ _ _ _) => b[j]?
    | _ => none
def Fn.at (f : Fn) : Str × Option Str := match f.cls with
  | none => (f.nm, none)
  | some c => (c.nm, some f.nm)
def Fn.qual (f : Fn) : Str := match f.cls with
  | none => f.nm
  | some c => c.nm ++ (⟨#[46]⟩ : Str) ++ f.nm
def Fn.dd (f : Fn) : He.DefD := match stAt R0.prog.main.body f.pl with
  | some (.FunctionDef n a b _ _ _ sc _ _ _) => ⟨f.at, n, f.qual, a, b, sc, [], []⟩
  | _ => ⟨f.at, f.nm, f.qual, ⟨[], [], none, [], [], none, []⟩, [], ⟨.function, [], false, false, []⟩, [], []⟩

mutual
def datB (K : PySem.W.Frag) : Value → PyData → Bool
  | .none, .none => true
  | .bool b, .bool c => b == c
  | .int i _, .int j => decide (i = j)
  | .str x _, .str y => decide (x = y)
  | .ref a, .tuple ds => match K.lookup a with
    | some ⟨.type c, none, .seq its _, _⟩ => decide (c = "tuple") && decide (its.size ≤ sizeLine) && datsB K its.toList ds
    | _ => false
  | _, _ => false
def datsB (K : PySem.W.Frag) : List Value → List PyData → Bool
  | [], [] => true
  | u :: us, d :: ds => datB K u d && datsB K us ds
  | _, _ => false
end

def glDat (K : PySem.W.Frag) (p : Str × PyData) : Bool := match PySem.W.nsIn K mainGlobals p.1 with
  | some (some u) => datB K u p.2
  | _ => false

def Fd.all : List Fd := [.text, .place, .lots, .done, .undone]
def Xc.all : List Xc := [.name, .number, .word, .isThere, .notThere]
def Cl.all : List Cl := [.reading, .desk]

def okF (K : PySem.W.Frag) (f : Fn) : Bool := match f.cls with
  | none => (He.Fa.glo f.nm).ok K && (He.Fa.keep f.nm).ok K
  | some c => decide (f = c.init) || (He.Fa.meth c.nm f.nm).ok K
def okC (K : PySem.W.Frag) (c : Cl) : Bool := (He.Fa.glo c.nm).ok K && ((He.Fa.cls c.nm).ok K && ((He.Fa.mkr c.nm).ok K && Fd.all.all fun f => (He.Fa.noat c.nm f.nm).ok K))
def okX (K : PySem.W.Frag) (x : Xc) : Bool := (He.Fa.glo x.nm).ok K && ((He.Fa.exc x.nm).ok K && Xc.all.all fun y => (He.Fa.exm x.nm y.nm (decide (y = x))).ok K)
def okAll (K : PySem.W.Frag) : Bool := allFn.all (fun f => okF K f) && (Cl.all.all (fun c => okC K c) && (Xc.all.all (fun x => okX K x) && (gdat.all (fun p => glDat K p) && (bnames.all (fun x => (He.Fa.free x).ok K) && allFn.all fun f => f.dd.ok K))))

def Saw : Type := Bool × List He.FnW
def seeK (K : PySem.W.Frag) : Saw := (okAll K, allFn.map fun f => He.fnW K f.dd.at_)
def sawAll : Saw := (true, allFn.map fun f => f.dd.val)
def tiesOf (o : Obj) : List Addr := match o.data with
  | .seq its _ => its.toList.flatMap He.refV
  | .dict es _ => es.toList.flatMap fun e => He.refV e.val
  | .func fd => He.refV fd.code
  | .cls cd => cd.ns :: cd.mro.flatMap He.refV
  | _ => []
def further (g : Addr → Option Obj) (as : List Addr) : List Addr := as.flatMap fun a => match g a with
  | some o => tiesOf o
  | none => []
def reach (g : Addr → Option Obj) : Nat → List Addr → List Addr
  | 0, as => as
  | n + 1, as => as ++ reach g n (further g as)
def kOf (g : Addr → Option Obj) : PySem.W.Frag := He.frG g (reach g 4 [mainGlobals])
def myHook : PySem.W.Hook where
  α := Saw
  obs := fun s => seeK (kOf s.heap.get?)
  val := fun _ => sawAll
  says := fun _ h => ∃ K : PySem.W.Frag, K.In h ∧ seeK K = sawAll
  of := fun _ _ e => ⟨_, He.frG_in, e⟩
  keeps := fun _ _ _ ⟨K, hK, c⟩ k => ⟨K, PySem.W.Frag.In.keeps hK k, c⟩
set_option maxRecDepth 100000
set_option maxHeartbeats 0
/-- the law's own look, once -/
theorem law_of (h : PySem.W.OpenRow.wellSaid R0 = true → PySem.W.OpenRow.Holds R0) : PySem.Challenge.rw_chainpapers_k75_whole_withdrawals.Holds := by
  w_on; o_law
  exact h (by assumption)

end K75

set_option Elab.async false
set_option linter.all false
set_option maxRecDepth 100000
set_option maxHeartbeats 0
/-! Part 31: the top, run. -/
noncomputable section
namespace K75
open PySem PySem.Spec PyProof.Rows L2
def nm0 : List Str := ["_wall", "ChainError", "InvalidWord", "InvalidName", "InvalidNumber", "InvalidCertificate", "InvalidList", "InvalidAnchor", "TooMany", "SIGNS_values", "LONGEST", "is_whole", "is_truth", "is_tuple_of", "fits_word", "fits_words", "is_ascending", "fits_lot", "DEEP", "GREATEST", "MANY_names", "fits_name", "fits_other", "fits_subtree", "fits_others", "fits_subtrees", "need_name", "KEYS", "PRIME", "TURN"]
def nm1 : List Str := ["seal_by", "number_row", "value_row", "need_key", "SERIALS", "TIMES", "DEPTH", "MANY_certificates", "ANY", "USES", "PURPOSES", "PLAIN_certificates", "PARTS", "HOUSES", "fits_policies", "fits_mapping", "fits_limits", "fits_value", "fits_parts", "fits_certificate", "need_certificate", "CERTIFICATES", "LISTS", "ANCHORS", "ENTRIES", "NUMBERS", "REASONS", "SCOPES", "STATES", "ASKED"]
def nm2 : List Str := ["SEALERS", "GRACE", "BACK", "fits_entry", "fits_scope", "fits_within", "fits_list", "fits_anchor", "need_list", "need_anchor", "InvalidText", "BadText", "NotThere", "IsThere", "NothingToUndo", "DIGITS", "END", "NAMED", "BRANCHED", "can_reach", "Reading", "list_text", "number_text", "truth_text", "name_text", "branch_text", "branches_text", "part_text", "certificate_text", "list_of_text"]
def nm3 : List Str := ["anchor_text", "thing_text", "TRUTHS", "THINGS", "ITEMS", "ENTRY", "truth_in", "two_in", "part_in_text", "parts_in_text", "numbers_in", "certificate_in", "list_in", "anchor_in", "question_in", "thing_in", "store_in", "SORTS", "MOST", "with_thing", "without_thing", "stepped", "can_step", "LAST", "LIST_SEALER", "own_seal", "SIGNS_texts", "need_text", "read_in", "read_by"]
def nm4 : List Str := ["read_certificate", "read_list", "read_anchor", "DEEDS", "PLAIN_desk", "HOLD", "need_times", "read_thing", "newest_plain", "Desk", "_law_cup", "_law_roll", "_law_some", "_law_groups", "_law_row", "_law_seal", "_law_sealed_list", "_law_words", "_law_several", "_law_integer", "_law_list_text", "_law_same", "_law_call", "_law_is_number", "_law_flaw", "_law_newest", "_law_listed"]
def names : List Str := nm0 ++ (nm1 ++ (nm2 ++ (nm3 ++ (nm4))))
abbrev V0 : Program := PySem.W.view R0.prog [162]
/-- the top's end -/
def endOf (w : World) (os : OsState) : Option PySem.W.SharedT := HandSHeadRun.endF (HandSHeadRun.stepQ (HandSHeadRun.denQ HandSHeadRun.tabQ) R0.prog w) 9000 R0.prog w os
def seeT (s : PySem.W.SharedT) : Saw := seeK (kOf (HandSHeadRun.getT s))
theorem seeT_eq (s : PySem.W.SharedT) : seeT s = myHook.obs s.abs := by
  have e : HandSHeadRun.getT s = s.abs.heap.get? := funext (HandSHeadRun.getT_eq s)
  unfold seeT
  rw [e]
  rfl
def lookA (w : World) (s : PySem.W.SharedT) : Bool := HandSHeadRun.looksF R0.prog (PySem.W.boot_heap w.params) s.abs
def lookB (s : PySem.W.SharedT) := HandSHeadRun.seenQ V0 names (importedModules R0.prog.main.body) (fun s => PySem.W.xlAt V0 [] s && PySem.W.recOk R0.toRowW.records s) s.abs
abbrev wF (w : World) (b : Bool) : World := w.withFollow "special-get-raises" b
def seeC1 (s : PySem.W.SharedT) : Bool := allFn.all (fun f => okF (kOf (HandSHeadRun.getT s)) f) && (Cl.all.all (fun c => okC (kOf (HandSHeadRun.getT s)) c) && (Xc.all.all (fun x => okX (kOf (HandSHeadRun.getT s)) x) && (gdat.all (fun p => glDat (kOf (HandSHeadRun.getT s)) p) && bnames.all (fun x => (He.Fa.free x).ok (kOf (HandSHeadRun.getT s))))))
def seeC3 (s : PySem.W.SharedT) : Bool := (allFn.take 40).all fun f => f.dd.ok (kOf (HandSHeadRun.getT s))
def seeC4 (s : PySem.W.SharedT) : Bool := (allFn.drop 40).all fun f => f.dd.ok (kOf (HandSHeadRun.getT s))
def seeC5 (s : PySem.W.SharedT) : List He.FnW := allFn.map fun f => He.fnW (kOf (HandSHeadRun.getT s)) f.dd.at_
theorem saw_parts {x : Option PySem.W.SharedT} (h1 : x.map seeC1 = some true) (h3 : x.map seeC3 = some true) (h4 : x.map seeC4 = some true) (h5 : x.map seeC5 = some (allFn.map fun f => f.dd.val)) : x.map seeT = some sawAll := by
  cases x with
  | none => cases h1
  | some s =>
    have e1 : seeC1 s = true := Option.some.inj h1
    have e3 : seeC3 s = true := Option.some.inj h3
    have e4 : seeC4 s = true := Option.some.inj h4
    have e5 : seeC5 s = allFn.map fun f => f.dd.val := Option.some.inj h5
    show some (seeT s) = some sawAll
    unfold seeC1 at e1
    unfold seeC3 at e3
    unfold seeC4 at e4
    unfold seeC5 at e5
    unfold seeT seeK sawAll
    rw [e5]
    rw [Bool.and_eq_true, Bool.and_eq_true, Bool.and_eq_true, Bool.and_eq_true] at e1
    have e6 : (allFn.all fun f => f.dd.ok (kOf (HandSHeadRun.getT s))) = true := by
      rw [← List.take_append_drop 40 allFn, List.all_append, e3, e4]
      rfl
    have e7 : okAll (kOf (HandSHeadRun.getT s)) = true := by
      unfold okAll
      rw [e1.1, e1.2.1, e1.2.2.1, e1.2.2.2.1, e1.2.2.2.2, e6]
      rfl
    rw [e7]
theorem runA_false (w : World) (os : OsState) : (endOf (wF w false) os).map (lookA (wF w false)) = some true := by
  kernel_rfl
theorem runB_false (w : World) (os : OsState) : (endOf (wF w false) os).map lookB = some (PySem.W.openGood V0 names) := by
  kernel_rfl
theorem runC1_false (w : World) (os : OsState) : (endOf (wF w false) os).map seeC1 = some true := by
  kernel_rfl
theorem runC3_false (w : World) (os : OsState) : (endOf (wF w false) os).map seeC3 = some true := by
  kernel_rfl
theorem runC4_false (w : World) (os : OsState) : (endOf (wF w false) os).map seeC4 = some true := by
  kernel_rfl
theorem runC5_false (w : World) (os : OsState) : (endOf (wF w false) os).map seeC5 = some (allFn.map fun f => f.dd.val) := by
  kernel_rfl
theorem runC_false (w : World) (os : OsState) : (endOf (wF w false) os).map seeT = some sawAll := saw_parts (runC1_false w os) (runC3_false w os) (runC4_false w os) (runC5_false w os)
theorem runA_true (w : World) (os : OsState) : (endOf (wF w true) os).map (lookA (wF w true)) = some true := by
  kernel_rfl
theorem runB_true (w : World) (os : OsState) : (endOf (wF w true) os).map lookB = some (PySem.W.openGood V0 names) := by
  kernel_rfl
theorem runC1_true (w : World) (os : OsState) : (endOf (wF w true) os).map seeC1 = some true := by
  kernel_rfl
theorem runC3_true (w : World) (os : OsState) : (endOf (wF w true) os).map seeC3 = some true := by
  kernel_rfl
theorem runC4_true (w : World) (os : OsState) : (endOf (wF w true) os).map seeC4 = some true := by
  kernel_rfl
theorem runC5_true (w : World) (os : OsState) : (endOf (wF w true) os).map seeC5 = some (allFn.map fun f => f.dd.val) := by
  kernel_rfl
theorem runC_true (w : World) (os : OsState) : (endOf (wF w true) os).map seeT = some sawAll := saw_parts (runC1_true w os) (runC3_true w os) (runC4_true w os) (runC5_true w os)
theorem map3 {α β γ δ : Type} {x : Option α} {f : α → β} {g : α → γ} {h : α → δ} {a : β} {b : γ} {c : δ} (e1 : x.map f = some a) (e2 : x.map g = some b) (e3 : x.map h = some c) : x.map (fun s => (f s, g s, h s)) = some (a, b, c) := by
  cases x with
  | none => cases e1
  | some s =>
    cases e1
    cases e2
    cases e3
    rfl
theorem run_false (w : World) : HandSHeadRun.RunEq R0 V0 myHook seeT 9000 names (wF w false) := fun os => map3 (runA_false w os) (runB_false w os) (runC_false w os)
theorem run_true (w : World) : HandSHeadRun.RunEq R0 V0 myHook seeT 9000 names (wF w true) := fun os => map3 (runA_true w os) (runB_true w os) (runC_true w os)
theorem run_top (w : World) : HandSHeadRun.RunEq R0 V0 myHook seeT 9000 names w :=
  PySem.W.byRow2 "special-get-raises" (P := fun w => HandSHeadRun.RunEq R0 V0 myHook seeT 9000 names w) run_false run_true w
end K75
end

set_option Elab.async false
set_option linter.all false
set_option autoImplicit false
set_option maxRecDepth 100000
/-! Part 3: how the store and the data lie in the heap. -/
namespace K75
open PySem PySem.Spec PyProof.Rows L2

variable {K : PySem.W.Frag}

/-! ### data that stay -/
theorem same_sqT {H H' : Hp} {a : Addr} {xs : List V} (e : Same H H') (h : SqT K H a xs) : SqT K H' a xs := by
  rcases h with (h | ⟨o, h⟩) | h
  · exact .inl (.inl (e _ _ h))
  · exact .inl (.inr ⟨o, e _ _ h⟩)
  · exact .inr h
mutual
theorem dpSame {H H' : Hp} (e : Same H H') : ∀ {v : V} {d : PyData}, Dp K H v d → Dp K H' v d
  | _, _, .non => .non
  | _, _, .bl b => .bl b
  | _, _, .int i => .int i
  | _, _, .str x => .str x
  | _, _, .lst s a => .lst (e.seq s) (dpsSame e a)
  | _, _, .tup s a => .tup (same_sqT e s) (dpsSame e a)
theorem dpsSame {H H' : Hp} (e : Same H H') : ∀ {vs : List V} {ds : List PyData}, DpAll K H vs ds → DpAll K H' vs ds
  | _, _, .nil => .nil
  | _, _, .cons a r => .cons (dpSame e a) (dpsSame e r)
end
end K75
namespace L2
open PySem PySem.Spec PyProof.Rows
variable {K : PySem.W.Frag}
theorem DpAll.len {H : Hp} : ∀ {vs : List V} {ds : List PyData}, DpAll K H vs ds → vs.length = ds.length
  | _, _, .nil => rfl
  | _, _, .cons _ r => by rw [List.length_cons, List.length_cons, DpAll.len r]
theorem DpAll.at' {H : Hp} : ∀ {vs : List V} {ds : List PyData} {i : Nat} {d : PyData}, DpAll K H vs ds → ds[i]? = some d → ∃ v, vs[i]? = some v ∧ Dp K H v d
  | _, _, _, _, .nil, e => by simp at e
  | _, _, 0, _, .cons a _, e => by simp at e; subst e; exact ⟨_, rfl, a⟩
  | _, _, i + 1, _, .cons _ r, e => by
    obtain ⟨v, h1, h2⟩ := DpAll.at' (i := i) r (by simpa using e)
    exact ⟨v, by simpa using h1, h2⟩
theorem DpAll.of_v {H : Hp} : ∀ {vs : List V} {ds : List PyData} {i : Nat} {v : V}, DpAll K H vs ds → vs[i]? = some v → ∃ d, ds[i]? = some d ∧ Dp K H v d
  | _, _, _, _, .nil, e => by simp at e
  | _, _, 0, _, .cons a _, e => by simp at e; subst e; exact ⟨_, rfl, a⟩
  | _, _, i + 1, _, .cons _ r, e => by
    obtain ⟨v, h1, h2⟩ := DpAll.of_v (i := i) r (by simpa using e)
    exact ⟨v, by simpa using h1, h2⟩
theorem DpAll.app {H : Hp} : ∀ {vs us : List V} {ds es : List PyData}, DpAll K H vs ds → DpAll K H us es → DpAll K H (vs ++ us) (ds ++ es)
  | _, _, _, _, .nil, h => h
  | _, _, _, _, .cons a r, h => .cons a (DpAll.app r h)
theorem DpAll.take' {H : Hp} : ∀ {vs : List V} {ds : List PyData} (n : Nat), DpAll K H vs ds → DpAll K H (vs.take n) (ds.take n)
  | _, _, 0, _ => .nil
  | _, _, _ + 1, .nil => .nil
  | _, _, n + 1, .cons a r => .cons a (DpAll.take' n r)
theorem DpAll.drop' {H : Hp} : ∀ {vs : List V} {ds : List PyData} (n : Nat), DpAll K H vs ds → DpAll K H (vs.drop n) (ds.drop n)
  | _, _, 0, h => h
  | _, _, _ + 1, .nil => .nil
  | _, _, n + 1, .cons _ r => DpAll.drop' n r
theorem DpAll.set' {H : Hp} {v : V} {d : PyData} (h : Dp K H v d) : ∀ {vs : List V} {ds : List PyData} (n : Nat), DpAll K H vs ds → DpAll K H (vs.set n v) (ds.set n d)
  | _, _, _, .nil => .nil
  | _, _, 0, .cons _ r => .cons h r
  | _, _, n + 1, .cons a r => .cons a (DpAll.set' h n r)
theorem DpAll.erase' {H : Hp} : ∀ {vs : List V} {ds : List PyData} (n : Nat), DpAll K H vs ds → DpAll K H (vs.eraseIdx n) (ds.eraseIdx n)
  | _, _, _, .nil => .nil
  | _, _, 0, .cons _ r => r
  | _, _, n + 1, .cons a r => .cons a (DpAll.erase' n r)

end L2
namespace K75
open PySem PySem.Spec PyProof.Rows L2
variable {K : PySem.W.Frag}
/-! ### the heap without the store's objects -/
/-- where the store's objects lie; what else is being made (lists that comprehensions fill) -/
structure Pl where
  ad : List Addr
  ex : List Addr
def Pl.all (π : Pl) : List Addr := π.ad ++ π.ex
def Pl.add (π : Pl) (p : Addr) : Pl := ⟨π.ad ++ [p], π.ex⟩
theorem Pl.mem_ad {π : Pl} {a : Addr} (h : a ∈ π.ad) : a ∈ π.all := List.mem_append_left _ h
theorem Pl.mem_ex {π : Pl} {a : Addr} (h : a ∈ π.ex) : a ∈ π.all := List.mem_append_right _ h
theorem Pl.mem_add {π : Pl} {p b : Addr} : b ∈ (π.add p).all ↔ b ∈ π.all ∨ b = p := by
  simp only [Pl.all, Pl.add, List.mem_append, List.mem_singleton]
  constructor
  · rintro ((h | h) | h)
    · exact .inl (.inl h)
    · exact .inr h
    · exact .inl (.inr h)
  · rintro ((h | h) | h)
    · exact .inl (.inl h)
    · exact .inr h
    · exact .inl (.inr h)
def hid (H : Hp) (π : Pl) : Hp := fun b => if b ∈ π.all then none else H b
theorem hid_in {H : Hp} {π : Pl} {b : Addr} (h : b ∈ π.all) : hid H π b = none := if_pos h
theorem hid_out {H : Hp} {π : Pl} {b : Addr} (h : b ∉ π.all) : hid H π b = H b := if_neg h
theorem hid_some {H : Hp} {π : Pl} {b : Addr} {o : HO} (h : hid H π b = some o) : b ∉ π.all ∧ H b = some o := by
  by_cases q : b ∈ π.all
  · rw [hid_in q] at h; cases h
  · exact ⟨q, by rw [hid_out q] at h; exact h⟩
theorem hid_same {H : Hp} {π : Pl} : Same (hid H π) H := fun _ _ h => (hid_some h).2
theorem hid_upd_in {H : Hp} {π : Pl} {a : Addr} {o : HO} (h : a ∈ π.all) : hid (upd H a o) π = hid H π := by
  funext b
  by_cases q : b ∈ π.all
  · rw [hid_in q, hid_in q]
  · rw [hid_out q, hid_out q, upd_ne (fun e => q (by rw [e]; exact h))]

/-! ### names in the heap -/
def cA (K : PySem.W.Frag) (c : Cl) : Addr := He.ga K c.nm
def xA (K : PySem.W.Frag) (x : Xc) : Addr := He.ga K x.nm
theorem fd_inj {f g : Fd} (h : f.nm = g.nm) : f = g := by
  cases f <;> cases g <;> first | rfl | (exact absurd h (by decide +kernel))

/-! ### values and the store -/
def RV (K : PySem.W.Frag) (Hd : Hp) (π : Pl) (v : V) : Val → Prop
  | .d x => Dp K Hd v x
  | .o n => ∃ a, π.ad[n]? = some a ∧ v = .ref a
inductive RVs (K : PySem.W.Frag) (Hd : Hp) (π : Pl) : List V → List Val → Prop
  | nil : RVs K Hd π [] []
  | cons {v : V} {x : Val} {vs : List V} {xs : List Val} : RV K Hd π v x → RVs K Hd π vs xs → RVs K Hd π (v :: vs) (x :: xs)
inductive FR (K : PySem.W.Frag) (Hd : Hp) (π : Pl) : List (Str × V) → List (Fd × Val) → Prop
  | nil : FR K Hd π [] []
  | cons {v : V} {x : Val} {f : Fd} {vs : List (Str × V)} {xs : List (Fd × Val)} : RV K Hd π v x → FR K Hd π vs xs → FR K Hd π ((f.nm, v) :: vs) ((f, x) :: xs)
def OR (K : PySem.W.Frag) (Hd : Hp) (π : Pl) (H : Hp) (a : Addr) : MO → Prop
  | .lst xs => ∃ vs, H a = some (.lst vs) ∧ DpAll K Hd vs xs
  | .ins c fs => ∃ dx vs, H a = some (.ins (cA K c) dx vs) ∧ FR K Hd π vs fs
structure Wd (K : PySem.W.Frag) (H : Hp) (π : Pl) (M : Sto) : Prop where
  nd : π.all.Nodup
  len : π.ad.length = M.length
  ob : ∀ (n : Nat) (a : Addr) (o : MO), π.ad[n]? = some a → M[n]? = some o → OR K (hid H π) π H a o
  lv : ∀ b ∈ π.ex, ∃ o, H b = some o
/-- what grows: the store's addresses at their end, the data's objects stay, what is being made stays -/
structure Gr (H : Hp) (π : Pl) (H' : Hp) (π' : Pl) : Prop where
  pre : ∃ r, π'.ad = π.ad ++ r
  exs : π'.ex = π.ex
  ex : Same (hid H π) (hid H' π')
  st : ∀ b ∈ π.ex, H' b = H b
theorem Gr.refl (H : Hp) (π : Pl) : Gr H π H π := ⟨⟨[], by simp⟩, rfl, Same.refl _, fun _ _ => rfl⟩
theorem Gr.trans {H H1 H2 : Hp} {π π1 π2 : Pl} (a : Gr H π H1 π1) (b : Gr H1 π1 H2 π2) : Gr H π H2 π2 := by
  obtain ⟨r, h1⟩ := a.pre
  obtain ⟨t, h2⟩ := b.pre
  exact ⟨⟨r ++ t, by rw [h2, h1, List.append_assoc]⟩, b.exs.trans a.exs, a.ex.trans b.ex, fun x hx => (b.st x (by rw [a.exs]; exact hx)).trans (a.st x hx)⟩
theorem Gr.at {H H' : Hp} {π π' : Pl} (g : Gr H π H' π') {n : Nat} {a : Addr} (h : π.ad[n]? = some a) : π'.ad[n]? = some a := by
  obtain ⟨r, e⟩ := g.pre
  rw [e, List.getElem?_append_left (List.getElem?_eq_some_iff.mp h).1]
  exact h
theorem rv_gr {H H' : Hp} {π π' : Pl} (g : Gr H π H' π') {v : V} : ∀ {x : Val}, RV K (hid H π) π v x → RV K (hid H' π') π' v x
  | .d _, h => dpSame g.ex h
  | .o _, ⟨a, h, e⟩ => ⟨a, g.at h, e⟩
theorem rvs_gr {H H' : Hp} {π π' : Pl} (g : Gr H π H' π') : ∀ {vs : List V} {xs : List Val}, RVs K (hid H π) π vs xs → RVs K (hid H' π') π' vs xs
  | _, _, .nil => .nil
  | _, _, .cons a r => .cons (rv_gr g a) (rvs_gr g r)
theorem fr_gr {H H' : Hp} {π π' : Pl} (g : Gr H π H' π') : ∀ {vs : List (Str × V)} {xs : List (Fd × Val)}, FR K (hid H π) π vs xs → FR K (hid H' π') π' vs xs
  | _, _, .nil => .nil
  | _, _, .cons a r => .cons (rv_gr g a) (fr_gr g r)
theorem Wd.tracked {H : Hp} {π : Pl} {M : Sto} (w : Wd K H π M) {a : Addr} (h : a ∈ π.all) : ∃ o, H a = some o := by
  rcases List.mem_append.mp h with h | h
  · obtain ⟨n, hn, e⟩ := List.getElem_of_mem h
    have h1 : π.ad[n]? = some a := by rw [List.getElem?_eq_getElem hn, e]
    have hm : n < M.length := by rw [← w.len]; exact hn
    have h2 : M[n]? = some M[n] := List.getElem?_eq_getElem hm
    have q := w.ob n a _ h1 h2
    cases hq : M[n] with
    | lst xs => rw [hq] at q; obtain ⟨vs, e, _⟩ := q; exact ⟨_, e⟩
    | ins c fs => rw [hq] at q; obtain ⟨dx, vs, e, _⟩ := q; exact ⟨_, e⟩
  · exact w.lv a h
theorem Wd.fresh {H : Hp} {π : Pl} {M : Sto} (w : Wd K H π M) {p : Addr} (h : H p = none) : p ∉ π.all := fun q => by
  obtain ⟨o, e⟩ := w.tracked q
  rw [h] at e; cases e
theorem Wd.addr {H : Hp} {π : Pl} {M : Sto} (w : Wd K H π M) {n : Nat} {o : MO} (h : M[n]? = some o) : ∃ a, π.ad[n]? = some a ∧ a ∈ π.ad ∧ OR K (hid H π) π H a o := by
  have hn : n < π.ad.length := by rw [w.len]; exact (List.getElem?_eq_some_iff.mp h).1
  exact ⟨π.ad[n], List.getElem?_eq_getElem hn, List.getElem_mem hn, w.ob n _ o (List.getElem?_eq_getElem hn) h⟩
/-- what is new is no object of the store: the store stays -/
theorem or_keep {H H' : Hp} {π : Pl} {a : Addr} {o : MO} (g : Gr H π H' π) (e : H' a = H a) (h : OR K (hid H π) π H a o) : OR K (hid H' π) π H' a o := by
  cases o with
  | lst xs => obtain ⟨vs, h1, h2⟩ := h; exact ⟨vs, by rw [e]; exact h1, dpsSame g.ex h2⟩
  | ins c fs => obtain ⟨dx, vs, h1, h2⟩ := h; exact ⟨dx, vs, by rw [e]; exact h1, fr_gr g h2⟩
theorem Wd.keep {H H' : Hp} {π : Pl} {M : Sto} (w : Wd K H π M) (e : ∀ a ∈ π.all, H' a = H a) (x : Same (hid H π) (hid H' π)) : Gr H π H' π ∧ Wd K H' π M := by
  have g : Gr H π H' π := ⟨⟨[], by simp⟩, rfl, x, fun b hb => e b (Pl.mem_ex hb)⟩
  exact ⟨g, w.nd, w.len, fun n a o h1 h2 => or_keep g (e a (Pl.mem_ad (List.mem_of_getElem? h1))) (w.ob n a o h1 h2), fun b hb => by rw [e b (Pl.mem_ex hb)]; exact w.lv b hb⟩
/-- a new object of data -/
theorem Wd.fresh_upd {H : Hp} {π : Pl} {M : Sto} (w : Wd K H π M) {p : Addr} {o : HO} (h : H p = none) : Gr H π (upd H p o) π ∧ Wd K (upd H p o) π M ∧ hid (upd H p o) π p = some o := by
  have np := w.fresh h
  obtain ⟨g, w'⟩ := w.keep (H' := upd H p o) (fun a ha => upd_ne fun e => np (by rw [← e]; exact ha)) fun b u q => by
    obtain ⟨h1, h2⟩ := hid_some q
    rw [hid_out h1, upd_ne (ne_of_none h2 h)]
    exact h2
  exact ⟨g, w', by rw [hid_out np, upd_same]⟩
/-- an object of the store is written -/
theorem Wd.write {H : Hp} {π : Pl} {M : Sto} (w : Wd K H π M) {n : Nat} {a : Addr} {o : HO} {m : MO} (hn : π.ad[n]? = some a) (hm : OR K (hid H π) π (upd H a o) a m) : Gr H π (upd H a o) π ∧ Wd K (upd H a o) π (M.set n m) := by
  have ha : a ∈ π.ad := List.mem_of_getElem? hn
  have eh : hid (upd H a o) π = hid H π := hid_upd_in (Pl.mem_ad ha)
  have nex : ∀ b ∈ π.ex, b ≠ a := fun b hb e => by
    have z := w.nd
    rw [Pl.all, List.nodup_append] at z
    exact z.2.2 a ha b hb e.symm
  refine ⟨⟨⟨[], by simp⟩, rfl, by rw [eh]; exact Same.refl _, fun b hb => upd_ne (nex b hb)⟩, w.nd, by rw [List.length_set]; exact w.len, fun i b u h1 h2 => ?_, fun b hb => by rw [upd_ne (nex b hb)]; exact w.lv b hb⟩
  rw [eh]
  by_cases e : i = n
  · subst e
    rw [hn] at h1; cases h1
    have hl : i < M.length := by rw [← w.len]; exact (List.getElem?_eq_some_iff.mp hn).1
    rw [List.getElem?_set_self hl] at h2; cases h2
    exact hm
  · rw [List.getElem?_set_ne (Ne.symm e)] at h2
    have q := w.ob i b u h1 h2
    have nb : b ≠ a := fun z => by
      subst z
      obtain ⟨hi, ei⟩ := List.getElem?_eq_some_iff.mp h1
      obtain ⟨hn', en⟩ := List.getElem?_eq_some_iff.mp hn
      have z := w.nd
      rw [Pl.all, List.nodup_append] at z
      exact e ((List.getElem_inj z.1).mp (ei.trans en.symm))
    cases u with
    | lst xs => obtain ⟨vs, e1, e2⟩ := q; exact ⟨vs, by rw [upd_ne nb]; exact e1, e2⟩
    | ins c fs => obtain ⟨dx, vs, e1, e2⟩ := q; exact ⟨dx, vs, by rw [upd_ne nb]; exact e1, e2⟩
/-- a new object of the store; what else is new (dx) is data's -/
theorem Wd.grow {H H' : Hp} {π : Pl} {M : Sto} (w : Wd K H π M) {p : Addr} {m : MO} (hp : H p = none) (keep : ∀ b o, H b = some o → H' b = some o) (hm : ∀ Hd, Same (hid H π) Hd → OR K Hd (π.add p) H' p m) :
    Gr H π H' (π.add p) ∧ Wd K H' (π.add p) (M ++ [m]) := by
  have np := w.fresh hp
  have x : Same (hid H π) (hid H' (π.add p)) := fun b o q => by
    obtain ⟨h1, h2⟩ := hid_some q
    have nb : b ≠ p := ne_of_none h2 hp
    rw [hid_out (by rw [Pl.mem_add]; simp [h1, nb])]
    exact keep b o h2
  have ks : ∀ b ∈ π.ex, H' b = H b := fun b hb => by
    obtain ⟨o, e⟩ := w.lv b hb
    rw [e]; exact keep b o e
  have g : Gr H π H' (π.add p) := ⟨⟨[p], rfl⟩, rfl, x, ks⟩
  refine ⟨g, ?_, by show (π.ad ++ [p]).length = _; rw [List.length_append, List.length_append, w.len]; rfl, fun i b u h1 h2 => ?_, fun b hb => by
    obtain ⟨o, e⟩ := w.lv b hb
    exact ⟨o, keep b o e⟩⟩
  · have z := w.nd
    unfold Pl.all at z np ⊢
    rw [List.nodup_append] at z ⊢
    refine ⟨?_, z.2.1, fun a ha b hb => ?_⟩
    · show (π.ad ++ [p]).Nodup
      rw [List.nodup_append]
      refine ⟨z.1, by simp, fun a ha b hb => ?_⟩
      have : b = p := by simpa using hb
      subst this
      exact fun e => np (List.mem_append_left _ (by rw [← e]; exact ha))
    · have ha : a ∈ π.ad ++ [p] := ha
      rcases List.mem_append.mp ha with h | h
      · exact z.2.2 a h b hb
      · have : a = p := by simpa using h
        subst this
        exact fun e => np (List.mem_append_right _ (by rw [e]; exact hb))
  · have h1 : (π.ad ++ [p])[i]? = some b := h1
    by_cases hi : i < π.ad.length
    · rw [List.getElem?_append_left hi] at h1
      rw [List.getElem?_append_left (by rw [← w.len]; exact hi)] at h2
      have q := w.ob i b u h1 h2
      cases u with
      | lst xs => obtain ⟨vs, e1, e2⟩ := q; exact ⟨vs, keep _ _ e1, dpsSame x e2⟩
      | ins c fs => obtain ⟨dx, vs, e1, e2⟩ := q; exact ⟨dx, vs, keep _ _ e1, fr_gr g e2⟩
    · have e1 : i = π.ad.length := by
        have := (List.getElem?_eq_some_iff.mp h1).1
        rw [List.length_append] at this
        simp at this
        omega
      subst e1
      rw [List.getElem?_append_right (Nat.le_refl _)] at h1
      rw [List.getElem?_append_right (by rw [w.len]; exact Nat.le_refl _)] at h2
      simp at h1
      rw [w.len] at h2
      simp at h2
      subst h1 h2
      exact hm _ x
/-- an object by its number -/
theorem Wd.lst {H : Hp} {π : Pl} {M : Sto} (w : Wd K H π M) {v : V} {n : Nat} {xs : List PyData} (h : RV K (hid H π) π v (.o n)) (e : M[n]? = some (.lst xs)) : ∃ a vs, v = .ref a ∧ π.ad[n]? = some a ∧ H a = some (.lst vs) ∧ DpAll K (hid H π) vs xs := by
  obtain ⟨a, h1, rfl⟩ := h
  obtain ⟨vs, h2, h3⟩ := w.ob n a _ h1 e
  exact ⟨a, vs, rfl, h1, h2, h3⟩
theorem Wd.ins {H : Hp} {π : Pl} {M : Sto} (w : Wd K H π M) {v : V} {n : Nat} {c : Cl} {fs : List (Fd × Val)} (h : RV K (hid H π) π v (.o n)) (e : M[n]? = some (.ins c fs)) : ∃ a dx vs, v = .ref a ∧ π.ad[n]? = some a ∧ H a = some (.ins (cA K c) dx vs) ∧ FR K (hid H π) π vs fs := by
  obtain ⟨a, h1, rfl⟩ := h
  obtain ⟨dx, vs, h2, h3⟩ := w.ob n a _ h1 e
  exact ⟨a, dx, vs, rfl, h1, h2, h3⟩
/-- any value as data, as the heap stands -/
theorem Wd.toD {H : Hp} {π : Pl} {M : Sto} (w : Wd K H π M) {v : V} {x : Val} {d : PyData} (h : RV K (hid H π) π v x) (e : toD M x = some d) : Dp K H v d := by
  cases x with
  | d y =>
    cases e
    exact dpSame hid_same h
  | o n =>
    simp only [K75.toD] at e
    split at e
    · rename_i xs hx
      cases e
      obtain ⟨a, vs, rfl, _, h2, h3⟩ := w.lst h hx
      exact .lst (.of h2) (dpsSame hid_same h3)
    · cases e
/-! ### a list that is being made -/
def Pl.mk_ (π : Pl) (D : Addr) : Pl := ⟨π.ad, D :: π.ex⟩
theorem Pl.mem_mk {π : Pl} {D b : Addr} : b ∈ (π.mk_ D).all ↔ b ∈ π.all ∨ b = D := by
  simp only [Pl.all, Pl.mk_, List.mem_append, List.mem_cons]
  constructor
  · rintro (h | h | h)
    · exact .inl (.inl h)
    · exact .inr h
    · exact .inl (.inr h)
  · rintro ((h | h) | h)
    · exact .inl h
    · exact .inr (.inr h)
    · exact .inr (.inl h)
theorem hid_mk {H : Hp} {π : Pl} {D : Addr} {o : HO} (hD : H D = none) : hid (upd H D o) (π.mk_ D) = hid H π := by
  funext b
  by_cases e : b = D
  · subst e
    rw [hid_in (by rw [Pl.mem_mk]; exact .inr rfl)]
    by_cases q : b ∈ π.all
    · rw [hid_in q]
    · rw [hid_out q, hD]
  · by_cases q : b ∈ π.all
    · rw [hid_in q, hid_in (by rw [Pl.mem_mk]; exact .inl q)]
    · rw [hid_out q, hid_out (by rw [Pl.mem_mk]; simp [q, e]), upd_ne e]
theorem rv_mk {Hd : Hp} {π : Pl} {D : Addr} {v : V} : ∀ {x : Val}, RV K Hd π v x ↔ RV K Hd (π.mk_ D) v x
  | .d _ => Iff.rfl
  | .o _ => Iff.rfl
theorem fr_mk {Hd : Hp} {π : Pl} {D : Addr} : ∀ {vs : List (Str × V)} {xs : List (Fd × Val)}, FR K Hd π vs xs → FR K Hd (π.mk_ D) vs xs
  | _, _, .nil => .nil
  | _, _, .cons a r => .cons (rv_mk.mp a) (fr_mk r)
theorem fr_un {Hd : Hp} {π : Pl} {D : Addr} : ∀ {vs : List (Str × V)} {xs : List (Fd × Val)}, FR K Hd (π.mk_ D) vs xs → FR K Hd π vs xs
  | _, _, .nil => .nil
  | _, _, .cons a r => .cons (rv_mk.mpr a) (fr_un r)
/-- a fresh list, set apart -/
theorem Wd.apart {H : Hp} {π : Pl} {M : Sto} (w : Wd K H π M) {D : Addr} {o : HO} (hD : H D = none) : Wd K (upd H D o) (π.mk_ D) M := by
  have np := w.fresh hD
  have ne : ∀ b ∈ π.all, b ≠ D := fun b hb e => np (by rw [← e]; exact hb)
  refine ⟨?_, w.len, fun n a u h1 h2 => ?_, fun b hb => ?_⟩
  · have z := w.nd
    unfold Pl.all at z np ⊢
    show (π.ad ++ D :: π.ex).Nodup
    rw [List.nodup_append] at z ⊢
    refine ⟨z.1, List.nodup_cons.mpr ⟨fun h => np (List.mem_append_right _ h), z.2.1⟩, fun a ha b hb => ?_⟩
    rcases List.mem_cons.mp hb with h | h
    · subst h; exact fun e => np (List.mem_append_left _ (by rw [← e]; exact ha))
    · exact z.2.2 a ha b h
  · have q := w.ob n a u h1 h2
    rw [hid_mk hD]
    have na := ne a (Pl.mem_ad (List.mem_of_getElem? (show π.ad[n]? = some a from h1)))
    cases u with
    | lst xs => obtain ⟨vs, e1, e2⟩ := q; exact ⟨vs, by rw [upd_ne na]; exact e1, e2⟩
    | ins c fs => obtain ⟨dx, vs, e1, e2⟩ := q; exact ⟨dx, vs, by rw [upd_ne na]; exact e1, fr_mk e2⟩
  · rcases List.mem_cons.mp hb with h | h
    · subst h; exact ⟨o, upd_same⟩
    · obtain ⟨u, e⟩ := w.lv b h
      exact ⟨u, by rw [upd_ne (ne b (Pl.mem_ex h))]; exact e⟩
/-- the list apart is written -/
theorem Wd.fill {H : Hp} {π : Pl} {M : Sto} {D : Addr} (w : Wd K H (π.mk_ D) M) (o : HO) : Wd K (upd H D o) (π.mk_ D) M ∧ hid (upd H D o) (π.mk_ D) = hid H (π.mk_ D) := by
  have hD : D ∈ (π.mk_ D).all := by rw [Pl.mem_mk]; exact .inr rfl
  have eh : hid (upd H D o) (π.mk_ D) = hid H (π.mk_ D) := hid_upd_in hD
  have nd := w.nd
  have nad : ∀ a ∈ π.ad, a ≠ D := fun a ha e => by
    unfold Pl.all at nd
    have nd : (π.ad ++ D :: π.ex).Nodup := nd
    rw [List.nodup_append] at nd
    exact nd.2.2 a ha D List.mem_cons_self e
  refine ⟨⟨w.nd, w.len, fun n a u h1 h2 => ?_, fun b hb => ?_⟩, eh⟩
  · have q := w.ob n a u h1 h2
    rw [eh]
    have na := nad a (List.mem_of_getElem? (show π.ad[n]? = some a from h1))
    cases u with
    | lst xs => obtain ⟨vs, e1, e2⟩ := q; exact ⟨vs, by rw [upd_ne na]; exact e1, e2⟩
    | ins c fs => obtain ⟨dx, vs, e1, e2⟩ := q; exact ⟨dx, vs, by rw [upd_ne na]; exact e1, e2⟩
  · by_cases e : b = D
    · subst e; exact ⟨o, upd_same⟩
    · rw [upd_ne e]; exact w.lv b hb
/-- what was set apart joins the data -/
theorem hid_join {H : Hp} {π : Pl} {D : Addr} : Same (hid H (π.mk_ D)) (hid H π) := fun b o h => by
  obtain ⟨h1, h2⟩ := hid_some h
  rw [Pl.mem_mk] at h1
  rw [hid_out fun z => h1 (.inl z)]
  exact h2
theorem rv_join {H : Hp} {π : Pl} {D : Addr} {v : V} : ∀ {x : Val}, RV K (hid H (π.mk_ D)) (π.mk_ D) v x → RV K (hid H π) π v x
  | .d _, h => dpSame hid_join h
  | .o _, h => h
theorem fr_join {H : Hp} {π : Pl} {D : Addr} : ∀ {vs : List (Str × V)} {xs : List (Fd × Val)}, FR K (hid H (π.mk_ D)) (π.mk_ D) vs xs → FR K (hid H π) π vs xs
  | _, _, .nil => .nil
  | _, _, .cons a r => .cons (rv_join a) (fr_join r)
theorem Wd.join {H : Hp} {π : Pl} {M : Sto} {D : Addr} (w : Wd K H (π.mk_ D) M) : Wd K H π M ∧ D ∉ π.all := by
  have nd := w.nd
  unfold Pl.all at nd
  have nd : (π.ad ++ D :: π.ex).Nodup := nd
  rw [List.nodup_append] at nd
  refine ⟨⟨?_, w.len, fun n a u h1 h2 => ?_, fun b hb => w.lv b (List.mem_cons_of_mem _ hb)⟩, fun z => ?_⟩
  · show (π.ad ++ π.ex).Nodup
    rw [List.nodup_append]
    exact ⟨nd.1, (List.nodup_cons.mp nd.2.1).2, fun a ha b hb => nd.2.2 a ha b (List.mem_cons_of_mem _ hb)⟩
  · have q := w.ob n a u h1 h2
    cases u with
    | lst xs => obtain ⟨vs, e1, e2⟩ := q; exact ⟨vs, e1, dpsSame hid_join e2⟩
    | ins c fs =>
      obtain ⟨dx, vs, e1, e2⟩ := q
      exact ⟨dx, vs, e1, fr_join e2⟩
  · rcases List.mem_append.mp z with h | h
    · exact nd.2.2 D h D List.mem_cons_self rfl
    · exact (List.nodup_cons.mp nd.2.1).1 h

/-! ### fields -/
theorem FR.look {Hd : Hp} {π : Pl} : ∀ {vs : List (Str × V)} {fs : List (Fd × Val)} {f : Fd} {x : Val}, FR K Hd π vs fs → fs.lookup f = some x → ∃ v, vs.lookup f.nm = some v ∧ RV K Hd π v x
  | _, _, _, _, .nil, h => by cases h
  | _, _, f, x, .cons (v := v) (x := y) (f := g) (vs := vs) (xs := xs) a r, h => by
    by_cases e : f = g
    · subst e
      rw [List.lookup_cons_self] at h; cases h
      exact ⟨v, List.lookup_cons_self, a⟩
    · have h1 : (f == g) = false := by simpa using e
      have h2 : (f.nm == g.nm) = false := by
        rw [beq_eq_false_iff_ne]
        exact fun z => e (fd_inj z)
      rw [List.lookup_cons, h1] at h
      obtain ⟨u, e1, e2⟩ := FR.look r h
      exact ⟨u, by rw [List.lookup_cons, h2]; exact e1, e2⟩
theorem FR.put {Hd : Hp} {π : Pl} {f : Fd} {v : V} {x : Val} (h : RV K Hd π v x) : ∀ {vs : List (Str × V)} {fs : List (Fd × Val)}, FR K Hd π vs fs → FR K Hd π (putF f.nm v vs) (putFd f x fs)
  | _, _, .nil => .cons h .nil
  | _, _, .cons (v := w) (x := y) (f := g) (vs := vs) (xs := xs) a r => by
    by_cases e : g = f
    · subst e
      have e1 : putF g.nm v ((g.nm, w) :: vs) = (g.nm, v) :: vs := if_pos rfl
      have e2 : putFd g x ((g, y) :: xs) = (g, x) :: xs := if_pos rfl
      rw [e1, e2]
      exact .cons h r
    · have ne : ¬ g.nm = f.nm := fun z => e (fd_inj z)
      have e1 : putF f.nm v ((g.nm, w) :: vs) = (g.nm, w) :: putF f.nm v vs := if_neg ne
      have e2 : putFd f x ((g, y) :: xs) = (g, y) :: putFd f x xs := if_neg e
      rw [e1, e2]
      exact .cons a (FR.put h r)
theorem FR.none {Hd : Hp} {π : Pl} {m : Str} (h : ∀ f : Fd, f.nm ≠ m) : ∀ {vs : List (Str × V)} {fs : List (Fd × Val)}, FR K Hd π vs fs → vs.lookup m = none
  | _, _, .nil => rfl
  | _, _, .cons (f := g) (vs := vs) _ r => by
    have e : (m == g.nm) = false := by rw [beq_eq_false_iff_ne]; exact fun z => h g z.symm
    rw [List.lookup_cons, e]
    exact FR.none h r
theorem FR.len {Hd : Hp} {π : Pl} : ∀ {vs : List (Str × V)} {fs : List (Fd × Val)}, FR K Hd π vs fs → vs.length = fs.length
  | _, _, .nil => rfl
  | _, _, .cons _ r => by rw [List.length_cons, List.length_cons, FR.len r]

/-! ### slots -/
structure LocR (K : PySem.W.Frag) (Hd : Hp) (π : Pl) (σ : L2.St) (G : Loc) : Prop where
  len : σ.length = G.length
  at_ : ∀ (i : Nat) (x : Val), G[i]? = some (some x) → ∃ v, σ[i]? = some (some v) ∧ RV K Hd π v x
theorem LocR.gr {H H' : Hp} {π π' : Pl} {σ : L2.St} {G : Loc} (l : LocR K (hid H π) π σ G) (g : Gr H π H' π') : LocR K (hid H' π') π' σ G :=
  ⟨l.len, fun i x h => let ⟨v, e, r⟩ := l.at_ i x h; ⟨v, e, rv_gr g r⟩⟩
theorem LocR.set {Hd : Hp} {π : Pl} {σ : L2.St} {G : Loc} (l : LocR K Hd π σ G) {v : V} {x : Val} (h : RV K Hd π v x) (i : Nat) : LocR K Hd π (σ.set i (some v)) (G.set i (some x)) := by
  refine ⟨by rw [List.length_set, List.length_set]; exact l.len, fun j y e => ?_⟩
  by_cases q : i = j
  · subst q
    have hi : i < G.length := by
      have := (List.getElem?_eq_some_iff.mp e).1
      rw [List.length_set] at this; exact this
    rw [List.getElem?_set_self hi] at e
    cases e
    exact ⟨v, List.getElem?_set_self (by rw [l.len]; exact hi), h⟩
  · rw [List.getElem?_set_ne q] at e
    rw [List.getElem?_set_ne q]
    exact l.at_ j y e
theorem LocR.unset {Hd : Hp} {π : Pl} {σ : L2.St} {G : Loc} (l : LocR K Hd π σ G) (i : Nat) : LocR K Hd π (σ.set i none) (G.set i none) := by
  refine ⟨by rw [List.length_set, List.length_set]; exact l.len, fun j y e => ?_⟩
  by_cases q : i = j
  · subst q
    have hi : i < G.length := by
      have := (List.getElem?_eq_some_iff.mp e).1
      rw [List.length_set] at this; exact this
    rw [List.getElem?_set_self hi] at e
    cases e
  · rw [List.getElem?_set_ne q] at e
    rw [List.getElem?_set_ne q]
    exact l.at_ j y e
theorem LocR.wipe {Hd : Hp} {π : Pl} {σ : L2.St} {G : Loc} (l : LocR K Hd π σ G) : ∀ is : List Nat, LocR K Hd π (L2.wipe σ is) (wipeG G is)
  | [] => l
  | i :: r => (LocR.wipe l r).unset i
theorem LocR.start {Hd : Hp} {π : Pl} {vs : List V} {xs : List Val} (h : RVs K Hd π vs xs) (N : List Str) (n : Nat) (hn : N.length = xs.length + n) : LocR K Hd π (L2.start N vs) (xs.map some ++ List.replicate n none) := by
  have hl : vs.length = xs.length := by
    clear hn
    induction h with
    | nil => rfl
    | cons _ _ ih => rw [List.length_cons, List.length_cons, ih]
  unfold L2.start
  refine ⟨by simp [hl, hn], fun i x e => ?_⟩
  have hi : i < xs.length := by
    by_cases q : i < xs.length
    · exact q
    · rw [List.getElem?_append_right (by simpa using q), List.getElem?_replicate] at e
      split at e <;> cases e
  rw [List.getElem?_append_left (by simpa using hi), List.getElem?_map] at e
  rw [List.getElem?_append_left (by simp [hl]; exact hi), List.getElem?_map]
  clear hn hl
  have go : ∀ (i : Nat) (vs : List V) (xs : List Val), RVs K Hd π vs xs → Option.map some xs[i]? = some (some x) → ∃ v, Option.map some vs[i]? = some (some v) ∧ RV K Hd π v x := by
    intro i vs xs h
    induction h generalizing i with
    | nil => intro e; simp at e
    | cons a r ih =>
      intro e
      cases i with
      | zero =>
        rw [List.getElem?_cons_zero] at e
        cases e
        exact ⟨_, by rw [List.getElem?_cons_zero]; rfl, a⟩
      | succ i =>
        rw [List.getElem?_cons_succ] at e ⊢
        exact ih i e
  exact go i vs xs h e
end K75

set_option Elab.async false
set_option linter.all false
set_option autoImplicit false
set_option maxRecDepth 100000
/-! Part 4: outcomes over the walk; calls of defs where nothing is being shown. -/
namespace K75
open PySem PySem.Spec PyProof.Rows L2

/-! ### a part of the text by its own walk -/
def tw (X : Cx) (e : Expr) : TE := fun σ H Q => ∀ (pins : List (Addr × Obj)) (s : Shared), Inv X pins σ H s → wpAny (model X.prog X.w) X.A (eval e X.env) (EP X pins σ Q) X.xe s
def twA (X : Cx) (es : List Expr) : TA := fun σ H Q => ∀ (pos : Pos) (pins : List (Addr × Obj)) (s : Shared), Inv X pins σ H s → wpAny (model X.prog X.w) X.A (spliced (backTo pos (starEach es X.env))) (AP X pins σ Q) X.xe s
def twT (X : Cx) (e : Expr) : TT := fun σ H Q => ∀ (pins : List (Addr × Obj)) (s : Shared), Inv X pins σ H s → wpAny (model X.prog X.w) X.A (isTrue e X.env (eval e X.env)) (TP X pins σ Q) X.xe s
def twW (X : Cx) (e : Expr) : TT := fun σ H Q => ∀ (whole : Sem Value) (pins : List (Addr × Obj)) (s : Shared), Inv X pins σ H s → wpAny (model X.prog X.w) X.A (isTrue e X.env whole) (TP X pins σ Q) X.xe s
def twS (X : Cx) (st : Stmt) : TS := fun D σ H => ∀ (pins : List (Addr × Obj)) (s : Shared), Inv X pins σ H s → wpAny (model X.prog X.w) X.A (exec st X.env) (SP X pins D) X.xe s
def twB (X : Cx) (st : List Stmt) : TS := fun D σ H => ∀ (pins : List (Addr × Obj)) (s : Shared), Inv X pins σ H s → wpAny (model X.prog X.w) X.A (execs st X.env) (SP X pins D) X.xe s
theorem pw (X : Cx) (e : Expr) : PE X e (tw X e) := ⟨fun pins s _ _ _ I h => h pins s I⟩
theorem pwA (X : Cx) (es : List Expr) : PA X es (twA X es) := ⟨fun pos pins s _ _ _ I h => h pos pins s I⟩
theorem pwT (X : Cx) (e : Expr) : PT X e (twT X e) := ⟨fun pins s _ _ _ I h => h pins s I⟩
theorem pwW (X : Cx) (e : Expr) : PW X e (twW X e) := ⟨fun whole pins s _ _ _ I h => h whole pins s I⟩
theorem pwS (X : Cx) (st : Stmt) : PS X st (twS X st) := ⟨fun pins s _ _ _ I h => h pins s I⟩
theorem pwB (X : Cx) (st : List Stmt) : PSs X st (twB X st) := ⟨fun pins s _ _ _ I h => h pins s I⟩
theorem tw_of {X : Cx} {e : Expr} {t : TE} (p : PE X e t) {σ : L2.St} {H : Hp} {Q : VK} (h : t σ H Q) : tw X e σ H Q := fun pins s I => p.run pins s σ H Q I h
theorem twA_of {X : Cx} {es : List Expr} {t : TA} (p : PA X es t) {σ : L2.St} {H : Hp} {Q : List V → Hp → Prop} (h : t σ H Q) : twA X es σ H Q := fun pos pins s I => p.run pos pins s σ H Q I h
theorem twT_of {X : Cx} {e : Expr} {t : TT} (p : PT X e t) {σ : L2.St} {H : Hp} {Q : Bool → Hp → Prop} (h : t σ H Q) : twT X e σ H Q := fun pins s I => p.run pins s σ H Q I h
theorem twW_of {X : Cx} {e : Expr} {t : TT} (p : PW X e t) {σ : L2.St} {H : Hp} {Q : Bool → Hp → Prop} (h : t σ H Q) : twW X e σ H Q := fun whole pins s I => p.run whole pins s σ H Q I h
theorem twS_of {X : Cx} {st : Stmt} {t : TS} (p : PS X st t) {D : Ends} {σ : L2.St} {H : Hp} (h : t D σ H) : twS X st D σ H := fun pins s I => p.run pins s σ H D I h
theorem twB_of {X : Cx} {st : List Stmt} {t : TS} (p : PSs X st t) {D : Ends} {σ : L2.St} {H : Hp} (h : t D σ H) : twB X st D σ H := fun pins s I => p.run pins s σ H D I h

/-! ### outcomes -/
section
variable {X : Cx} {σ : L2.St} {H : Hp} {π : Pl} {α β α' β' : Type}
/-- what is known behind a part whose outcome is r: T is its walk, by what is wanted behind it -/
def Ot (X : Cx) (σ : L2.St) (H : Hp) (π : Pl) (r : R β) (Rl : Hp → Pl → α → β → Prop) (T : (α → Hp → Prop) → Prop) : Prop := match r with
  | .no => True
  | .ok b M' => ∀ Q : α → Hp → Prop, (∀ a H' π', Gr H π H' π' → Wd X.K H' π' M' → Rl H' π' a b → Q a H') → T Q
  | .ex c M' => ∀ W : WX, Takes X W → (∀ H' π', Gr H π H' π' → Wd X.K H' π' M' → W (.ref (xA X.K c)) none σ H') → ∀ Q, T Q
def OtS (X : Cx) (σ : L2.St) (H : Hp) (π : Pl) (r : F) (T : Ends → Prop) : Prop := match r with
  | .no => True
  | .nx G' M' => ∀ D : Ends, (∀ σ' H' π', Gr H π H' π' → Wd X.K H' π' M' → LocR X.K (hid H' π') π' σ' G' → D.nx σ' H') → T D
  | .ret v M' => ∀ D : Ends, (∀ a H' π', Gr H π H' π' → Wd X.K H' π' M' → RV X.K (hid H' π') π' a v → D.rt a H') → T D
  | .ex c G' M' => ∀ W : WX, Takes X W → (∀ σ' H' π', Gr H π H' π' → Wd X.K H' π' M' → LocR X.K (hid H' π') π' σ' G' → W (.ref (xA X.K c)) none σ' H') → ∀ D, T D
abbrev RlV (X : Cx) : Hp → Pl → V → Val → Prop := fun H' π' a b => RV X.K (hid H' π') π' a b
abbrev RlA (X : Cx) : Hp → Pl → List V → List Val → Prop := fun H' π' a b => RVs X.K (hid H' π') π' a b
abbrev RlT : Hp → Pl → Bool → Val → Prop := fun _ _ a b => b = .d (.bool a)
theorem Ot.mono {r : R β} {Rl : Hp → Pl → α → β → Prop} {T T' : (α → Hp → Prop) → Prop} (h : Ot X σ H π r Rl T) (f : ∀ Q, T Q → T' Q) : Ot X σ H π r Rl T' := by
  cases r with
  | no => trivial
  | ok b M' => exact fun Q q => f Q (h Q q)
  | ex c M' => exact fun W tk hw Q => f Q (h W tk hw Q)
theorem Ot.bind {r : R β} {f : β → Sto → R β'} {Rl : Hp → Pl → α → β → Prop} {Rl' : Hp → Pl → α' → β' → Prop} {T1 : (α → Hp → Prop) → Prop} {T2 : α → Hp → (α' → Hp → Prop) → Prop} (h : Ot X σ H π r Rl T1)
    (k : ∀ b M1 a H1 π1, r = .ok b M1 → Gr H π H1 π1 → Wd X.K H1 π1 M1 → Rl H1 π1 a b → Ot X σ H1 π1 (f b M1) Rl' (T2 a H1)) : Ot X σ H π (r.bind f) Rl' (fun Q => T1 fun a H1 => T2 a H1 Q) := by
  cases r with
  | no => trivial
  | ex c M1 => exact fun W tk hw Q => h W tk hw _
  | ok b M1 =>
    show Ot X σ H π (f b M1) Rl' _
    have k' := fun a H1 π1 => k b M1 a H1 π1 rfl
    cases hf : f b M1 with
    | no => trivial
    | ok b2 M2 =>
      intro Q q
      refine h _ fun a H1 π1 g w rl => ?_
      have z := k' a H1 π1 g w rl
      rw [hf] at z
      exact z Q fun a2 H2 π2 g2 w2 rl2 => q a2 H2 π2 (g.trans g2) w2 rl2
    | ex c M2 =>
      intro W tk hw Q
      refine h _ fun a H1 π1 g w rl => ?_
      have z := k' a H1 π1 g w rl
      rw [hf] at z
      exact z W tk (fun H2 π2 g2 w2 => hw H2 π2 (g.trans g2) w2) Q
/-- no exception is let through -/
theorem Ot.noX {r : R β} {Rl : Hp → Pl → α → β → Prop} {T : (α → Hp → Prop) → Prop} (h : Ot X σ H π r Rl T) : Ot X σ H π (K75.noX r) Rl T := by
  cases r with
  | ok b M => exact h
  | no => trivial
  | ex c M => trivial
theorem Ot.of {x : Option β} {M : Sto} {Rl : Hp → Pl → α → β → Prop} {T : (α → Hp → Prop) → Prop} (h : ∀ b, x = some b → Ot X σ H π (.ok b M) Rl T) : Ot X σ H π (R.of x M) Rl T := by
  cases x with
  | none => trivial
  | some b => exact h b rfl
theorem OtS.mono {r : F} {T T' : Ends → Prop} (h : OtS X σ H π r T) (f : ∀ D, T D → T' D) : OtS X σ H π r T' := by
  cases r with
  | no => trivial
  | nx G M => exact fun D q => f D (h D q)
  | ret v M => exact fun D q => f D (h D q)
  | ex c G M => exact fun W tk hw D => f D (h W tk hw D)
/-- behind an expression, a statement's rest -/
theorem Ot.to {r : R β} {G : Loc} {M0 : Sto} {f : β → Sto → F} {Rl : Hp → Pl → α → β → Prop} {T1 : (α → Hp → Prop) → Prop} {T2 : α → Hp → Ends → Prop} (l : LocR X.K (hid H π) π σ G) (h : Ot X σ H π r Rl T1)
    (k : ∀ b M1 a H1 π1, r = .ok b M1 → Gr H π H1 π1 → Wd X.K H1 π1 M1 → Rl H1 π1 a b → OtS X σ H1 π1 (f b M1) (T2 a H1)) : OtS X σ H π (r.to G f) (fun D => T1 fun a H1 => T2 a H1 D) := by
  cases r with
  | no => trivial
  | ex c M1 => exact fun W tk hw D => h W tk (fun H' π' g w => hw σ H' π' g w (l.gr g)) _
  | ok b M1 =>
    show OtS X σ H π (f b M1) _
    have k' := fun a H1 π1 => k b M1 a H1 π1 rfl
    cases hf : f b M1 with
    | no => trivial
    | nx G2 M2 =>
      intro D q
      refine h _ fun a H1 π1 g w rl => ?_
      have z := k' a H1 π1 g w rl
      rw [hf] at z
      exact z D fun σ2 H2 π2 g2 w2 l2 => q σ2 H2 π2 (g.trans g2) w2 l2
    | ret v M2 =>
      intro D q
      refine h _ fun a H1 π1 g w rl => ?_
      have z := k' a H1 π1 g w rl
      rw [hf] at z
      exact z D fun a2 H2 π2 g2 w2 rl2 => q a2 H2 π2 (g.trans g2) w2 rl2
    | ex c G2 M2 =>
      intro W tk hw D
      refine h _ fun a H1 π1 g w rl => ?_
      have z := k' a H1 π1 g w rl
      rw [hf] at z
      exact z W tk (fun σ2 H2 π2 g2 w2 l2 => hw σ2 H2 π2 (g.trans g2) w2 l2) D
end

/-! ### a def's promise, where no guard runs -/
/-- as FnOk, for calls under which nothing is being shown -/
structure FnG (P : Program) (w : World) (K : PySem.W.Frag) (mg : Str → Option Value) (base : Heap) (k : Nat) (f : Addr) (fd : FuncData) (ps : List Str) (sp : Sp) : Prop where
  lens : ∀ vs H Q E, sp vs H Q E → vs.length = ps.length
  runs : ∀ (A : Around) (outer : List PySem.Env) (s : Shared) (H : Hp) (args : Args) (us : List Value) (vs : List V) (Q : VK) (E : XK), A.guards = some [] → Room k A → Env0 P w K mg base A outer s H →
    BindsTo s fd args (ps.zip us) → Vals vs us → sp vs H Q E → codeAny (model P w) A (.call (.ref f) args) (CR (L2.CX P w) outer P w H s Q E) s
/-- the promise of a def of ours: what the evaluator says -/
def sayR (K : PySem.W.Frag) (H : Hp) (π : Pl) (r : R Val) (Q : VK) (E : XK) : Prop := match r with
  | .no => False
  | .ok v M' => ∀ a H' π', Gr H π H' π' → Wd K H' π' M' → RV K (hid H' π') π' a v → Q a H'
  | .ex c M' => ∀ H' π', Gr H π H' π' → Wd K H' π' M' → E (.ref (xA K c)) none H'
def spOf (K : PySem.W.Frag) (g : List Val → Sto → R Val) : Sp := fun vs H Q E => ∃ π M xs, Wd K H π M ∧ RVs K (hid H π) π vs xs ∧ sayR K H π (g xs M) Q E

section
variable {X : Cx} {k : Nat} {f C : Addr} {fd : FuncData} {ps : List Str} {sp : Sp} {E : XK}
theorem goG {pins : List (Addr × Obj)} {σ : L2.St} {H : Hp} {s : Shared} {Q : VK} {us : List Value} {vs : List V} (F : FnG X.prog X.w X.K X.mg X.base k f fd ps sp) (g0 : X.A.guards = some []) (hr : Room k X.A) (hb : Binds X.K fd ps [])
    (hx : PassesAt (L2.CX X.prog X.w) X σ E) (I : Inv X pins σ H s) (r : Vals vs us) (h : sp vs H Q E) : wpAny (model X.prog X.w) X.A (PySem.call (.ref f) us) (EP X pins σ Q) X.xe s := by
  have n : us.length = ps.length := by
    have z := F.lens _ _ _ _ h
    rw [r.length] at z; exact z
  have b := hb s us I.kIn (by simpa using n)
  simp only [List.append_nil] at b
  apply wpAny_call
  refine codeAny_mono (F.runs X.A X.stack s H ⟨us, []⟩ us vs Q E g0 hr I.env0 b r h) fun r' s' q => ?_
  match r', q with
  | .ok (.ret u), q => exact I.after q
  | .ok .next, q => exact q.elim
  | .ok .brk, q => exact q.elim
  | .ok .cont, q => exact q.elim
  | .error e, q => exact hx pins H s e s' I q
/-- the walk of a call by values -/
def twC (X : Cx) (f : Value) (σ : L2.St) (vs : List V) (H : Hp) (Q : VK) : Prop := ∀ (pins : List (Addr × Obj)) (s : Shared) (us : List Value), Inv X pins σ H s → Vals vs us → wpAny (model X.prog X.w) X.A (PySem.call f us) (EP X pins σ Q) X.xe s
theorem passNo {X : Cx} {σ : L2.St} : PassesAt (L2.CX X.prog X.w) X σ (fun _ _ _ => False) := fun _ _ _ _ _ _ h => by
  obtain ⟨_, _, _, _, _, _, _, _, _, _, _, _, z⟩ := h
  exact z.elim
theorem ot_run {g : List Val → Sto → R Val} (F : FnG X.prog X.w X.K X.mg X.base k f fd ps (spOf X.K g)) (g0 : X.A.guards = some []) (hr : Room k X.A) (hb : Binds X.K fd ps []) {σ : L2.St} {H : Hp} {π : Pl} {M : Sto} {vs : List V} {xs : List Val}
    (w : Wd X.K H π M) (rv : RVs X.K (hid H π) π vs xs) : Ot X σ H π (g xs M) (RlV X) (twC X (.ref f) σ vs H) := by
  cases e : g xs M with
  | no => trivial
  | ok v M' => exact fun Q q pins s us I r => goG (E := fun _ _ _ => False) F g0 hr hb passNo I r ⟨π, M, xs, w, rv, by rw [e]; exact q⟩
  | ex c M' => exact fun W tk hw Q pins s us I r => goG (E := fun cls d H' => W cls d σ H') F g0 hr hb (passAt tk σ) I r ⟨π, M, xs, w, rv, by rw [e]; exact hw⟩

/-- a class's call -/
theorem guards_make {A : Around} {a : Addr} {us : List Value} : (A.under (.builtin "type.__call__" ⟨.ref a :: us, []⟩)).guards = A.guards := by
  first | rfl | simp [Around.under, Code.isGuard, guardIds]
theorem goMake {pins : List (Addr × Obj)} {σ : L2.St} {H : Hp} {s : Shared} {Q : VK} {us : List Value} {vs : List V} (m : Mk X.K C f) (F : FnG X.prog X.w X.K X.mg X.base k f fd ps sp) (g0 : X.A.guards = some []) (hr : Room (k + 1) X.A) (hb : Binds X.K fd ps [])
    (hx : ∀ (pins : List (Addr × Obj)) (H : Hp) (s : Shared) (e : Value) (s' : Shared), Inv X pins σ H s → L2.CX X.prog X.w X.stack H s E e s' → X.xe e s') (I : Inv X pins σ H s) (r : Vals vs us)
    (h : ∀ x dx, H x = none → H dx = none → dx ≠ x → sp (.ref x :: vs) (upd (upd H dx (.own x)) x (.ins C dx [])) (fun v H2 => v = .non ∧ Q (.ref x) H2) E) : wpAny (model X.prog X.w) X.A (PySem.call (.ref C) us) (EP X pins σ Q) X.xe s := by
  have q := h (s.heap.objs.size + 1) s.heap.objs.size (I.hok.fresh (Nat.le_add_right _ 1)) (I.hok.fresh (Nat.le_refl _)) (Nat.ne_of_lt (Nat.lt_add_one _))
  have J := Inv.made (C := C) I
  have rr : Vals (V.ref (s.heap.objs.size + 1) :: vs) (Value.ref (s.heap.objs.size + 1) :: us) := .cons rfl r
  have n : (Value.ref (s.heap.objs.size + 1) :: us).length = ps.length := by
    have z := F.lens _ _ _ _ q
    rw [rr.length] at z; exact z
  have b := hb _ (Value.ref (s.heap.objs.size + 1) :: us) J.kIn (by simpa using n)
  simp only [List.append_nil] at b
  apply wpAny_call
  refine make_map (f := f) I.kIn m.makes m.init (beq_iff_eq.mp m.fn) ?_
  refine codeAny_mono (F.runs _ X.stack _ _ ⟨Value.ref (s.heap.objs.size + 1) :: us, []⟩ _ _ _ E (by rw [guards_make]; exact g0) (hr.make C us []) (J.env0.make C us []) b rr q) fun r' s' z => ?_
  match r', z with
  | .ok (.ret u), z =>
    obtain ⟨v, H', I3, rv, ev, q3⟩ := J.after z
    subst ev
    exact ⟨rv, ⟨V.ref (s.heap.objs.size + 1), H', I3, rfl, q3⟩⟩
  | .ok .next, z => exact z.elim
  | .ok .brk, z => exact z.elim
  | .ok .cont, z => exact z.elim
  | .error e, z => exact hx pins _ _ e s' J z
end
end K75

set_option Elab.async false
set_option linter.all false
set_option autoImplicit false
set_option maxRecDepth 100000
set_option maxHeartbeats 1000000
/-! Part 5: operations on values. -/
namespace K75
open PySem PySem.Spec PyProof.Rows L2

/-! ### a value as it is seen -/
def Vw (K : PySem.W.Frag) (H : Hp) (π : Pl) (v : V) (d : PyData) : Prop := Dp K (hid H π) v d ∨ ∃ a vs xs, v = .ref a ∧ d = .list xs ∧ H a = some (.lst vs) ∧ DpAll K (hid H π) vs xs
section
variable {K : PySem.W.Frag} {H : Hp} {π : Pl} {M : Sto} {v : V}
theorem Vw.dp {d : PyData} (h : Vw K H π v d) : Dp K H v d := by
  rcases h with h | ⟨a, vs, xs, rfl, rfl, h1, h2⟩
  · exact dpSame hid_same h
  · exact .lst (.of h1) (dpsSame hid_same h2)
theorem Wd.view (w : Wd K H π M) {x : Val} {d : PyData} (h : RV K (hid H π) π v x) (e : K75.toD M x = some d) : Vw K H π v d := by
  cases x with
  | d y => cases e; exact .inl h
  | o n =>
    simp only [K75.toD] at e
    split at e
    · rename_i xs hx
      cases e
      obtain ⟨a, vs, rfl, _, h2, h3⟩ := w.lst h hx
      exact .inr ⟨a, vs, xs, rfl, rfl, h2, h3⟩
    · cases e
theorem Vw.int {i : Int} (h : Vw K H π v (.int i)) : v = .int i := by
  rcases h with h | ⟨a, vs, xs, rfl, e, h1, h2⟩
  · cases h; rfl
  · cases e
theorem Vw.bl {i : Bool} (h : Vw K H π v (.bool i)) : v = .bl i := by
  rcases h with h | ⟨a, vs, xs, rfl, e, h1, h2⟩
  · cases h; rfl
  · cases e
theorem Vw.str {i : Str} (h : Vw K H π v (.str i)) : v = .str i := by
  rcases h with h | ⟨a, vs, xs, rfl, e, h1, h2⟩
  · cases h; rfl
  · cases e
theorem Vw.tup {ds : List PyData} (h : Vw K H π v (.tuple ds)) : ∃ a vs, v = .ref a ∧ SqT K H a vs ∧ SqT K (hid H π) a vs ∧ DpAll K (hid H π) vs ds := by
  rcases h with h | ⟨a, vs, xs, rfl, e, h1, h2⟩
  · cases h with
    | tup s r => exact ⟨_, _, rfl, same_sqT hid_same s, s, r⟩
  · cases e
theorem Vw.lst {ds : List PyData} (h : Vw K H π v (.list ds)) : ∃ a vs, v = .ref a ∧ SqL K H a vs ∧ DpAll K (hid H π) vs ds := by
  rcases h with h | ⟨a, vs, xs, rfl, e, h1, h2⟩
  · cases h with
    | lst s r => exact ⟨_, _, rfl, hid_same.seq s, r⟩
  · cases e; exact ⟨a, vs, rfl, .of h1, h2⟩
theorem dps_bools {Hd : Hp} : ∀ {vs : List V} {ds : List PyData} {bs : List Bool}, DpAll K Hd vs ds → boolsD ds = some bs → vs = bs.map V.bl
  | _, _, _, .nil, h => by cases h; rfl
  | _, _, _, .cons (d := d) (ds := ds) a r, h => by
    cases a with
    | bl b =>
      simp only [boolsD] at h
      split at h
      · rename_i bs e
        cases h
        rw [dps_bools r e]; rfl
      · cases h
    | _ => simp [boolsD] at h
theorem dps_strs {Hd : Hp} : ∀ {vs : List V} {ds : List PyData} {bs : List Str}, DpAll K Hd vs ds → strsD ds = some bs → vs = bs.map V.str
  | _, _, _, .nil, h => by cases h; rfl
  | _, _, _, .cons (d := d) (ds := ds) a r, h => by
    cases a with
    | str b =>
      simp only [strsD] at h
      split at h
      · rename_i bs e
        cases h
        rw [dps_strs r e]; rfl
      · cases h
    | _ => simp [strsD] at h
end

/-! ### the walk of an operation on values -/
section
variable {X : Cx} {σ : L2.St} {H : Hp} {π : Pl} {M : Sto}
def tV2 (X : Cx) (f : Value → Value → Sem Value) (σ : L2.St) (a b : V) (H : Hp) (Q : VK) : Prop := ∀ (pins : List (Addr × Obj)) (s : Shared) (v u : Value), Inv X pins σ H s → RelV a v → RelV b u → wpAny (model X.prog X.w) X.A (f v u) (EP X pins σ Q) X.xe s
theorem tV2_of {f : Value → Value → Sem Value} {r : R2} (h : OpR X f r) {a b : V} {Q : VK} (q : r a b H Q) : tV2 X f σ a b H Q := fun pins s v u I ra rb => h pins s σ H a b v u Q I ra rb q
/-- what follows a datum's making -/
abbrev Mk1 (X : Cx) (H : Hp) (π : Pl) (M : Sto) (d : PyData) (Q : VK) : Prop := ∀ w H' π', Gr H π H' π' → Wd X.K H' π' M → Dp X.K (hid H' π') w d → Q w H'
theorem Mk1.int (w : Wd X.K H π M) {i : Int} {Q : VK} (q : Mk1 X H π M (.int i) Q) : Q (.int i) H := q _ H π (Gr.refl _ _) w (.int i)
theorem Mk1.bl (w : Wd X.K H π M) {i : Bool} {Q : VK} (q : Mk1 X H π M (.bool i) Q) : Q (.bl i) H := q _ H π (Gr.refl _ _) w (.bl i)
theorem Mk1.str (w : Wd X.K H π M) {i : Str} {Q : VK} (q : Mk1 X H π M (.str i) Q) : Q (.str i) H := q _ H π (Gr.refl _ _) w (.str i)
theorem Mk1.old (w : Wd X.K H π M) {v : V} {d : PyData} {Q : VK} (q : Mk1 X H π M d Q) (h : Dp X.K (hid H π) v d) : Q v H := q _ H π (Gr.refl _ _) w h
theorem Mk1.tup (w : Wd X.K H π M) {vs : List V} {ds : List PyData} {Q : VK} (q : Mk1 X H π M (.tuple ds) Q) (h : DpAll X.K (hid H π) vs ds) : ∀ p, H p = none → Q (.ref p) (upd H p (.tup vs)) := fun p hp => by
  obtain ⟨g, w', e⟩ := w.fresh_upd (o := .tup vs) hp
  exact q _ _ π g w' (.tup (.of e) (dpsSame g.ex h))
theorem Mk1.lst (w : Wd X.K H π M) {vs : List V} {ds : List PyData} {Q : VK} (q : Mk1 X H π M (.list ds) Q) (h : DpAll X.K (hid H π) vs ds) : ∀ p, H p = none → Q (.ref p) (upd H p (.lst vs)) := fun p hp => by
  obtain ⟨g, w', e⟩ := w.fresh_upd (o := .lst vs) hp
  exact q _ _ π g w' (.lst (.of e) (dpsSame g.ex h))

/-! ### + on lists that are read -/
theorem lim_eq : lim = sizeLine := by rw [sizeLine_eq]; rfl
theorem op_catL {a b : Addr} {xs ys : List V} {Q : VK} (ha : SqL X.K H a xs) (hb : SqL X.K H b ys) (hz : xs.length + ys.length ≤ sizeLine) (q : ∀ p, H p = none → Q (.ref p) (upd H p (.lst (xs ++ ys)))) : tV2 X (binaryOp .Add) σ (.ref a) (.ref b) H Q := by
  intro pins s v u I ra rb
  cases ra
  cases rb
  obtain ⟨its, r1, p1, z1⟩ := I.list ha
  obtain ⟨its2, r2, p2, z2⟩ := I.list hb
  obtain ⟨⟨c1, d1, e1, l1⟩, n1, h1, k1, _, t1⟩ := p1
  obtain ⟨⟨c2, d2, e2, l2⟩, n2, h2, k2, _, t2⟩ := p2
  simp only at k1 t1 k2 t2
  subst k1 t1 k2 t2
  have y1 := r1.length
  have y2 := r2.length
  have ea : its.toArray ++ its2.toArray = (its ++ its2).toArray := by simp
  refine concat_meets ⟨_, h1, rfl⟩ ⟨_, h2, rfl⟩ noFill_list_add seq_list_add PySem.F.slot_list_add PySem.F.entry_list_add (PySem.F.args_list_add_2 _ _) (list_addW a b its.toArray its2.toArray n1 n2 d1 d2 l1 l2 (by rw [List.size_toArray, List.size_toArray]; omega)) ⟨h1, h2, ?_⟩
  rw [ea]
  exact ⟨.ref _, _, I.lnew (t' := s.toks) (r1.append r2) (by rw [List.length_append]; omega), rfl, q _ I.fresh⟩

def Bop.op : Bop → Operator
  | .add => .Add
  | .sub => .Sub
  | .mul => .Mult
  | .fdiv => .FloorDiv
  | .mod => .Mod
  | .pow => .Pow
theorem ot_bin (hn : X.calm = true) {op : Bop} {a b : V} {p q r : PyData} (w : Wd X.K H π M) (ha : Vw X.K H π a p) (hb : Vw X.K H π b q) (e : binD op p q = some r) {Q : VK} (k : Mk1 X H π M r Q) : tV2 X (binaryOp op.op) σ a b H Q := by
  cases op with
  | add =>
    cases p with
    | int i =>
      cases q with
      | int j => cases e; cases ha.int; cases hb.int; exact tV2_of op_add ⟨i, j, rfl, rfl, k.int w⟩
      | _ => simp [binD] at e
    | str i =>
      cases q with
      | str j =>
        simp only [binD] at e
        split at e
        · rename_i hz
          cases e; cases ha.str; cases hb.str
          exact tV2_of op_add_str ⟨i, j, rfl, rfl, by rw [← lim_eq]; exact hz, k.str w⟩
        · cases e
      | _ => simp [binD] at e
    | tuple i =>
      cases q with
      | tuple j =>
        simp only [binD] at e
        split at e
        · rename_i hz
          cases e
          obtain ⟨x, xs, rfl, h1, h1', h2⟩ := ha.tup
          obtain ⟨y, ys, rfl, g1, g1', g2⟩ := hb.tup
          have l1 := h2.len
          have l2 := g2.len
          refine tV2_of op_catA ⟨x, y, xs, ys, rfl, rfl, h1, g1, by rw [← lim_eq]; omega, fun z => ?_, fun z1 z2 => ?_, fun z1 z2 => k.tup w (h2.app g2)⟩
          · subst z
            cases h2
            exact k.old w (.tup g1' g2)
          · subst z2
            cases g2
            rw [List.append_nil] at k
            exact k.old w (.tup h1' h2)
        · cases e
      | _ => simp [binD] at e
    | list i =>
      cases q with
      | list j =>
        simp only [binD] at e
        split at e
        · rename_i hz
          cases e
          obtain ⟨x, xs, rfl, h1, h2⟩ := ha.lst
          obtain ⟨y, ys, rfl, g1, g2⟩ := hb.lst
          have l1 := h2.len
          have l2 := g2.len
          exact op_catL h1 g1 (by rw [← lim_eq]; omega) (k.lst w (h2.app g2))
        · cases e
      | _ => simp [binD] at e
    | _ => simp [binD] at e
  | sub =>
    cases p with
    | int i =>
      cases q with
      | int j => cases e; cases ha.int; cases hb.int; exact tV2_of op_sub ⟨i, j, rfl, rfl, k.int w⟩
      | _ => simp [binD] at e
    | _ => simp [binD] at e
  | mul =>
    unfold binD at e
    split at e <;> try cases e
    all_goals rename_i h0
    all_goals try cases h0
    · split at e
      · rename_i hz
        cases e; cases ha.int; cases hb.int
        exact tV2_of op_mul ⟨_, _, rfl, rfl, hz, k.int w⟩
      · cases e
    · cases hb.int
      obtain ⟨x, xs, rfl, h1, h1', h2⟩ := ha.tup
      cases h2 with
      | cons a0 r0 =>
        cases r0
        refine tV2_of op_repT ⟨x, 5, _, rfl, rfl, h1, by simp, by decide, by decide, by simp, ?_⟩
        exact k.tup w (.cons a0 (.cons a0 (.cons a0 (.cons a0 (.cons a0 .nil)))))
  | fdiv =>
    cases p with
    | int i =>
      cases q with
      | int j =>
        simp only [binD] at e
        split at e
        · rename_i hz
          cases e; cases ha.int; cases hb.int
          exact tV2_of op_fdiv ⟨i, j, rfl, rfl, hz, k.int w⟩
        · cases e
      | _ => simp [binD] at e
    | _ => simp [binD] at e
  | mod =>
    cases p with
    | int i =>
      cases q with
      | int j =>
        simp only [binD] at e
        split at e
        · rename_i hz
          cases e; cases ha.int; cases hb.int
          exact tV2_of op_mod ⟨i, j, rfl, rfl, hz, k.int w⟩
        · cases e
      | _ => simp [binD] at e
    | _ => simp [binD] at e
  | pow =>
    unfold binD at e
    split at e <;> try cases e
    all_goals rename_i h0
    all_goals try cases h0
    split at e
    · rename_i hz
      cases e; cases ha.int; cases hb.int
      exact tV2_of op_pow ⟨10, _, rfl, rfl, ⟨hz.1, by omega, by decide⟩, k.int w⟩
    · cases e
end
end K75

set_option Elab.async false
set_option linter.all false
set_option autoImplicit false
set_option maxRecDepth 100000
set_option maxHeartbeats 1000000
/-! Part 6: comparisons, isinstance, subscripts. -/
namespace K75
open PySem PySem.Spec PyProof.Rows L2
section
variable {X : Cx} {σ : L2.St} {H : Hp} {π : Pl} {M : Sto}
def Cop.op : Cop → CmpOp
  | .eq => .Eq
  | .ne => .NotEq
  | .lt => .Lt
  | .le => .LtE
  | .gt => .Gt
  | .ge => .GtE
  | .isIn => .In
  | .notIn => .NotIn
  | .is_ => .Is
theorem op_inT (hu : X.A.units + 65 < cLine) {neg : Bool} {a b : V} {d : PyData} {ds : List PyData} {Q : VK} (hd : Dp X.K H a d) (he : Dp X.K H b (.tuple ds)) (sd : SeqAt.shaped d = true) (se : SeqAt.shaped (.tuple ds) = true)
    (q : Q (.bl (if neg then !hasIn d ds else hasIn d ds)) H) : tV2 X (compareOp (if neg then .NotIn else .In)) σ a b H Q := by
  intro pins s v u I rx ry
  obtain ⟨as, r1⟩ := Dp.reads I d a v hd rx
  obtain ⟨bs, r2⟩ := Dp.reads I (.tuple ds) b u he ry
  cases neg with
  | false => exact SeqAt.in_tuple_reads r2 r1 (SeqAt.canLay_of_shaped se) (SeqAt.canLay_of_shaped sd) (room_in_shaped sd hu) ⟨.bl _, H, I, rfl, q⟩
  | true => exact SeqAt.notIn_tuple_reads r2 r1 (SeqAt.canLay_of_shaped se) (SeqAt.canLay_of_shaped sd) (room_in_shaped sd hu) ⟨.bl _, H, I, rfl, q⟩
theorem op_ltD (hu : X.A.units + 65 < cLine) {a b : V} {d e : PyData} {Q : VK} (hd : Dp X.K H a d) (he : Dp X.K H b e) (al : PySem.W.alike d e = true) (nn : d ≠ .none) (dp : d.depth ≤ 64)
    (q : Q (.bl (PySem.W.dataLt d e)) H) : tV2 X (compareOp .Lt) σ a b H Q := by
  intro pins s v u I rx ry
  obtain ⟨as, r1⟩ := Dp.reads I d a v hd rx
  obtain ⟨bs, r2⟩ := Dp.reads I e b u he ry
  exact PySem.W.rcLt_alike d e X.A s v u as bs r1 r2 al nn (by have := Nat.min_le_left d.depth e.depth; omega) _ _ _ _ ⟨.bl _, H, I, rfl, q⟩
theorem rv_none {K : PySem.W.Frag} {v : V} {p : PyData} (h : Vw K H π v p) : decide (v = .non) = (match p with | .none => true | _ => false) := by
  rcases h with h | ⟨a, vs, xs, rfl, rfl, h1, h2⟩
  · cases h <;> simp
  · simp
theorem ot_cmp (hu : X.A.units + 65 < cLine) {op : Cop} {a b : V} {p q : PyData} {r : Bool} (w : Wd X.K H π M) (ha : Vw X.K H π a p) (hb : Vw X.K H π b q) (e : cmpD op p q = some r) {Q : VK} (k : Q (.bl r) H) : tV2 X (compareOp op.op) σ a b H Q := by
  cases op with
  | eq =>
    simp only [cmpD] at e
    split at e
    · rename_i hs
      rw [Bool.and_eq_true] at hs
      cases e
      exact tV2_of (op_eqD (by omega)) ⟨p, q, ha.dp, hb.dp, hs.1, hs.2, k⟩
    · cases e
  | ne =>
    simp only [cmpD] at e
    split at e
    · rename_i hs
      rw [Bool.and_eq_true] at hs
      cases e
      exact tV2_of (op_neD (by omega)) ⟨p, q, ha.dp, hb.dp, hs.1, hs.2, k⟩
    · cases e
  | lt =>
    cases p with
    | int i =>
      cases q with
      | int j => cases e; cases ha.int; cases hb.int; exact tV2_of op_lt ⟨i, j, rfl, rfl, k⟩
      | _ => simp [cmpD] at e
    | str i =>
      cases q with
      | str j => cases e; cases ha.str; cases hb.str; exact tV2_of op_lt_str ⟨i, j, rfl, rfl, k⟩
      | _ => simp [cmpD] at e
    | tuple i =>
      cases q with
      | tuple j =>
        simp only [cmpD] at e
        split at e
        · rename_i hs
          rw [Bool.and_eq_true, decide_eq_true_eq] at hs
          cases e
          exact op_ltD hu ha.dp hb.dp hs.1 (fun z => by cases z) hs.2 k
        · cases e
      | _ => simp [cmpD] at e
    | _ => simp [cmpD] at e
  | le =>
    cases p with
    | int i =>
      cases q with
      | int j => cases e; cases ha.int; cases hb.int; exact tV2_of op_le ⟨i, j, rfl, rfl, k⟩
      | _ => simp [cmpD] at e
    | _ => simp [cmpD] at e
  | gt =>
    cases p with
    | int i =>
      cases q with
      | int j => cases e; cases ha.int; cases hb.int; exact tV2_of op_gt ⟨i, j, rfl, rfl, k⟩
      | _ => simp [cmpD] at e
    | _ => simp [cmpD] at e
  | ge =>
    cases p with
    | int i =>
      cases q with
      | int j => cases e; cases ha.int; cases hb.int; exact tV2_of op_ge ⟨i, j, rfl, rfl, k⟩
      | _ => simp [cmpD] at e
    | _ => simp [cmpD] at e
  | isIn =>
    unfold cmpD at e
    split at e <;> try cases e
    all_goals try (exfalso; exact absurd (by assumption : Cop.isIn = Cop.is_) (by decide))
    all_goals rename_i h0
    all_goals try cases h0
    · cases ha.str; cases hb.str
      exact tV2_of op_in_sign ⟨_, _, rfl, rfl, k⟩
    · split at e
      · rename_i hs
        rw [Bool.and_eq_true] at hs
        cases e
        exact op_inT (neg := false) hu ha.dp hb.dp hs.1 hs.2 k
      · cases e
    · split at e
      · rename_i hs
        rw [Bool.and_eq_true] at hs
        cases e
        exact tV2_of (op_inD hu) ⟨_, _, ha.dp, hb.dp, hs.1, hs.2, k⟩
      · cases e
  | notIn =>
    unfold cmpD at e
    split at e <;> try cases e
    all_goals try (exfalso; exact absurd (by assumption : Cop.notIn = Cop.is_) (by decide))
    all_goals rename_i h0
    all_goals try cases h0
    · cases ha.str; cases hb.str
      exact tV2_of op_notIn_sign ⟨_, _, rfl, rfl, k⟩
    · split at e
      · rename_i hs
        rw [Bool.and_eq_true] at hs
        cases e
        exact op_inT (neg := true) hu ha.dp hb.dp hs.1 hs.2 k
      · cases e
    · split at e
      · rename_i hs
        rw [Bool.and_eq_true] at hs
        cases e
        exact tV2_of (op_notInD hu) ⟨_, _, ha.dp, hb.dp, hs.1, hs.2, k⟩
      · cases e
  | is_ =>
    have z := rv_none ha
    cases q with
    | none =>
      rcases hb with hb | ⟨_, _, _, _, h, _⟩
      · cases hb
        refine tV2_of op_isN ⟨rfl, ?_⟩
        rw [z]
        cases p <;> (simp only [cmpD] at e; cases e; exact k)
      · cases h
    | _ => cases p <;> simp [cmpD] at e
end
end K75

set_option Elab.async false
set_option linter.all false
set_option autoImplicit false
set_option maxRecDepth 100000
set_option maxHeartbeats 1000000
/-! Part 7: isinstance, subscripts, slices. -/
namespace K75
open PySem PySem.Spec PyProof.Rows L2
section
variable {X : Cx} {σ : L2.St} {H : Hp} {π : Pl} {M : Sto}
theorem twC_of {f : Value} {r : List V → Hp → VK → Prop} (h : CallR X f r) {vs : List V} {Q : VK} (q : r vs H Q) : twC X f σ vs H Q := fun pins s us I rv => h pins s σ H vs us Q I rv q
def Ty.nm : Ty → String
  | .bool => "bool"
  | .int => "int"
  | .str => "str"
  | .tuple => "tuple"
def dTy : PyData → String
  | .none => "NoneType"
  | .bool _ => "bool"
  | .int _ => "int"
  | .str _ => "str"
  | .list _ => "list"
  | .tuple _ => "tuple"
  | .dict _ => "dict"
theorem dTy_kit (K : PySem.W.Frag) (d : PyData) (t : Ty) : PySem.W.kitOne K (.type (dTy d)) (.type t.nm) = some (isiD d t) := by
  cases d <;> cases t <;> first | rfl | decide +kernel
theorem tyX_of {K : PySem.W.Frag} {v : V} {d : PyData} (h : Vw K H π v d) : TyX K H v (.type (dTy d)) := by
  rcases h with h | ⟨a, vs, xs, rfl, rfl, h1, h2⟩
  · have h := dpSame (hid_same (H := H) (π := π)) h
    cases h with
    | non => exact .base .non
    | bl b => exact .base (.bl b)
    | int b => exact .base (.int b)
    | str b => exact .base (.str b)
    | lst s r =>
      rcases s with (s | ⟨o, s⟩) | ⟨o, its, n, h1, h2, _⟩
      · exact .base (.lst s)
      · exact .base (.frz s)
      · exact .kList h1 h2
    | tup s r =>
      rcases s with (s | ⟨o, s⟩) | ⟨o, its, n, h1, h2, _⟩
      · exact .base (.tup s)
      · exact .fTuple s
      · exact .kTuple h1 h2
  · exact .base (.lst h1)
theorem ot_isi {a : V} {p : PyData} (ha : Vw X.K H π a p) (t : Ty) {Q : VK} (k : Q (.bl (isiD p t)) H) : twC X (.builtin "isinstance") σ [a, .ty t.nm] H Q :=
  twC_of call_isi ⟨a, .ty t.nm, .type (dTy p), .type t.nm, isiD p t, rfl, .ty t.nm, tyX_of ha, dTy_kit X.K p t, k⟩

/-! ### subscripts -/
def tIx (X : Cx) (b : Expr) (σ : L2.St) (x y : V) (H : Hp) (Q : VK) : Prop := ∀ (value : Expr) (pins : List (Addr × Obj)) (s : Shared) (v u : Value), Inv X pins σ H s → RelV x v → RelV y u →
    subscripted b false v u = operate [v, u] (getItem v u) → wpAny (model X.prog X.w) X.A (subscriptTail value b v u) (EP X pins σ Q) X.xe s
theorem tIx_of {b : Expr} {r : R2} (h : IxR X r) {x y : V} {Q : VK} (q : r x y H Q) : tIx X b σ x y H Q := fun value pins s v u I rx ry hs => h value b pins s σ H x y v u Q I rx ry q hs
theorem ot_ix {e : Expr} {a b : V} {p q r : PyData} (w : Wd X.K H π M) (ha : Vw X.K H π a p) (hb : Dp X.K (hid H π) b q) (e1 : ixD p q = some r) {Q : VK} (k : Mk1 X H π M r Q) : tIx X e σ a b H Q := by
  cases q with
  | int i =>
    cases hb
    cases p with
    | tuple xs =>
      simp only [ixD] at e1
      split at e1
      · rename_i h0
        obtain ⟨x, vs, rfl, h1, h1', h2⟩ := ha.tup
        obtain ⟨v, e2, h3⟩ := h2.at' e1
        have z := atI_nat e2
        rw [Int.toNat_of_nonneg h0] at z
        exact tIx_of ix_tup ⟨x, vs, i, v, rfl, rfl, h1, z, k.old w h3⟩
      · cases e1
    | list xs =>
      simp only [ixD] at e1
      split at e1
      · rename_i h0
        obtain ⟨x, vs, rfl, h1, h2⟩ := ha.lst
        obtain ⟨v, e2, h3⟩ := h2.at' e1
        have z := atI_nat e2
        rw [Int.toNat_of_nonneg h0] at z
        exact tIx_of ix_list ⟨x, vs, i, v, rfl, rfl, h1, z, k.old w h3⟩
      · cases e1
    | str z =>
      simp only [ixD] at e1
      split at e1
      · rename_i h0
        split at e1
        · rename_i c hc
          cases e1
          cases ha.str
          have z := atI_nat hc
          rw [Int.toNat_of_nonneg h0.1] at z
          exact tIx_of ix_str ⟨_, i, c, rfl, rfl, by rw [← lim_eq]; exact h0.2, z, k.str w⟩
        · cases e1
      · cases e1
    | _ => simp [ixD] at e1
  | _ => cases p <;> simp [ixD] at e1

/-! ### slices -/
def tSlv (X : Cx) (e slice : Expr) (σ : L2.St) (x : V) (lo hi : Option Int) (H : Hp) (Q : VK) : Prop := ∀ (pins : List (Addr × Obj)) (s : Shared) (v vl vu : Value) (sl : Addr), Inv X pins σ H s → RelV x v → s.heap.IsSliceOf sl vl vu .none → IsPart vl lo → IsPart vu hi →
    ∃ T id, typeLookup (.type T) "__getitem__" = pure (some (.builtin id)) ∧ s.TypeIs v T ∧ wpAny (model X.prog X.w) X.A (getItem v (.ref sl)) (EP X pins σ Q) X.xe s
theorem sIx_lo {n j : Nat} : HT.sIx n 0 (some (j : Int)) = min j n := by simp [HT.sIx]; omega
theorem sIx_hi {n j : Nat} : HT.sIx n n (some (j : Int)) = min j n := by simp [HT.sIx]; omega
theorem cut_to {vs : List V} {j : Nat} : cutV vs none (some (j : Int)) = vs.take j := by
  have e1 : HT.sIx vs.length 0 none = 0 := rfl
  have e2 : HT.sIx vs.length vs.length (some (j : Int)) = min j vs.length := by simp [HT.sIx]; omega
  unfold cutV
  rw [e1, e2, List.drop_zero, Nat.sub_zero, List.take_eq_take_iff]
  omega
theorem cut_from {vs : List V} {j : Nat} : cutV vs (some (j : Int)) none = vs.drop j := by
  have e1 : HT.sIx vs.length vs.length none = vs.length := rfl
  unfold cutV
  rw [e1, sIx_lo]
  by_cases h : j ≤ vs.length
  · rw [Nat.min_eq_left h, List.take_of_length_le (by rw [List.length_drop]; omega)]
  · rw [Nat.min_eq_right (by omega), Nat.sub_self, List.take_zero, List.drop_eq_nil_of_le (by omega)]
theorem tSlv_of {r : V → Option Int → Option Int → Hp → VK → Prop} (h : SlR X r) {e slice : Expr} {x : V} {lo hi : Option Int} {Q : VK} (q : r x lo hi H Q) : tSlv X e slice σ x lo hi H Q := fun pins s v vl vu sl I rx hs pl pu => h pins s σ H x v vl vu lo hi sl Q I rx hs pl pu q
theorem ot_slTo {e slice : Expr} {a b : V} {p q r : PyData} (w : Wd X.K H π M) (ha : Dp X.K (hid H π) a p) (hb : Dp X.K (hid H π) b q) (e1 : toSlD p q = some r) {Q : VK} (k : Mk1 X H π M r Q) : ∃ i, b = .int i ∧ tSlv X e slice σ a none (some i) H Q := by
  cases q with
  | int i =>
    cases hb
    refine ⟨i, rfl, ?_⟩
    cases p with
    | tuple xs =>
      simp only [toSlD] at e1
      split at e1
      · rename_i h0
        cases e1
        obtain ⟨x, vs, rfl, h1, h1', h2⟩ := (show Vw X.K H π a _ from .inl ha).tup
        refine tSlv_of sl_tupA ⟨x, vs, rfl, h1, fun hw => ?_, fun _ => ?_⟩
        · have hj : vs.length ≤ i.toNat := by
            have h3 := hw.2
            rw [← Int.toNat_of_nonneg h0] at h3
            rw [sIx_hi] at h3
            omega
          refine k.old w ?_
          rw [List.take_of_length_le (by rw [← h2.len]; exact hj)]
          exact .tup h1' h2
        · have e2 : cutV vs none (some i) = vs.take i.toNat := by
            have := cut_to (vs := vs) (j := i.toNat)
            rw [Int.toNat_of_nonneg h0] at this
            exact this
          rw [e2]
          exact k.tup w (h2.take' _)
      · cases e1
    | _ => simp [toSlD] at e1
  | _ => cases p <;> simp [toSlD] at e1
theorem ot_slFrom {e slice : Expr} {a b : V} {p q r : PyData} (w : Wd X.K H π M) (ha : Dp X.K (hid H π) a p) (hb : Dp X.K (hid H π) b q) (e1 : fromSlD p q = some r) {Q : VK} (k : Mk1 X H π M r Q) : ∃ i, b = .int i ∧ tSlv X e slice σ a (some i) none H Q := by
  cases q with
  | int i =>
    cases hb
    refine ⟨i, rfl, ?_⟩
    cases p with
    | tuple xs =>
      simp only [fromSlD] at e1
      split at e1
      · rename_i h0
        cases e1
        obtain ⟨x, vs, rfl, h1, h1', h2⟩ := (show Vw X.K H π a _ from .inl ha).tup
        refine tSlv_of sl_tupA ⟨x, vs, rfl, h1, fun hw => ?_, fun _ => ?_⟩
        · have hj : i.toNat = 0 ∨ vs.length = 0 := by
            have h3 := hw.1
            rw [← Int.toNat_of_nonneg h0, sIx_lo] at h3
            omega
          refine k.old w ?_
          rcases hj with hj | hj
          · rw [hj, List.drop_zero]; exact .tup h1' h2
          · have hv : vs = [] := List.length_eq_zero_iff.mp hj
            subst hv
            cases h2
            rw [List.drop_nil]; exact .tup h1' .nil
        · have e2 : cutV vs (some i) none = vs.drop i.toNat := by
            have := cut_from (vs := vs) (j := i.toNat)
            rw [Int.toNat_of_nonneg h0] at this
            exact this
          rw [e2]
          exact k.tup w (h2.drop' _)
      · cases e1
    | _ => simp [fromSlD] at e1
  | _ => cases p <;> simp [fromSlD] at e1
end
end K75

set_option Elab.async false
set_option linter.all false
set_option autoImplicit false
set_option maxRecDepth 100000
set_option maxHeartbeats 1000000
/-! Part 8: sorted of a list or a tuple of tuples. -/
namespace K75
open PySem PySem.Spec PyProof.Rows L2
section
variable {X : Cx} {σ : L2.St} {H : Hp} {π : Pl} {M : Sto}
/-- what a python value stands for -/
def Stands (K : PySem.W.Frag) (Hd : Hp) (u : Value) (d : PyData) : Prop := ∃ x, RelV x u ∧ Dp K Hd x d
theorem stands_of {K : PySem.W.Frag} {Hd : Hp} : ∀ {vs : List V} {us : List Value} {ds : List PyData}, Vals vs us → DpAll K Hd vs ds → PySem.W.EachIs (Stands K Hd) us ds
  | _, _, _, .nil, .nil => .nil
  | _, _, _, .cons r t, .cons d e => .cons ⟨_, r, d⟩ (stands_of t e)
theorem stands_to {K : PySem.W.Frag} {Hd : Hp} : ∀ {us : List Value} {ds : List PyData}, PySem.W.EachIs (Stands K Hd) us ds → ∃ vs, Vals vs us ∧ DpAll K Hd vs ds
  | _, _, .nil => ⟨[], .nil, .nil⟩
  | _, _, .cons ⟨x, r, d⟩ t => by
    obtain ⟨vs, h1, h2⟩ := stands_to t
    exact ⟨x :: vs, .cons r h1, .cons d h2⟩
theorem reads_of {pins : List (Addr × Obj)} {s : Shared} (I : Inv X pins σ H s) {Hd : Hp} (hs : Same Hd H) : ∀ {vs : List V} {us : List Value} {ds : List PyData}, Vals vs us → DpAll X.K Hd vs ds → PySem.W.EachIs (fun v d => ∃ as, Reads s.heap v d as) us ds
  | _, _, _, .nil, .nil => .nil
  | _, _, _, .cons r t, .cons d e => .cons (Dp.reads I _ _ _ (dpSame hs d) r) (reads_of I hs t e)
theorem sortable_alike {ds : List PyData} (h : sortable ds = true) : PySem.W.AllAlike ds := by
  unfold sortable at h
  rw [Bool.and_eq_true] at h
  intro d hd d' hd'
  exact List.all_eq_true.mp (List.all_eq_true.mp h.2 d hd) d' hd'
theorem sortable_depth {ds : List PyData} (h : sortable ds = true) {d : PyData} (hd : d ∈ ds) : d.depth ≤ 64 := by
  unfold sortable at h
  rw [Bool.and_eq_true] at h
  have z := List.all_eq_true.mp h.1 d hd
  rw [Bool.and_eq_true, decide_eq_true_eq] at z
  exact z.2
theorem sortable_tup {ds : List PyData} (h : sortable ds = true) {d : PyData} (hd : d ∈ ds) : ∃ x r, d = .tuple (x :: r) := by
  unfold sortable at h
  rw [Bool.and_eq_true] at h
  have z := List.all_eq_true.mp h.1 d hd
  rw [Bool.and_eq_true] at z
  cases d with
  | tuple xs =>
    cases xs with
    | nil => exact absurd z.1 (by simp [tupleish])
    | cons x r => exact ⟨x, r, rfl⟩
  | _ => exact absurd z.1 (by simp [tupleish])
theorem not_mem_reads {h h' : Heap} (k : ∀ b o, h.get? b = some o → h'.get? b = some o) : ∀ {us : List Value} {ds : List PyData}, PySem.W.EachIs (fun v d => ∃ as, Reads h v d as) us ds → PySem.W.EachIs (fun v d => ∃ as, Reads h' v d as) us ds := fun e =>
  e.mono fun _ _ ⟨as, r⟩ => ⟨as, PyProof.Rows.Reads.keeps k r⟩
theorem op_sorted (hu : X.A.units + 100 < cLine) {l : Addr} {vs : List V} {ds : List PyData} (hs : SqL X.K H l vs ∨ SqT X.K H l vs) (h2 : DpAll X.K (hid H π) vs ds) (so : sortable ds = true) (w : Wd X.K H π M) {Q : VK}
    (k : Mk1 X H π M (.list (ds.mergeSort (PySem.W.dataLe false id))) Q) : twC X (.builtin "sorted") σ [.ref l] H Q := by
  intro pins s us I rv
  rw [Vals.ref1 rv]
  obtain ⟨its, r, ob, T, n, hT, ho, hc, hd, hz⟩ : ∃ (its : List Value) (_ : Vals vs its) (ob : Obj) (T : String) (n : Nat), (T = "list" ∨ T = "tuple") ∧ s.heap.get? l = some ob ∧ ob.cls = .type T ∧ ob.data = .seq its.toArray n ∧ its.length ≤ sizeLine := by
    rcases hs with hs | hs
    · obtain ⟨its, r, ⟨o, n, h1, h2, _, h3⟩, hz⟩ := I.list hs
      exact ⟨its, r, o, "list", n, .inl rfl, h1, h2, h3, by rw [← r.length]; exact hz⟩
    · obtain ⟨its, r, ⟨o, h1, h2, n, h3⟩, hz⟩ := I.tuple hs
      exact ⟨its, r, o, "tuple", n, .inr rfl, h1, h2, h3, by rw [← r.length]; exact hz⟩
  have el : its.length = ds.length := by rw [← r.length, h2.len]
  refine Calls.call_function_entry kind_sorted plain_sorted entry_sorted (args_sorted1 _) ?_
  unfold Builtin.«sorted»
  refine wpAny_bind (m := checkCount "sorted" 1 1 _) (wpAny_pure ?_)
  refine wpAny_bind (wpAny_collect_seq l hT ho hc hd (fun h' k' => ?_) (by simpa using hz))
  refine wpAny_bind (wpAny_newList ?_ (by simpa using hz))
  have hat : (h'.push (seqObj "list" its.toArray 0)).get? h'.objs.size = some (seqObj "list" its.toArray 0) := Heap.get?_push_size _ rfl
  have er : PySem.W.EachIs (fun v d => ∃ as, Reads h' v d as) its ds := not_mem_reads k' (reads_of I hid_same r h2)
  have er2 : PySem.W.EachIs (fun v (b : PyData) => ∃ as, Reads (h'.push (seqObj "list" its.toArray 0)) v (id b) as ∧ h'.objs.size ∉ as) its ds := er.mono fun v d ⟨as, q⟩ =>
    ⟨as, PyProof.Rows.Reads.keeps (fun _ _ e => Heap.get?_push_of_some _ e) q, fun z => by obtain ⟨o, e⟩ := PyProof.On.reads_mem_get q _ z; exact Nat.lt_irrefl _ (Heap.lt_size e)⟩
  refine wpAny_bind (wpAny_holding (PySem.W.list_sort_data (R := Stands X.K (hid H π)) (enc := id) (s := { s with heap := h'.push (seqObj "list" its.toArray 0) }) hat (stands_of r h2) er2 (by rw [List.map_id]; exact sortable_alike so)
    (by rw [List.map_id]; exact .inl fun d hd => sortable_tup so hd) (by rw [← el]; exact hz) (fun b hb => ?_) fun out hl eo => ?_))
  · have := sortable_depth so hb
    show X.A.units + 1 + 1 + b.depth < cLine
    omega
  · refine wpAny_pure ⟨_, rfl, ?_⟩
    obtain ⟨ws, rw', dw⟩ := stands_to eo
    have z := k.lst w dw
    obtain ⟨ep, he⟩ := sortedHeap_at (vs := its) (out := out.toArray) hat
    have I1 : Inv X pins σ H { s with heap := h' } := I.kept (t' := s.toks) k'
    have k3 : ∀ b o, h'.get? b = some o → (sortedHeap (h'.push (seqObj "list" its.toArray 0)) h'.objs.size its out.toArray).get? b = some o := fun b o e1 => by
      have e2 := Heap.lt_size e1
      rw [sortedHeap_old (Nat.ne_of_lt e2) (by rw [size_push']; exact Nat.lt_succ_of_lt e2)]
      exact Heap.get?_push_of_some _ e1
    have hlen : ws.length ≤ sizeLine := by rw [rw'.length, hl, ← el]; exact hz
    exact ⟨.ref h'.objs.size, upd H h'.objs.size (.lst ws), I1.laid (t' := s.toks) k3 (Nat.le_refl _) ⟨hlen, out, ep, rw', he⟩, rfl, z _ (I1.hok.fresh (Nat.le_refl _))⟩
end
end K75

set_option Elab.async false
set_option linter.all false
set_option autoImplicit false
set_option maxRecDepth 100000
set_option maxHeartbeats 1000000
/-! Part 9: max of a list of tuples; repr of data. -/
namespace K75
open PySem PySem.Spec PyProof.Rows L2
section
variable {X : Cx} {σ : L2.St} {H : Hp} {π : Pl} {M : Sto}
theorem maxFrom_eq : ∀ (b : PyData) (xs : List PyData), maxFrom b xs = PySem.W.maxD b xs
  | b, [] => rfl
  | b, x :: r => by
    show maxFrom (if PySem.W.dataLt b x then x else b) r = _
    rw [maxFrom_eq]
    rfl
theorem depthAll_le : ∀ {ds : List PyData} {n : Nat}, (∀ d ∈ ds, d.depth ≤ n) → PyData.depthAll ds ≤ n
  | [], _, _ => by simp [PyData.depthAll]
  | d :: r, n, h => by
    have h1 := h d List.mem_cons_self
    have h2 := depthAll_le (ds := r) fun d hd => h d (List.mem_cons_of_mem _ hd)
    simp only [PyData.depthAll]
    omega
theorem op_max (hc : X.calm = true) (hu : X.A.units + 100 < cLine) {l : Addr} {vs : List V} {x : PyData} {ds : List PyData} (hs : SqL X.K H l vs) (h2 : DpAll X.K (hid H π) vs (x :: ds)) (so : sortable (x :: ds) = true) (w : Wd X.K H π M) {Q : VK}
    (k : Mk1 X H π M (maxFrom x ds) Q) : twC X (.builtin "max") σ [.ref l] H Q := by
  intro pins s us I rv
  rw [Vals.ref1 rv]
  obtain ⟨its, r, hl, hz⟩ := I.list hs
  have er := reads_of I hid_same r h2
  obtain ⟨as, hr⟩ := PySem.W.each_readsAll (h := s.heap) id (vs := its) (bs := x :: ds) er
  rw [List.map_id] at hr
  have hr : ReadsAll s.heap its.toArray.toList (x :: ds) as := by simpa using hr
  have ha : PySem.W.AlikeAll (x :: ds) := ⟨sortable_alike so, fun d hd => by
    obtain ⟨_, _, rfl⟩ := sortable_tup so hd
    exact fun z => nomatch z⟩
  have hd : PyData.depthAll (x :: ds) ≤ 64 := depthAll_le fun d hd => sortable_depth so hd
  have hn : its.toArray.size = ds.length + 1 := PySem.W.readsAll_len hr
  refine PySem.call_max_walkH (PySem.W.iter_listW (A := X.A.in1) (I.ok.hd hc) hl.isList fun s₂ e W st hfp hw hk => ?_)
  refine ⟨_, _, _, _, _, _, _, s.heap, _, rfl, W, st, hfp, by omega, hw, hk, PySem.W.cmpIn_gt (A := X.A.in1) hr ha (by show X.A.units + 1 + _ < _; omega), fun v s' hP m => ?_⟩
  obtain ⟨h', tk, rfl, hk'⟩ := PySem.W.moved_old e rfl m
  have e1 : its.toArray.size - 1 = ds.length := by omega
  rw [e1] at hP
  obtain ⟨e3, e2⟩ := PySem.W.argBest_fold (fun a b => PySem.W.dataLt b a) PyData.none x ds ds.length (Nat.le_refl _)
  rw [List.take_length] at e2
  generalize PySem.argBest (fun i j => PySem.W.dataLt ((x :: ds).getD j .none) ((x :: ds).getD i .none)) ds.length = bi at hP e2 e3
  have hv : its[bi]? = some v := by simpa using hP
  have ha : bi < (x :: ds).length := by rw [List.length_cons]; omega
  obtain ⟨xv, ex, dx⟩ := h2.at' (List.getElem?_eq_getElem ha)
  obtain ⟨v2, ev, rx⟩ := r.get ex
  rw [hv] at ev
  cases ev
  have ed : (x :: ds)[bi] = maxFrom x ds := by
    rw [maxFrom_eq]
    unfold PySem.W.maxD
    rw [← e2, List.getD_eq_getElem?_getD, List.getElem?_eq_getElem ha]
    rfl
  rw [ed] at dx
  exact ⟨xv, H, I.kept hk', rx, k.old w dx⟩
/-- repr(x), x a tuple -/
theorem op_repr (hu : X.A.units + 100 < cLine) (g0 : X.A.guards = some []) {v : V} {d : PyData} (hd : Dp X.K (hid H π) v d) (sh : showsD d = true) (w : Wd X.K H π M) {Q : VK} (k : Mk1 X H π M (.str d.shown) Q) : twC X (.builtin "repr") σ [v] H Q := by
  intro pins s us I rv
  obtain ⟨u, rfl, ru⟩ := Vals.one rv
  unfold showsD at sh
  rw [Bool.and_eq_true, Bool.and_eq_true, Bool.and_eq_true, Bool.and_eq_true, decide_eq_true_eq, decide_eq_true_eq] at sh
  obtain ⟨⟨⟨⟨h1, h2⟩, h3⟩, h4⟩, h5⟩ := sh
  obtain ⟨as, rd⟩ := Dp.reads I _ _ _ (dpSame hid_same hd) ru
  cases hd with
  | @tup a xs ds s0 r0 =>
    cases ru
    exact repr_of_reads' rd h2 (fun z => absurd z (by simpa using h3)) g0 (by omega) (fun _ _ e => e) (fun h' u tk hk => ⟨.str _, H, I.kept hk, ⟨_, rfl⟩, k.str w⟩) (by rw [← lim_eq]; exact h5)
  | _ => simp [tupleish] at h1
end
end K75

set_option Elab.async false
set_option linter.all false
set_option autoImplicit false
set_option maxRecDepth 100000
set_option maxHeartbeats 1000000
/-! Part 10: the builtins, the methods of builtin types. -/
namespace K75
open PySem PySem.Spec PyProof.Rows L2
inductive VwAll (K : PySem.W.Frag) (H : Hp) (π : Pl) : List V → List PyData → Prop
  | nil : VwAll K H π [] []
  | cons {v : V} {d : PyData} {vs : List V} {ds : List PyData} : Vw K H π v d → VwAll K H π vs ds → VwAll K H π (v :: vs) (d :: ds)
theorem VwAll.one {K : PySem.W.Frag} {H : Hp} {π : Pl} {vs : List V} {d : PyData} (h : VwAll K H π vs [d]) : ∃ v, vs = [v] ∧ Vw K H π v d := by
  cases h with
  | cons a r => cases r; exact ⟨_, rfl, a⟩
section
variable {X : Cx} {σ : L2.St} {H : Hp} {π : Pl} {M : Sto}
theorem Wd.views {K : PySem.W.Frag} (w : Wd K H π M) : ∀ {vs : List V} {xs : List Val} {ds : List PyData}, RVs K (hid H π) π vs xs → toDs M xs = some ds → VwAll K H π vs ds
  | _, _, _, .nil, e => by cases e; exact .nil
  | _, _, _, .cons a r, e => by
    simp only [toDs] at e
    split at e
    · rename_i d ds e1 e2
      cases e
      exact .cons (w.view a e1) (w.views r e2)
    · cases e
def Bi.fn : Bi → Value
  | .len => .builtin "len"
  | .all => .builtin "all"
  | .any => .builtin "any"
  | .tuple => .type "tuple"
  | .list => .type "list"
  | .sorted => .builtin "sorted"
  | .int => .type "int"
  | .str => .type "str"
  | .repr => .builtin "repr"
  | .ord => .builtin "ord"
  | .abs => .builtin "abs"
  | .max => .builtin "max"
theorem digit_text (c : Nat) (h : 48 ≤ c ∧ c ≤ 57) : PySem.intText? ⟨#[c]⟩ = some ((c : Int) - 48) := by
  have z : ∀ i : Fin 10, PySem.intText? ⟨#[48 + i.val]⟩ = some (((48 + i.val : Nat) : Int) - 48) := by decide +kernel
  have := z ⟨c - 48, by omega⟩
  simp only at this
  rw [show 48 + (c - 48) = c by omega] at this
  exact this
theorem ot_bi (hc : X.calm = true) (hu : X.A.units + 100 < cLine) (g0 : X.A.guards = some []) {b : Bi} {vs : List V} {ds : List PyData} {r : PyData} (w : Wd X.K H π M) (h : VwAll X.K H π vs ds) (e : biD b ds = some r) {Q : VK} (k : Mk1 X H π M r Q) : twC X b.fn σ vs H Q := by
  unfold biD at e
  split at e
  · -- len str
    split at e
    · rename_i hz
      cases e
      obtain ⟨v, rfl, hv⟩ := h.one
      cases hv.str
      exact twC_of call_len_str ⟨_, rfl, by rw [← lim_eq]; exact hz, k.int w⟩
    · cases e
  · cases e
    obtain ⟨v, rfl, hv⟩ := h.one
    obtain ⟨a, ys, rfl, h1, _, h2⟩ := hv.tup
    exact twC_of call_len_seq ⟨a, ys, rfl, .inr h1, by rw [h2.len]; exact k.int w⟩
  · cases e
    obtain ⟨v, rfl, hv⟩ := h.one
    obtain ⟨a, ys, rfl, h1, h2⟩ := hv.lst
    exact twC_of call_len_seq ⟨a, ys, rfl, .inl h1, by rw [h2.len]; exact k.int w⟩
  · split at e
    · rename_i bs hb
      cases e
      obtain ⟨v, rfl, hv⟩ := h.one
      obtain ⟨a, ys, rfl, h1, h2⟩ := hv.lst
      cases dps_bools h2 hb
      exact twC_of (cr_all hc) ⟨a, bs, rfl, h1, k.bl w⟩
    · cases e
  · split at e
    · rename_i bs hb
      cases e
      obtain ⟨v, rfl, hv⟩ := h.one
      obtain ⟨a, ys, rfl, h1, h2⟩ := hv.lst
      cases dps_bools h2 hb
      exact twC_of (cr_any hc) ⟨a, bs, rfl, h1, k.bl w⟩
    · cases e
  · cases e
    obtain ⟨v, rfl, hv⟩ := h.one
    obtain ⟨a, ys, rfl, h1, h2⟩ := hv.lst
    exact twC_of call_tuple_of ⟨a, ys, rfl, .inl ⟨h1, k.tup w h2⟩⟩
  · cases e
    obtain ⟨v, rfl, hv⟩ := h.one
    obtain ⟨a, ys, rfl, h1, h1', h2⟩ := hv.tup
    exact twC_of call_tuple_of ⟨a, ys, rfl, .inr ⟨h1, k.old w (.tup h1' h2)⟩⟩
  · cases e
    obtain ⟨v, rfl, hv⟩ := h.one
    obtain ⟨a, ys, rfl, h1, h2⟩ := hv.lst
    exact twC_of call_list_of ⟨a, ys, rfl, .inl h1, k.lst w h2⟩
  · cases e
    obtain ⟨v, rfl, hv⟩ := h.one
    obtain ⟨a, ys, rfl, h1, h1', h2⟩ := hv.tup
    exact twC_of call_list_of ⟨a, ys, rfl, .inr h1, k.lst w h2⟩
  · split at e
    · rename_i so
      cases e
      obtain ⟨v, rfl, hv⟩ := h.one
      obtain ⟨a, ys, rfl, h1, h2⟩ := hv.lst
      exact op_sorted hu (.inl h1) h2 so w k
    · cases e
  · split at e
    · rename_i so
      cases e
      obtain ⟨v, rfl, hv⟩ := h.one
      obtain ⟨a, ys, rfl, h1, h1', h2⟩ := hv.tup
      exact op_sorted hu (.inr h1) h2 so w k
    · cases e
  · cases e
    obtain ⟨v, rfl, hv⟩ := h.one
    cases hv.int
    exact twC_of call_int1 (.inl ⟨_, rfl, k.int w⟩)
  · split at e
    · rename_i hz
      cases e
      obtain ⟨v, rfl, hv⟩ := h.one
      cases hv.str
      exact twC_of call_int_str ⟨_, _, rfl, digit_text _ hz, by show 1 ≤ 640; decide, k.int w⟩
    · cases e
  · split at e
    · rename_i hz
      cases e
      obtain ⟨v, rfl, hv⟩ := h.one
      cases hv.int
      exact twC_of call_str_int ⟨_, rfl, hz, k.str w⟩
    · cases e
  · split at e
    · rename_i x hz
      cases e
      obtain ⟨v, rfl, hv⟩ := h.one
      have hd : Dp X.K (hid H π) v x := by
        rcases hv with hv | ⟨a, vs, xs, rfl, rfl, h1, h2⟩
        · exact hv
        · simp [showsD, tupleish] at hz
      exact op_repr hu g0 hd hz w k
    · cases e
  · cases e
    obtain ⟨v, rfl, hv⟩ := h.one
    cases hv.str
    exact twC_of call_ord ⟨_, rfl, rfl, k.int w⟩
  · cases e
    obtain ⟨v, rfl, hv⟩ := h.one
    cases hv.int
    exact twC_of call_abs ⟨_, rfl, k.int w⟩
  · split at e
    · rename_i so
      cases e
      obtain ⟨v, rfl, hv⟩ := h.one
      obtain ⟨a, ys, rfl, h1, h2⟩ := hv.lst
      exact op_max hc hu h1 h2 so w k
    · cases e
  · cases e

/-! ### methods of builtin types -/
def twM (X : Cx) (id : String) (σ : L2.St) (x : V) (vs : List V) (H : Hp) (Q : VK) : Prop := ∀ (pins : List (Addr × Obj)) (s : Shared) (v : Value) (us : List Value), Inv X pins σ H s → RelV x v → Vals vs us → wpAny (model X.prog X.w) X.A (PySem.call (.builtin id) (v :: us)) (EP X pins σ Q) X.xe s
theorem twM_of {id : String} {r : V → List V → Hp → VK → Prop} (h : MtR X id r) {x : V} {vs : List V} {Q : VK} (q : r x vs H Q) : twM X id σ x vs H Q := fun pins s v us I rx rv => h pins s σ H x vs v us Q I rx rv q
def Dm.id : Dm → String
  | .join => "str.join"
  | .startswith => "str.startswith"
def Dm.ty : Dm → String
  | .join => "str"
  | .startswith => "str"
def Dm.nm : Dm → Str
  | .join => "join"
  | .startswith => "startswith"
theorem ot_dm {m : Dm} {a b : V} {p q r : PyData} (w : Wd X.K H π M) (ha : Dp X.K (hid H π) a p) (hb : Dp X.K (hid H π) b q) (e : dmD m p q = some r) {Q : VK} (k : Mk1 X H π M r Q) : twM X m.id σ a [b] H Q := by
  have va : Vw X.K H π a p := .inl ha
  have vb : Vw X.K H π b q := .inl hb
  unfold dmD at e
  split at e
  · split at e
    · rename_i zs hz
      split at e
      · rename_i hl
        cases e
        cases va.str
        obtain ⟨l, ys, rfl, h1, h2⟩ := vb.lst
        cases dps_strs h2 hz
        exact twM_of mt_join ⟨_, l, zs, rfl, rfl, .inl h1, hl, k.str w⟩
      · cases e
    · cases e
  · split at e
    · rename_i zs hz
      split at e
      · rename_i hl
        cases e
        cases va.str
        obtain ⟨l, ys, rfl, h1, h1', h2⟩ := vb.tup
        cases dps_strs h2 hz
        exact twM_of mt_join ⟨_, l, zs, rfl, rfl, .inr h1, hl, k.str w⟩
      · cases e
    · cases e
  · cases e
    cases va.str; cases vb.str
    exact twM_of mt_startswith ⟨_, _, rfl, rfl, k.bl w⟩
  · cases e
theorem dm_ty {m : Dm} {p q r : PyData} (e : dmD m p q = some r) : (∃ z, p = .str z) ∧ m.ty = "str" := by
  unfold dmD at e
  split at e
  · exact ⟨⟨_, rfl⟩, rfl⟩
  · exact ⟨⟨_, rfl⟩, rfl⟩
  · exact ⟨⟨_, rfl⟩, rfl⟩
  · cases e
theorem ot_tix {a b : V} {p q r : PyData} (w : Wd X.K H π M) (ha : Dp X.K (hid H π) a p) (hb : Dp X.K (hid H π) b q) (e : tixD p q = some r) {Q : VK} (k : Mk1 X H π M r Q) : twM X "tuple.index" σ a [b] H Q := by
  have va : Vw X.K H π a p := .inl ha
  have vb : Vw X.K H π b q := .inl hb
  unfold tixD at e
  split at e
  · split at e
    · rename_i zs hz
      split at e
      · rename_i j hj
        cases e
        cases vb.str
        obtain ⟨l, ys, rfl, h1, h1', h2⟩ := va.tup
        cases dps_strs h2 hz
        rw [List.findIdx?_eq_some_iff_getElem] at hj
        obtain ⟨hl, he, hno⟩ := hj
        refine twM_of mt_tup_index ⟨l, zs, _, j, rfl, rfl, h1, ?_, fun m hm hz => ?_, k.int w⟩
        · rw [List.getElem?_eq_getElem hl, beq_iff_eq.mp he]
        · have := hno m hm
          obtain ⟨hm2, e2⟩ := List.getElem?_eq_some_iff.mp hz
          rw [e2] at this
          simp at this
      · cases e
    · cases e
  · cases e
theorem tix_ty {p q r : PyData} (e : tixD p q = some r) : ∃ z, p = .tuple z := by
  unfold tixD at e
  split at e
  · exact ⟨_, rfl⟩
  · cases e
end
end K75

set_option Elab.async false
set_option linter.all false
set_option autoImplicit false
set_option maxRecDepth 100000
set_option maxHeartbeats 1000000
/-! Part 11: calls, by the walks of their parts. -/
namespace K75
open PySem PySem.Spec PyProof.Rows L2
/-! ### what the text looks like -/
def nst1 : Expr → Bool
  | .Starred .. => false
  | _ => true
def nst : List Expr → Bool
  | [] => true
  | e :: r => nst1 e && nst r
theorem nst_one {e : Expr} {es : List Expr} {env : PySem.Env} (h : nst1 e = true) : starEach (e :: es) env = (false, eval e env) :: starEach es env := by
  cases e <;> first | rfl | (exact absurd h (by simp [nst1]))
theorem nst_cons {e : Expr} {es : List Expr} {env : PySem.Env} (h : nst (e :: es) = true) : starEach (e :: es) env = (false, eval e env) :: starEach es env ∧ nst es = true := by
  simp only [nst, Bool.and_eq_true] at h
  exact ⟨nst_one h.1, h.2⟩
theorem nst_plain {env : PySem.Env} {pos : Pos} : ∀ {es : List Expr}, nst es = true → (backTo pos (starEach es env)).any (·.1) = false
  | [], _ => rfl
  | e :: es, h => by
    obtain ⟨h1, h2⟩ := nst_cons (env := env) h
    rw [h1]
    show (false || (backTo pos (starEach es env)).any (·.1)) = false
    rw [nst_plain h2]; rfl
theorem nst_all {env : PySem.Env} {pos : Pos} : ∀ {es : List Expr}, nst es = true → (backTo pos (starEach es env)).all (fun x => !x.1) = true
  | [], _ => rfl
  | e :: es, h => by
    obtain ⟨h1, h2⟩ := nst_cons (env := env) h
    rw [h1]
    show (!false && (backTo pos (starEach es env)).all (fun x => !x.1)) = true
    rw [nst_all h2]; rfl
theorem nst_few {env : PySem.Env} {pos : Pos} {es : List Expr} (h : nst es = true) (hl : es.length < 20) : methodCallForm (es.length + ([] : List Keyword).length) (backTo pos (starEach es env)) (backToKw pos (keywordEach [] env)) = true := by
  unfold methodCallForm
  rw [nst_all h]
  have e : (backToKw pos (keywordEach [] env)) = [] := rfl
  rw [e]
  simp
  omega
def noSup : Expr → Bool
  | .Call (.Name _ _) [] [] _ => false
  | _ => true
theorem noSup_base {o : Expr} {m : Str} {env : PySem.Env} {wh : Sem Value} (h : noSup o = true) : attributeBase o m env wh = wh := by
  cases o with
  | Call f args kws pos =>
    cases f with
    | Name i p =>
      cases args with
      | nil =>
        cases kws with
        | nil => exact absurd h (by simp [noSup])
        | cons k r => rfl
      | cons a r => rfl
    | _ => rfl
  | _ => rfl
theorem mcall_tree {o : Expr} {m : Str} {apos pos : Pos} {es : List Expr} {env : PySem.Env} (hs : noSup o = true) (hn : nst es = true) (hl : es.length < 20) (hp : (apos.endLine == pos.line) = true) :
    eval (.Call (.Attribute o m apos) es [] pos) env = (do
      let ov ← eval o env
      standAt apos.atName
      let (f, first) ← holding [ov] (getMethod ov m (plainOf o env))
      callWith pos f first (backTo pos (starEach es env)) (backToKw pos (keywordEach [] env))) :=
  mcall_of (noSup_base hs) fun ov => mcall_line (nst_few hn hl) hp

section
variable {X : Cx} {x m : Str} {f C : Addr} {p pos apos : Pos} {o e : Expr} {es : List Expr}
theorem pe_callF (hg : Gl X x) (hm : X.mg x = some (.ref f)) (hk : PySem.W.keepIn X.K (.ref f) = true) (hn : nst (e :: es) = true) (hd : (x == ("__debug__" : Str)) = false) :
    PE X (.Call (.Name x p) (e :: es) [] pos) (fun σ H Q => twA X (e :: es) σ H fun vs H1 => twC X (.ref f) σ vs H1 Q) := by
  refine ⟨fun pins s σ H Q I h => ?_⟩
  refine wpAny_Call_Name_kw (ld_glob I hg hm ?_ hd)
  obtain ⟨h1, h2⟩ := nst_cons (env := X.env) hn
  exact PySem.W.callWith_K (h₀ := X.base) I.ok.mod.kin hk (thn (h pos pins s I) fun us s1 ⟨vs, H1, I1, r, q⟩ => ⟨I1.kIn, q pins s1 us I1 r⟩) h1 (nst_plain h2)
theorem pe_callF0 (hg : Gl X x) (hm : X.mg x = some (.ref f)) (hk : PySem.W.keepIn X.K (.ref f) = true) (hd : (x == ("__debug__" : Str)) = false) :
    PE X (.Call (.Name x p) [] [] pos) (fun σ H Q => twC X (.ref f) σ [] H Q) := by
  refine ⟨fun pins s σ H Q I h => ?_⟩
  refine wpAny_Call_Name_kw (ld_glob I hg hm ?_ hd)
  exact PySem.W.callWith_K0 I.kIn hk (h pins s [] I .nil)
/-- what a receiver must be -/
def insOf (C : Addr) (m : Str) (x : V) (H : Hp) : Prop := ∃ a dx fs, x = .ref a ∧ H a = some (.ins C dx fs) ∧ fs.lookup m = none
theorem pe_methF (c : Cls X.K C) (hm : Meth X.K C m f) (hs : noSup o = true) (hn : nst (e :: es) = true) (hl : (e :: es).length < 20) (hp : (apos.endLine == pos.line) = true) :
    PE X (.Call (.Attribute o m apos) (e :: es) [] pos) (fun σ H Q => tw X o σ H fun x H1 => insOf C m x H1 ∧ twA X (e :: es) σ H1 fun vs H2 => twC X (.ref f) σ (x :: vs) H2 Q) := by
  refine ⟨fun pins s σ H Q I h => ?_⟩
  refine PySem.W.methodCall_KW (pl := plainOf o X.env) (thn (h pins s I) fun u s1 ⟨x, H1, I1, rx, ⟨a, dx, fs, ex, ea, l⟩, q⟩ => ?_) (mcall_tree hs hn hl hp)
  subst ex
  obtain rfl : u = Value.ref a := rx
  refine getmeth_ok I1 ea c hm l ?_
  obtain ⟨h1, h2⟩ := nst_cons (env := X.env) hn
  refine PySem.W.callWith_K (first := [.ref a]) (h₀ := X.base) I.ok.mod.kin hm.kp (thn (q pos pins s1 I1) fun us s2 ⟨vs, H2, I2, r, q2⟩ => ⟨I2.kIn, ?_⟩) h1 (nst_plain h2)
  exact q2 pins s2 (.ref a :: us) I2 (.cons rfl r)
theorem pe_methF0 (c : Cls X.K C) (hm : Meth X.K C m f) (hs : noSup o = true) (hp : (apos.endLine == pos.line) = true) :
    PE X (.Call (.Attribute o m apos) [] [] pos) (fun σ H Q => tw X o σ H fun x H1 => insOf C m x H1 ∧ twC X (.ref f) σ [x] H1 Q) := by
  refine ⟨fun pins s σ H Q I h => ?_⟩
  refine PySem.W.methodCall_KW (pl := plainOf o X.env) (thn (h pins s I) fun u s1 ⟨x, H1, I1, rx, ⟨a, dx, fs, ex, ea, l⟩, q⟩ => ?_) (mcall_tree (es := []) hs rfl (by decide) hp)
  subst ex
  obtain rfl : u = Value.ref a := rx
  refine getmeth_ok I1 ea c hm l ?_
  exact PySem.W.callWith_K0 (first := [.ref a]) I1.kIn hm.kp (q pins s1 [.ref a] I1 (.cons rfl .nil))

/-! ### what is not told of the slots -/
theorem crW {f : Value} : CallR X f (fun vs H Q => ∀ σ, twC X f σ vs H Q) := fun pins s σ _ _ us _ I r h => h σ pins s us I r
theorem orW {f : Value → Value → Sem Value} : OpR X f (fun x y H Q => ∀ σ, tV2 X f σ x y H Q) := fun pins s σ _ _ _ v u _ I rx ry h => h σ pins s v u I rx ry
theorem mrW {id : String} : MtR X id (fun x vs H Q => ∀ σ, twM X id σ x vs H Q) := fun pins s σ _ _ _ v us _ I rx rv h => h σ pins s v us I rx rv
theorem irW : IxR X (fun x y H Q => ∀ b σ, tIx X b σ x y H Q) := fun value slice pins s σ _ _ _ v u _ I rx ry h hs => h slice σ value pins s v u I rx ry hs
theorem srW : SlR X (fun x lo hi H Q => ∀ σ, tSlv X e e σ x lo hi H Q) := fun pins s σ _ _ v vl vu _ _ sl _ I rx hs pl pu h => h σ pins s v vl vu sl I rx hs pl pu

/-! ### a class's call -/
variable {σ : L2.St} {H : Hp} {π : Pl} {M : Sto} {k : Nat} {fd : FuncData} {ps : List Str}
theorem ot_make {c : Cl} {g : List Val → Sto → R Val} (m : Mk X.K (cA X.K c) f) (F : FnG X.prog X.w X.K X.mg X.base k f fd ps (spOf X.K g)) (g0 : X.A.guards = some []) (hr : Room (k + 1) X.A) (hb : Binds X.K fd ps []) {vs : List V} {xs : List Val}
    (w : Wd X.K H π M) (rv : RVs X.K (hid H π) π vs xs) :
    Ot X σ H π ((g (.o M.length :: xs) (M ++ [.ins c []])).bind fun r M2 => match r with
      | .d .none => R.ok (Val.o M.length) M2
      | _ => R.no) (RlV X) (twC X (.ref (cA X.K c)) σ vs H) := by
  have key : ∀ (x dx : Addr), H x = none → H dx = none → dx ≠ x → Gr H π (upd (upd H dx (.own x)) x (.ins (cA X.K c) dx [])) (π.add x) ∧ Wd X.K (upd (upd H dx (.own x)) x (.ins (cA X.K c) dx [])) (π.add x) (M ++ [.ins c []]) := by
    intro x dx hx hdx ne
    refine w.grow hx (fun b o e => ?_) fun Hd _ => ⟨dx, [], upd_same, .nil⟩
    rw [upd_ne (ne_of_none e hx), upd_ne (ne_of_none e hdx)]
    exact e
  have self : ∀ {x : Addr} {Hd : Hp}, RV X.K Hd (π.add x) (.ref x) (.o M.length) := fun {x Hd} => ⟨x, by
    show (π.ad ++ [x])[M.length]? = some x
    rw [← w.len]; simp, rfl⟩
  cases e : g (.o M.length :: xs) (M ++ [.ins c []]) with
  | no => trivial
  | ok v M' =>
    show Ot X σ H π (match v with | .d .none => R.ok (Val.o M.length) M' | _ => R.no) _ _
    split
    · intro Q q pins s us I r
      refine goMake (E := fun _ _ _ => False) m F g0 hr hb (fun _ _ _ _ _ _ z => by
        obtain ⟨_, _, _, _, _, _, _, _, _, _, _, _, z⟩ := z
        exact z.elim) I r fun x dx hx hdx ne => ?_
      obtain ⟨g1, w1⟩ := key x dx hx hdx ne
      refine ⟨π.add x, _, _, w1, .cons self (rvs_gr g1 rv), ?_⟩
      rw [e]
      intro a H' π' g2 w2 ra
      cases ra
      refine ⟨rfl, q _ H' π' (g1.trans g2) w2 (rv_gr g2 (x := Val.o M.length) ?_)⟩
      exact self
    · trivial
  | ex cc M' =>
    intro W tk hw Q pins s us I r
    refine goMake (E := fun cls d H' => W cls d σ H') m F g0 hr hb (fun pins H0 s e s' I c => passAt tk σ pins H0 s e s' I c) I r fun x dx hx hdx ne => ?_
    obtain ⟨g1, w1⟩ := key x dx hx hdx ne
    refine ⟨π.add x, _, _, w1, .cons self (rvs_gr g1 rv), ?_⟩
    rw [e]
    intro H' π' g2 w2
    exact hw H' π' (g1.trans g2) w2
end
end K75

set_option Elab.async false
set_option linter.all false
set_option autoImplicit false
set_option maxRecDepth 100000
/-! Part 12: the checker: an own text against the program's (the first two tables are printed by genchk.py). -/
namespace K75
open PySem PySem.Spec PyProof.Rows L2
def okN (x : Str) : Bool := !(x == ("__debug__" : Str)) && !(x == ("__classdict__" : Str)) && !(x == ("__name__" : Str))
def kd (sc : Scope) (x : Str) (k : NameKind) : Bool := decide (sc.names.lookup x = some k)
def visB (sc : Scope) (x : Str) : Bool := kd sc x .local || kd sc x .cell || kd sc x .free
def locB (sc : Scope) (x : Str) : Bool := kd sc x .local || kd sc x .cell
def glB (sc : Scope) (x : Str) : Bool := kd sc x .globalImplicit && okN x
def atN (N : List Str) (i : Nat) (x : Str) : Bool := decide (N[i]? = some x)
/-- a target's name within a comprehension's block -/
def tgB (scope sc : Scope) (x : Str) : Bool := kd (relS scope sc) x .local || (kd (relS scope sc) x .cell && kd scope x .cell)
def constC : PyData → Const → Bool
  | .none, .none => true
  | .bool b, .bool c => b == c
  | .int i, .int j => i == j
  | .str x, .str y => x == y
  | _, _ => false
def Bi.nm : Bi → Str
  | .len => "len"
  | .all => "all"
  | .any => "any"
  | .tuple => "tuple"
  | .list => "list"
  | .sorted => "sorted"
  | .int => "int"
  | .str => "str"
  | .repr => "repr"
  | .ord => "ord"
  | .abs => "abs"
  | .max => "max"
def Ty.sn : Ty → Str
  | .bool => "bool"
  | .int => "int"
  | .str => "str"
  | .tuple => "tuple"
/-! ### shapes -/
def notLc : Expr → Bool
  | .ListComp .. => false
  | .SetComp .. => false
  | .DictComp .. => false
  | _ => true
def isSl : Expr → Bool
  | .Slice .. => true
  | _ => false
def isSet : Expr → Bool
  | .Set .. => true
  | _ => false
def isTup : Expr → Bool
  | .Tuple .. => true
  | _ => false
def plainT : Expr → Bool
  | .UnaryOp .Not _ _ => false
  | .BoolOp .. => false
  | .IfExp .. => false
  | .Compare .. => false
  | _ => true
def nameAt (N : List Str) : List Nat → List Expr → Bool
  | [], [] => true
  | i :: is, .Name x _ :: ts => atN N i x && nameAt N is ts
  | _, _ => false
def tgNames (p : Str → Bool) : List Expr → Bool
  | [] => true
  | .Name x _ :: ts => p x && tgNames p ts
  | _ => false
def tgOwn : List Nat → List Expr → List (Str × Nat)
  | i :: is, .Name x _ :: ts => (x, i) :: tgOwn is ts
  | _, _ => []
def isCompE : E → Bool
  | .comp .. => true
  | .compIf .. => true
  | .compU .. => true
  | .compZ .. => true
  | _ => false
def keysOf : List Str → List (Option Expr) → Bool
  | [], [] => true
  | k :: ks, some (.Constant (.str z) _ _) :: r => k == z && keysOf ks r
  | _, _ => false
def valsOf (sc : Scope) : List (Str × PyData) → List Expr → Bool
  | [], [] => true
  | (x, d) :: gs, .Name y _ :: r => x == y && glB sc y && decide (gdat.lookup y = some d) && valsOf sc gs r
  | _, _ => false
mutual
def chkE (N : List Str) : E → Scope → Expr → Bool
  | .never, _, _ => true
  | .k d, _, .Constant c _ _ => constC d c
  | .v i, sc, .Name x _ => atN N i x && visB sc x && okN x
  | .g x d, sc, .Name y _ => x == y && glB sc y && decide (gdat.lookup y = some d)
  | .bin op a b, sc, .BinOp l o r _ => decide (o = op.op) && chkE N a sc l && chkE N b sc r
  | .neg n, _, .UnaryOp .USub (.Constant (.int m) _ _) _ => m == n
  | .not a, sc, .UnaryOp .Not x _ => chkE N a sc x
  | .and a b, sc, .BoolOp .And (x :: y :: []) _ => chkE N a sc x && chkE N b sc y
  | .and a b, sc, .BoolOp .And (x :: y :: z :: r) pos => chkE N a sc x && chkE N b sc (.BoolOp .And (y :: z :: r) pos)
  | .or a b, sc, .BoolOp .Or (x :: y :: []) _ => chkE N a sc x && chkE N b sc y
  | .or a b, sc, .BoolOp .Or (x :: y :: z :: r) pos => chkE N a sc x && chkE N b sc (.BoolOp .Or (y :: z :: r) pos)
  | .cmp op a b, sc, .Compare l [o] [r] _ => decide (o = op.op) && !behindInMarks o r && chkE N a sc l && chkE N b sc r
  | .chain a b c, sc, .Compare l [.LtE, .LtE] [m, r] _ => chkE N a sc l && chkE N b sc m && chkE N c sc r
  | .ite c a b, sc, .IfExp t x y _ => chkE N c sc t && chkE N a sc x && chkE N b sc y
  | .tup es, sc, .Tuple xs _ _ => nst xs && chkEs N es sc xs
  | .lst es, sc, .List xs _ => nst xs && chkEs N es sc xs
  | .ix a i, sc, .Subscript x s _ => !isSl s && chkE N a sc x && chkE N i sc s
  | .slTo a i, sc, .Subscript x (.Slice none (some u) none _) _ => chkE N a sc x && chkE N i sc u
  | .slFrom a i, sc, .Subscript x (.Slice (some l) none none _) _ => chkE N a sc x && chkE N i sc l
  | .fld a f, sc, .Attribute x m _ => m == f.nm && noSup x && chkE N a sc x
  | .call f es, sc, .Call (.Name x _) xs [] _ => x == f.nm && decide (f.cls = none) && glB sc x && nst xs && chkEs N es sc xs
  | .meth f a es, sc, .Call (.Attribute o m apos) xs [] pos => m == f.nm && f.cls.isSome && decide (f ≠ .r_init) && decide (f ≠ .d_init) && noSup o && (apos.endLine == pos.line) && decide (xs.length < 20) && nst xs && chkE N a sc o && chkEs N es sc xs
  | .mk c es, sc, .Call (.Name x _) xs [] _ => x == c.nm && glB sc x && nst xs && chkEs N es sc xs
  | .isi a t, sc, .Call (.Name x _) [y, .Name z _] [] _ => x == ("isinstance" : Str) && z == t.sn && glB sc x && glB sc z && nst [y] && chkE N a sc y
  | .bi b es, sc, .Call (.Name x _) (y :: ys) [] _ => x == b.nm && glB sc x && nst (y :: ys) && chkEs N es sc (y :: ys)
  | .dm m a b, sc, .Call (.Attribute o n apos) [y] [] pos => n == m.nm && noSup o && (apos.endLine == pos.line) && nst [y] && chkE N a sc o && chkE N b sc y
  | .tix x d b, sc, .Call (.Attribute (.Name z _) n apos) [y] [] pos => x == z && glB sc z && decide (gdat.lookup z = some d) && n == ("index" : Str) && (apos.endLine == pos.line) && nst [y] && chkE N b sc y
  | .pop a, sc, .Call (.Attribute o n apos) [] [] pos => n == ("pop" : Str) && noSup o && (apos.endLine == pos.line) && chkE N a sc o
  | .pick ks gs a, sc, .Subscript (.Dict keys vs _) s _ => keysOf ks keys && valsOf sc gs vs && decide (keys.length = vs.length) && decide (keys.length ≤ 15) && decide (0 < keys.length) && decide ks.Nodup && !isSl s && chkE N a sc s
  | .comp i it elt, sc, .ListComp el [⟨.Name x _, iter, [], ia⟩] scope _ => decide (ia = 0) && atN N i x && tgB scope sc x && blkC N sc scope [(x, i)] && !isSet iter && chkE N it sc iter && chkE N elt (relS scope sc) el
  | .compIf i it c elt, sc, .ListComp el [⟨.Name x _, iter, [t], ia⟩] scope _ => decide (ia = 0) && atN N i x && tgB scope sc x && blkC N sc scope [(x, i)] && !isSet iter && chkE N it sc iter && chkE N c (relS scope sc) t && chkE N elt (relS scope sc) el
  | .compU is it elt, sc, .ListComp el [⟨.Tuple ts _ _, iter, [], ia⟩] scope _ => decide (ia = 0) && nameAt N is ts && decide is.Nodup && tgNames (tgB scope sc) ts && blkC N sc scope (tgOwn is ts) && !isSet iter && chkE N it sc iter && chkE N elt (relS scope sc) el
  | .compZ i j a b elt, sc, .ListComp el [⟨.Tuple [.Name x _, .Name y _] _ _, .Call (.Name z _) [p, q] [] _, [], ia⟩] scope _ => decide (ia = 0) && atN N i x && atN N j y && decide (i ≠ j) && tgB scope sc x && tgB scope sc y && blkC N sc scope [(x, i), (y, j)] && z == ("zip" : Str) && glB sc z && nst [p, q] && chkE N a sc p && chkE N b sc q && chkE N elt (relS scope sc) el
  | _, _, _ => false
def chkEs (N : List Str) : Es → Scope → List Expr → Bool
  | .nil, _, [] => true
  | .cons e r, sc, x :: xs => chkE N e sc x && chkEs N r sc xs
  | _, _, _ => false
end
/-! ### statements -/
def dupFree : Expr → Expr → Bool
  | a, b => !(foldedForSure 8 a && foldedForSure 8 b) && !(constantsAlone 8 a && constantsAlone 8 b)
/-- a, b = x, y into plain locals of one line -/
def parB (sc : Scope) (x y : Str) (px py : Pos) (a b : Expr) : Bool :=
  kd sc x .local && kd sc y .local && (py.line == px.line) && !(x == y) && nst [a, b] && dupFree a b
def parB3 (sc : Scope) (x y z : Str) (px py pz : Pos) (a b c : Expr) : Bool :=
  kd sc x .local && kd sc y .local && kd sc z .local && (py.line == px.line) && (pz.line == px.line) && !(x == y) && !(x == z) && !(y == z) && nst [a, b, c] && !(foldedForSure 8 a && foldedForSure 8 b && foldedForSure 8 c) && !(constantsAlone 8 a && constantsAlone 8 b && constantsAlone 8 c)
/-- targets that are not all plain locals -/
def someCell (sc : Scope) : List Expr → Bool
  | [] => false
  | .Name x _ :: r => !kd sc x .local || someCell sc r
  | _ :: r => someCell sc r
def lcLine (sc : Scope) (x : Str) (px : Pos) : Expr → Bool
  | .ListComp _ [⟨_, _, _, ia⟩] s pos => decide (ia = 0) && kd sc x .local && (px.line == pos.line) && !(s.names.any fun (n, k) => n == x && (k == .local || k == .cell))
  | _ => false
def hdsB : List (Xc × PyData) → Scope → List ExceptHandler → Bool
  | [], _, [] => true
  | (c, .tuple [.str z, .int n]) :: r, sc, .ExceptHandler (some (.Name x _)) none [.Return (some (.Tuple [.Constant (.str z') _ _, .Constant (.int n') _ _] _ _)) _] _ :: hs => x == c.nm && glB sc x && z == z' && n == n' && hdsB r sc hs
  | _, _, _ => false
mutual
def chkS (N : List Str) : S → Scope → Stmt → Bool
  | .never, _, _ => true
  | .set i e, sc, .Assign [.Name x _] v _ => atN N i x && locB sc x && notLc v && chkE N e sc v
  | .setC i e, sc, .Assign [.Name x px] v _ => atN N i x && lcLine sc x px v && isCompE e && chkE N e sc v
  | .setN i, sc, .Assign [.Name x _] (.List [] _) _ => atN N i x && locB sc x
  | .fset o f e, sc, .Assign [.Attribute q m _] v _ => m == f.nm && notLc v && chkE N o sc q && chkE N e sc v
  | .fsetN o f, sc, .Assign [.Attribute q m _] (.List [] _) _ => m == f.nm && chkE N o sc q
  | .iset o i e, sc, .Assign [.Subscript q s _] v _ => notLc v && !isSl s && chkE N o sc q && chkE N i sc s && chkE N e sc v
  | .unp is e, sc, .Assign [.Tuple ts _ _] v _ => nameAt N is ts && decide is.Nodup && tgNames (locB sc) ts && notLc v && (!isTup v || someCell sc ts) && chkE N e sc v
  | .par i j a b, sc, .Assign [.Tuple [.Name x px, .Name y py] _ _] (.Tuple [p, q] _ _) _ => atN N i x && atN N j y && parB sc x y px py p q && chkE N a sc p && chkE N b sc q
  | .parN i j a, sc, .Assign [.Tuple [.Name x px, .Name y py] _ _] (.Tuple [p, .List [] lp] _ _) _ => atN N i x && atN N j y && parB sc x y px py p (.List [] lp) && chkE N a sc p
  | .par3 i j k a b c, sc, .Assign [.Tuple [.Name x px, .Name y py, .Name z pz] _ _] (.Tuple [p, q, r] _ _) _ => atN N i x && atN N j y && atN N k z && parB3 sc x y z px py pz p q r && chkE N a sc p && chkE N b sc q && chkE N c sc r
  | .ex e, sc, .Expr v _ => notLc v && chkE N e sc v
  | .app o e, sc, .Expr (.Call (.Attribute q m apos) [y] [] cpos) _ => m == ("append" : Str) && noSup q && (apos.endLine == cpos.line) && nst [y] && chkE N o sc q && chkE N e sc y
  | .rem o e, sc, .Expr (.Call (.Attribute q m apos) [y] [] cpos) _ => m == ("remove" : Str) && noSup q && (apos.endLine == cpos.line) && nst [y] && chkE N o sc q && chkE N e sc y
  | .ite c a b, sc, .If t x y _ => chkE N c sc t && chkSs N a sc x && chkSs N b sc y
  | .whl c b, sc, .While t x [] _ => chkE N c sc t && chkSs N b sc x
  | .forN i it b, sc, .For (.Name x _) iter body [] _ => atN N i x && locB sc x && !isSet iter && chkE N it sc iter && chkSs N b sc body
  | .forR i n b, sc, .For (.Name x _) (.Call (.Name z _) [y] [] _) body [] _ => atN N i x && locB sc x && z == ("range" : Str) && glB sc z && nst [y] && chkE N n sc y && chkSs N b sc body
  | .forU is it b, sc, .For (.Tuple ts _ _) iter body [] _ => nameAt N is ts && decide is.Nodup && tgNames (locB sc) ts && !isSet iter && chkE N it sc iter && chkSs N b sc body
  | .ret e, sc, .Return (some v) _ => chkE N e sc v
  | .retN es, sc, .Return (some (.List xs _)) _ => nst xs && chkEs N es sc xs
  | .rai c, sc, .Raise (some (.Call (.Name x _) [.Constant (.str _) _ _] [] _)) none _ => x == c.nm && glB sc x
  | .try_ b ((c, d) :: hs), sc, .Try body (h :: hds) [] [] _ => chkSs N b sc body && hdsB ((c, d) :: hs) sc (h :: hds)
  | _, _, _ => false
def chkSs (N : List Str) : Ss → Scope → List Stmt → Bool
  | .nil, _, [] => true
  | .cons s r, sc, x :: xs => chkS N s sc x && chkSs N r sc xs
  | _, _, _ => false
end
end K75

set_option Elab.async false
set_option linter.all false
set_option autoImplicit false
set_option maxRecDepth 100000
set_option maxHeartbeats 1000000
/-! Part 13: what is known of the module; an expression's outcomes; the plain expressions. -/
namespace K75
open PySem PySem.Spec PyProof.Rows L2
/-- names of builtins that the module leaves alone -/
structure Facts (K : PySem.W.Frag) (mg : Str → Option Value) (fa : Fn → Addr) : Prop where
  fn : ∀ f : Fn, f.cls = none → mg f.nm = some (.ref (fa f)) ∧ PySem.W.keepIn K (.ref (fa f)) = true
  cl : ∀ c : Cl, mg c.nm = some (.ref (cA K c))
  dat : ∀ (x : Str) (d : PyData), gdat.lookup x = some d → ∃ v u, mg x = some u ∧ RelV v u ∧ Dp K (fun _ => none) v d ∧ ∀ a o, v = .ref a → K.lookup a = some o → o.dict = none
  free : ∀ x ∈ bnames, mg x = none
  cls : ∀ c : Cl, Cls K (cA K c)
  noA : ∀ (c : Cl) (f : Fd), NoAttr K (cA K c) f.nm
  mth : ∀ (f : Fn) (c : Cl), f.cls = some c → f ≠ .r_init → f ≠ .d_init → Meth K (cA K c) f.nm (fa f)
  mk_ : ∀ c : Cl, Mk K (cA K c) (fa c.init)
  exc : ∀ x : Xc, mg x.nm = some (.ref (xA K x)) ∧ PySem.W.keepIn K (.ref (xA K x)) = true ∧ (∃ B newId initId bmB, ExcBaseFacts B newId initId bmB ∧ PySem.W.excIn K (xA K x) bmB newId = true) ∧
    PySem.W.subIn K (.ref (xA K x)) (.type "BaseException") = some true ∧ PySem.W.typeIn K (.ref (xA K x)) = some (.type "type")
  exm : ∀ x y : Xc, PySem.W.exmOne K (.ref (xA K x)) (.ref (xA K y)) = some (decide (y = x))
/-- what the soundness of texts leans on: Φ says what the defs do -/
structure Cxt (Φ : Env) (fa : Fn → Addr) (fdo : Fn → FuncData) (pso : Fn → List Str) (k : Nat) (N : List Str) (sc : Scope) (X : Cx) : Prop where
  names : X.N = N
  nd : N.Nodup
  sco : X.env.scope = sc
  calm : X.calm = true
  g0 : X.A.guards = some []
  room : Room (k + 1) X.A
  facts : Facts X.K X.mg fa
  fns : ∀ f : Fn, FnG X.prog X.w X.K X.mg X.base k (fa f) (fdo f) (pso f) (spOf X.K (Φ f))
  binds : ∀ f : Fn, Binds X.K (fdo f) (pso f) []
section
variable {Φ : Env} {fa : Fn → Addr} {fdo : Fn → FuncData} {pso : Fn → List Str} {k : Nat} {N : List Str} {sc : Scope} {X : Cx}
theorem Cxt.un (c : Cxt Φ fa fdo pso k N sc X) : X.A.units + 100 < cLine := by have := c.room.un; omega
theorem Cxt.un65 (c : Cxt Φ fa fdo pso k N sc X) : X.A.units + 65 < cLine := by have := c.room.un; omega
theorem Cxt.rm (c : Cxt Φ fa fdo pso k N sc X) : Room k X.A := c.room.mono (Nat.le_succ k)
theorem okN_of {x : Str} (h : okN x = true) : (x == ("__debug__" : Str)) = false ∧ (x == ("__classdict__" : Str)) = false ∧ x ≠ ("__name__" : Str) := by
  unfold okN at h
  simp only [Bool.and_eq_true, Bool.not_eq_true'] at h
  exact ⟨h.1.1, h.1.2, fun e => by rw [e] at h; simp at h⟩
theorem kd_of {x : Str} {nk : NameKind} (h : kd sc x nk = true) : sc.names.lookup x = some nk := by unfold kd at h; exact decide_eq_true_eq.mp h
theorem vis_of {x : Str} (c : Cxt Φ fa fdo pso k N sc X) (h : visB sc x = true) : Vis X.env.scope x := by
  rw [c.sco]
  unfold visB at h
  rw [Bool.or_eq_true, Bool.or_eq_true] at h
  rcases h with (h | h) | h
  · exact .inl (kd_of h)
  · exact .inr (.inl (kd_of h))
  · exact .inr (.inr (kd_of h))
theorem loc_of {x : Str} (c : Cxt Φ fa fdo pso k N sc X) (h : locB sc x = true) : L2.Loc X.env.scope x := by
  rw [c.sco]
  unfold locB at h
  rw [Bool.or_eq_true] at h
  rcases h with h | h
  · exact .inl (kd_of h)
  · exact .inr (kd_of h)
theorem gl_of {x : Str} (c : Cxt Φ fa fdo pso k N sc X) (h : glB sc x = true) : Gl X x ∧ okN x = true := by
  unfold glB at h
  rw [Bool.and_eq_true] at h
  refine ⟨?_, h.2⟩
  show X.env.scope.names.lookup x = _
  rw [c.sco]
  exact kd_of h.1
theorem at_of {i : Nat} {x : Str} (c : Cxt Φ fa fdo pso k N sc X) (h : atN N i x = true) : X.N[i]? = some x := by rw [c.names]; unfold atN at h; exact decide_eq_true_eq.mp h
/-! ### outcomes -/
def tstR (r : R Val) : R Bool := match r with
  | .ok (.d (.bool b)) M => .ok b M
  | .ex c M => .ex c M
  | _ => .no
abbrev RlB : Hp → Pl → Bool → Bool → Prop := fun _ _ a b => a = b
def twL (X : Cx) (el tg it : Expr) (ifs : List Expr) (scope : Scope) : TE := fun σ H Q => ∃ (wi : TI) (own : List (Str × Nat)) (g : TG) (tt : TT) (te : TE), PI X tg it wi ∧ BlkOk X.N X.env.scope scope own ∧
  (∀ (s : Shared) (H : Hp) (C : Addr) (cl : List (Str × Addr)) (fp : List Addr), PG (X.blk s H scope (compEnvC scope cl C X.env) fp) tg g) ∧
  (∀ (s : Shared) (H : Hp) (C : Addr) (cl : List (Str × Addr)) (fp : List Addr), PTs (X.blk s H scope (compEnvC scope cl C X.env) fp) ifs tt) ∧
  (∀ (s : Shared) (H : Hp) (C : Addr) (cl : List (Str × Addr)) (fp : List Addr), PE (X.blk s H scope (compEnvC scope cl C X.env) fp) el te) ∧ (∀ x, foldedSetIterable it X.env x = pure x) ∧ tLc wi g tt te (own.map (·.2)) σ H Q
structure Good (X : Cx) (σ : L2.St) (H : Hp) (π : Pl) (ast : Expr) (r : R Val) : Prop where
  val : Ot X σ H π r (RlV X) (tw X ast σ H)
  tst : Ot X σ H π (tstR r) RlB (twT X ast σ H)
  who : ∀ op vs pos, ast = .BoolOp op vs pos → Ot X σ H π (tstR r) RlB (twW X ast σ H)
  lc : ∀ el tg it ifs scope pos, ast = .ListComp el [⟨tg, it, ifs, 0⟩] scope pos → Ot X σ H π r (RlV X) (twL X el tg it ifs scope σ H)
variable {σ : L2.St} {H : Hp} {π : Pl} {ast : Expr} {r : R Val}
theorem good_no : Good X σ H π ast .no := ⟨trivial, trivial, fun _ _ _ _ => trivial, fun _ _ _ _ _ _ _ => trivial⟩
def notBo : Expr → Bool
  | .BoolOp .. => false
  | _ => true
theorem dp_bool {K : PySem.W.Frag} {Hd : Hp} {v : V} {b : Bool} (h : Dp K Hd v (.bool b)) : v = .bl b := by cases h; rfl
theorem ot_tst {t : TE} (h : Ot X σ H π r (RlV X) (t σ H)) : Ot X σ H π (tstR r) RlB (fun Q => tB t σ H Q) := by
  unfold tstR
  split
  · intro Q q
    refine h _ fun a H' π' g w rl => ⟨_, dp_bool rl, q _ H' π' g w rfl⟩
  · exact fun W tk hw Q => h W tk hw _
  · trivial
theorem good_of {t : TE} (hpe : PE X ast t) (hpt : PT X ast (tB t)) (nb : notBo ast = true) (nl : notLc ast = true) (h : Ot X σ H π r (RlV X) (t σ H)) : Good X σ H π ast r :=
  ⟨h.mono fun Q q => tw_of hpe q, (ot_tst h).mono fun Q q => twT_of hpt q, fun op vs pos e => by subst e; exact absurd nb (by simp [notBo]), fun el tg it ifs scope pos e => by subst e; exact absurd nl (by simp [notLc])⟩
theorem plainT_is {e : Expr} (h : plainT e = true) {env : PySem.Env} : ∀ whole, isTrue e env whole = (do let v ← whole; standAt e.pos; holding [v] (truthy v)) := by
  intro whole
  cases e with
  | UnaryOp op x pos => cases op <;> first | rfl | (exact absurd h (by simp [plainT]))
  | BoolOp op x pos => exact absurd h (by simp [plainT])
  | IfExp c x y pos => exact absurd h (by simp [plainT])
  | Compare x o y pos => exact absurd h (by simp [plainT])
  | _ => rfl
theorem good_pl {t : TE} (hpe : PE X ast t) (pl : plainT ast = true) (nl : notLc ast = true) (h : Ot X σ H π r (RlV X) (t σ H)) : Good X σ H π ast r := by
  refine good_of hpe (pt_val hpe (plainT_is pl)) ?_ nl h
  cases ast <;> first | rfl | (exact absurd pl (by simp [plainT]))
/-- a value that is made without more -/
theorem ot_val {M : Sto} {d : PyData} (w : Wd X.K H π M) {T : (V → Hp → Prop) → Prop} (h : ∀ Q : VK, Mk1 X H π M d Q → T Q) : Ot X σ H π (.ok (.d d) M) (RlV X) T := fun Q q => h Q fun v H' π' g w' dp => q v H' π' g w' dp
end
end K75

set_option Elab.async false
set_option linter.all false
set_option autoImplicit false
set_option maxRecDepth 100000
set_option maxHeartbeats 1000000
/-! Part 14: the plain expressions, one after the other. -/
namespace K75
open PySem PySem.Spec PyProof.Rows L2
section
variable {Φ : Env} {fa : Fn → Addr} {fdo : Fn → FuncData} {pso : Fn → List Str} {k : Nat} {N : List Str} {sc : Scope} {X : Cx} {σ : L2.St} {G : Loc}
def GoodE (Φ : Env) (X : Cx) (σ : L2.St) (G : Loc) (ast : Expr) (e : E) : Prop := ∀ H π M, LocR X.K (hid H π) π σ G → Wd X.K H π M → Good X σ H π ast (evE Φ e G M)
def GoodEs (Φ : Env) (X : Cx) (σ : L2.St) (G : Loc) (xs : List Expr) (es : Es) : Prop := ∀ H π M, LocR X.K (hid H π) π σ G → Wd X.K H π M → Ot X σ H π (evEs Φ es G M) (RlA X) (twA X xs σ H)
theorem dps_of {K : PySem.W.Frag} {Hd : Hp} {π : Pl} : ∀ {vs : List V} {xs : List Val} {ds : List PyData}, RVs K Hd π vs xs → asDs xs = some ds → DpAll K Hd vs ds
  | _, _, _, .nil, e => by cases e; exact .nil
  | _, .d x :: _, _, .cons a r, e => by
    simp only [asDs] at e
    split at e
    · rename_i ds e1
      cases e
      exact .cons a (dps_of r e1)
    · cases e
  | _, .o _ :: _, _, .cons _ _, e => by simp [asDs] at e
theorem rvs_len {K : PySem.W.Frag} {Hd : Hp} {π : Pl} : ∀ {vs : List V} {xs : List Val}, RVs K Hd π vs xs → vs.length = xs.length
  | _, _, .nil => rfl
  | _, _, .cons _ r => by rw [List.length_cons, List.length_cons, rvs_len r]
theorem asDs_len : ∀ {xs : List Val} {ds : List PyData}, asDs xs = some ds → xs.length = ds.length
  | [], _, e => by cases e; rfl
  | .d x :: r, _, e => by
    simp only [asDs] at e
    split at e
    · rename_i ds e1
      cases e
      rw [List.length_cons, List.length_cons, asDs_len e1]
    · cases e
  | .o _ :: _, _, e => by simp [asDs] at e
variable {a b c0 : E} {x y z : Expr} {pos : Pos}
theorem g_k {d : PyData} {c0 : Const} {j : Nat} (h : constC d c0 = true) : GoodE Φ X σ G (.Constant c0 j pos) (.k d) := by
  intro H π M lr w
  cases d with
  | none =>
    cases c0 with
    | none => exact good_pl pe_non rfl rfl (ot_val w fun Q k => k.old w .non)
    | _ => exact absurd h (by simp [constC])
  | bool b =>
    cases c0 with
    | bool b' =>
      have e : b = b' := beq_iff_eq.mp h
      subst e
      exact good_pl pe_bl rfl rfl (ot_val w fun Q k => k.bl w)
    | _ => exact absurd h (by simp [constC])
  | int b =>
    cases c0 with
    | int b' =>
      have e : b = b' := beq_iff_eq.mp h
      subst e
      exact good_pl pe_int rfl rfl (ot_val w fun Q k => k.int w)
    | _ => exact absurd h (by simp [constC])
  | str b =>
    cases c0 with
    | str b' =>
      have e : b = b' := beq_iff_eq.mp h
      subst e
      exact good_pl pe_str rfl rfl (ot_val w fun Q k => k.str w)
    | _ => exact absurd h (by simp [constC])
  | _ => exact absurd h (by simp [constC])
theorem g_v (c : Cxt Φ fa fdo pso k N sc X) {i : Nat} {n : Str} (h1 : atN N i n = true) (h2 : visB sc n = true) (h3 : okN n = true) : GoodE Φ X σ G (.Name n pos) (.v i) := by
  intro H π M lr w
  refine good_pl (pe_var (at_of c h1) (vis_of c h2) (okN_of h3).1 (okN_of h3).2.1) rfl rfl ?_
  show Ot X σ H π (match G[i]? with | some (some v) => .ok v M | _ => .no) _ _
  split
  · rename_i v e
    intro Q q
    obtain ⟨u, e2, r⟩ := lr.at_ i v e
    exact ⟨u, e2, q u H π (Gr.refl _ _) w r⟩
  · trivial
theorem g_g (c : Cxt Φ fa fdo pso k N sc X) {n : Str} {d : PyData} (h2 : glB sc n = true) (h3 : gdat.lookup n = some d) : GoodE Φ X σ G (.Name n pos) (.g n d) := by
  intro H π M lr w
  obtain ⟨v, u, e1, e2, e3, _⟩ := c.facts.dat n d h3
  obtain ⟨h4, h5⟩ := gl_of c h2
  refine good_pl (pe_glob h4 e1 e2 (okN_of h5).1) rfl rfl (ot_val w fun Q q => q.old w (dpSame (fun _ _ z => by cases z) e3))
theorem g_bin (c : Cxt Φ fa fdo pso k N sc X) {op : Bop} (ha : GoodE Φ X σ G x a) (hb : GoodE Φ X σ G y b) : GoodE Φ X σ G (.BinOp x op.op y pos) (.bin op a b) := by
  intro H π M lr w
  refine good_pl (pe_op orW (pw X x) (pw X y)) rfl rfl ?_
  refine (ha H π M lr w).val.bind fun p M1 v H1 π1 e1 g1 w1 r1 => ?_
  refine (hb H1 π1 M1 (lr.gr g1) w1).val.bind fun q M2 u H2 π2 e2 g2 w2 r2 => ?_
  split
  · rename_i p' q' hp hq
    refine Ot.of fun d hd => ?_
    obtain ⟨d', hd', rfl⟩ := Option.map_eq_some_iff.mp hd
    exact ot_val w2 fun Q k σ => ot_bin c.calm w2 (w2.view (rv_gr g2 r1) hp) (w2.view r2 hq) hd' k
  · trivial
theorem g_neg {n m : Int} {j : Nat} {p2 : Pos} (h : m = n) : GoodE Φ X σ G (.UnaryOp .USub (.Constant (.int m) j p2) pos) (.neg n) := by
  intro H π M lr w
  subst h
  exact good_pl (pe_un un_neg pe_int) rfl rfl (ot_val w fun Q q => ⟨m, rfl, q.int w⟩)
theorem tst_not (r : R Val) : tstR (r.bind fun v M1 => match v with | .d (.bool b) => R.ok (Val.d (.bool (!b))) M1 | _ => R.no) = (tstR r).bind fun b M1 => R.ok (!b) M1 := by
  cases r with
  | no => rfl
  | ex c M => rfl
  | ok v M =>
    cases v with
    | o n => rfl
    | d y => cases y <;> rfl
theorem g_not (ha : GoodE Φ X σ G x a) : GoodE Φ X σ G (.UnaryOp .Not x pos) (.not a) := by
  intro H π M lr w
  have hA := ha H π M lr w
  refine ⟨?_, ?_, fun _ _ _ e => (by cases e), fun _ _ _ _ _ _ e => (by cases e)⟩
  · refine Ot.mono (T := fun Q => tNotV (tw X x) σ H Q) ?_ fun Q q => tw_of (pe_not (pw X x)) q
    refine hA.val.bind fun p M1 v H1 π1 e1 g1 w1 r1 => ?_
    split
    · rename_i b
      cases dp_bool r1
      exact ot_val w1 fun Q q => ⟨b, rfl, q.bl w1⟩
    · trivial
  · rw [show tstR (evE Φ (.not a) G M) = _ from tst_not (evE Φ a G M)]
    refine Ot.mono (T := fun Q => tNot (twT X x) σ H Q) ?_ fun Q q => twT_of (pt_not (pwT X x)) q
    refine hA.tst.bind fun p M1 v H1 π1 e1 g1 w1 r1 => ?_
    cases r1
    exact fun Q q => q _ H1 π1 (Gr.refl _ _) w1 rfl
theorem tst_and (r : R Val) (f : Sto → R Val) : tstR (r.bind fun x M1 => match x with | .d (.bool true) => (f M1).bind fun y M2 => (match y with | .d (.bool c) => R.ok (Val.d (.bool c)) M2 | _ => R.no) | .d (.bool false) => R.ok (Val.d (.bool false)) M1 | _ => R.no)
    = (tstR r).bind fun c M1 => if c = true then tstR (f M1) else R.ok false M1 := by
  cases r with
  | no => rfl
  | ex c M => rfl
  | ok v M =>
    cases v with
    | o n => rfl
    | d y =>
      cases y with
      | bool b =>
        cases b with
        | false => rfl
        | true =>
          show tstR ((f M).bind _) = (if true = true then tstR (f M) else R.ok false M)
          rw [if_pos rfl]
          cases f M with
          | no => rfl
          | ex c M => rfl
          | ok v M =>
            cases v with
            | o n => rfl
            | d y => cases y <;> rfl
      | _ => rfl
theorem tst_or (r : R Val) (f : Sto → R Val) : tstR (r.bind fun x M1 => match x with | .d (.bool false) => (f M1).bind fun y M2 => (match y with | .d (.bool c) => R.ok (Val.d (.bool c)) M2 | _ => R.no) | .d (.bool true) => R.ok (Val.d (.bool true)) M1 | _ => R.no)
    = (tstR r).bind fun c M1 => if c = true then R.ok true M1 else tstR (f M1) := by
  cases r with
  | no => rfl
  | ex c M => rfl
  | ok v M =>
    cases v with
    | o n => rfl
    | d y =>
      cases y with
      | bool b =>
        cases b with
        | true => rfl
        | false =>
          show tstR ((f M).bind _) = (if false = true then R.ok true M else tstR (f M))
          rw [if_neg Bool.false_ne_true]
          cases f M with
          | no => rfl
          | ex c M => rfl
          | ok v M =>
            cases v with
            | o n => rfl
            | d y => cases y <;> rfl
      | _ => rfl
/-- the second part of and, or: by its value, by its test -/
structure Part (X : Cx) (op : BoolOp) (rest : List Expr) (pos : Pos) (σ : L2.St) (H : Hp) (π : Pl) (r : R Val) : Prop where
  val : Ot X σ H π r (RlV X) (tw X (.BoolOp op rest pos) σ H)
  tst : Ot X σ H π (tstR r) RlB (twW X (.BoolOp op rest pos) σ H)
theorem part_one {op : BoolOp} {H : Hp} {π : Pl} {r : R Val} (h : Good X σ H π y r) : Part X op [y] pos σ H π r := by
  refine ⟨h.val.mono fun Q q => tw_of (pe_one (pw X y)) q, h.tst.mono fun Q q => ?_⟩
  cases op with
  | And => exact twW_of (pw_and1 (pwT X y)) q
  | Or => exact twW_of (pw_or1 (pwT X y)) q
theorem part_more {op : BoolOp} {r0 : List Expr} {H : Hp} {π : Pl} {r : R Val} (h : Good X σ H π (.BoolOp op r0 pos) r) : Part X op r0 pos σ H π r := ⟨h.val, h.who _ _ _ rfl⟩
theorem g_and {rest : List Expr} (ha : GoodE Φ X σ G x a) (hb : ∀ H π M, LocR X.K (hid H π) π σ G → Wd X.K H π M → Part X .And (y :: rest) pos σ H π (evE Φ b G M)) : GoodE Φ X σ G (.BoolOp .And (x :: y :: rest) pos) (.and a b) := by
  intro H π M lr w
  have hA := ha H π M lr w
  have key : Ot X σ H π (tstR (evE Φ (.and a b) G M)) RlB (fun Q => tAnd (twT X x) (twW X (.BoolOp .And (y :: rest) pos)) σ H Q) := by
    rw [show tstR (evE Φ (.and a b) G M) = _ from tst_and (evE Φ a G M) fun M1 => evE Φ b G M1]
    refine hA.tst.bind fun p M1 v H1 π1 e1 g1 w1 r1 => ?_
    cases r1
    cases p with
    | true => exact (hb H1 π1 M1 (lr.gr g1) w1).tst
    | false => exact fun Q q => q _ H1 π1 (Gr.refl _ _) w1 rfl
  refine ⟨?_, key.mono fun Q q => twT_of (pw_and (pwT X x) (pwW X _)).pt q, fun op vs p e => ?_, fun _ _ _ _ _ _ e => by cases e⟩
  · refine Ot.mono (T := fun Q => tAndV (tw X x) (tw X (.BoolOp .And (y :: rest) pos)) σ H Q) ?_ fun Q q => tw_of (pe_and (pw X x) (pw X _)) q
    refine hA.val.bind fun p M1 v H1 π1 e1 g1 w1 r1 => ?_
    split
    · cases dp_bool r1
      refine Ot.mono (T := fun Q => tw X (.BoolOp .And (y :: rest) pos) σ H1 Q) ?_ fun Q q => ⟨true, rfl, by rw [if_pos rfl]; exact q⟩
      have h2 := (hb H1 π1 M1 (lr.gr g1) w1).val
      cases e2 : evE Φ b G M1 with
      | no => trivial
      | ex c M2 => rw [e2] at h2; exact h2
      | ok v2 M2 =>
        rw [e2] at h2
        show Ot X σ H1 π1 (match v2 with | .d (.bool c) => R.ok (Val.d (.bool c)) M2 | _ => R.no) _ _
        split
        · exact h2
        · trivial
    · cases dp_bool r1
      exact ot_val w1 fun Q q => ⟨false, rfl, by rw [if_neg Bool.false_ne_true]; exact q.bl w1⟩
    · trivial
  · cases e
    exact key.mono fun Q q => twW_of (pw_and (pwT X x) (pwW X _)) q
theorem g_or {rest : List Expr} (ha : GoodE Φ X σ G x a) (hb : ∀ H π M, LocR X.K (hid H π) π σ G → Wd X.K H π M → Part X .Or (y :: rest) pos σ H π (evE Φ b G M)) : GoodE Φ X σ G (.BoolOp .Or (x :: y :: rest) pos) (.or a b) := by
  intro H π M lr w
  have hA := ha H π M lr w
  have key : Ot X σ H π (tstR (evE Φ (.or a b) G M)) RlB (fun Q => tOr (twT X x) (twW X (.BoolOp .Or (y :: rest) pos)) σ H Q) := by
    rw [show tstR (evE Φ (.or a b) G M) = _ from tst_or (evE Φ a G M) fun M1 => evE Φ b G M1]
    refine hA.tst.bind fun p M1 v H1 π1 e1 g1 w1 r1 => ?_
    cases r1
    cases p with
    | false => exact (hb H1 π1 M1 (lr.gr g1) w1).tst
    | true => exact fun Q q => q _ H1 π1 (Gr.refl _ _) w1 rfl
  refine ⟨?_, key.mono fun Q q => twT_of (pw_or (pwT X x) (pwW X _)).pt q, fun op vs p e => ?_, fun _ _ _ _ _ _ e => by cases e⟩
  · refine Ot.mono (T := fun Q => tOrV (tw X x) (tw X (.BoolOp .Or (y :: rest) pos)) σ H Q) ?_ fun Q q => tw_of (pe_or (pw X x) (pw X _)) q
    refine hA.val.bind fun p M1 v H1 π1 e1 g1 w1 r1 => ?_
    split
    · cases dp_bool r1
      refine Ot.mono (T := fun Q => tw X (.BoolOp .Or (y :: rest) pos) σ H1 Q) ?_ fun Q q => ⟨false, rfl, by rw [if_neg Bool.false_ne_true]; exact q⟩
      have h2 := (hb H1 π1 M1 (lr.gr g1) w1).val
      cases e2 : evE Φ b G M1 with
      | no => trivial
      | ex c M2 => rw [e2] at h2; exact h2
      | ok v2 M2 =>
        rw [e2] at h2
        show Ot X σ H1 π1 (match v2 with | .d (.bool c) => R.ok (Val.d (.bool c)) M2 | _ => R.no) _ _
        split
        · exact h2
        · trivial
    · cases dp_bool r1
      exact ot_val w1 fun Q q => ⟨true, rfl, by rw [if_pos rfl]; exact q.bl w1⟩
    · trivial
  · cases e
    exact key.mono fun Q q => twW_of (pw_or (pwT X x) (pwW X _)) q
theorem g_cmp (c : Cxt Φ fa fdo pso k N sc X) {op : Cop} (hm : behindInMarks op.op y = false) (ha : GoodE Φ X σ G x a) (hb : GoodE Φ X σ G y b) : GoodE Φ X σ G (.Compare x [op.op] [y] pos) (.cmp op a b) := by
  intro H π M lr w
  refine good_of (pe_cmpR orW (pw X x) (pw X y) hm) (pt_cmpR orW (pw X x) (pw X y) hm) rfl rfl ?_
  refine (ha H π M lr w).val.bind fun p M1 v H1 π1 e1 g1 w1 r1 => ?_
  refine (hb H1 π1 M1 (lr.gr g1) w1).val.bind fun q M2 u H2 π2 e2 g2 w2 r2 => ?_
  split
  · rename_i p' q' hp hq
    refine Ot.of fun d hd => ?_
    obtain ⟨d', hd', rfl⟩ := Option.map_eq_some_iff.mp hd
    exact ot_val w2 fun Q k σ => ot_cmp c.un65 w2 (w2.view (rv_gr g2 r1) hp) (w2.view r2 hq) hd' (k.bl w2)
  · trivial
theorem dp_int {K : PySem.W.Frag} {Hd : Hp} {v : V} {b : Int} (h : Dp K Hd v (.int b)) : v = .int b := by cases h; rfl
theorem g_chain (ha : GoodE Φ X σ G x a) (hb : GoodE Φ X σ G y b) (hc : GoodE Φ X σ G z c0) : GoodE Φ X σ G (.Compare x [.LtE, .LtE] [y, z] pos) (.chain a b c0) := by
  intro H π M lr w
  refine good_of (pe_chain op_le op_le (pw X x) (pw X y) (pw X z) (show behindInMarks .LtE z = false from nomark z)) (pt_chain op_le op_le (pw X x) (pw X y) (pw X z) (show behindInMarks .LtE z = false from nomark z)) rfl rfl ?_
  refine (ha H π M lr w).val.bind fun p M1 v H1 π1 e1 g1 w1 r1 => ?_
  refine (hb H1 π1 M1 (lr.gr g1) w1).val.bind fun q M2 u H2 π2 e2 g2 w2 r2 => ?_
  split
  · rename_i i j
    cases dp_int r1
    cases dp_int r2
    split
    · rename_i hle
      refine Ot.mono (T := fun Q => tw X z σ H2 fun w' H4 => rI0 (fun i j => V.bl (decide (i ≤ j))) (.int j) w' H4 Q) ?_ fun Q q => ⟨i, j, rfl, rfl, _, rfl, by rw [if_pos (decide_eq_true hle)]; exact q⟩
      refine (hc H2 π2 M2 ((lr.gr g1).gr g2) w2).val.bind fun s M3 t H3 π3 e3 g3 w3 r3 => ?_
      split
      · rename_i l
        cases dp_int r3
        exact ot_val w3 fun Q q => ⟨j, l, rfl, rfl, q.bl w3⟩
      · trivial
    · rename_i hle
      exact ot_val w2 fun Q q => ⟨i, j, rfl, rfl, _, rfl, by rw [if_neg (by simp only [decide_eq_true_eq]; exact hle)]; exact q.bl w2⟩
  · trivial
theorem pt_ife {c : Expr} {tA tB tC : TT} (hc : PT X c tA) (ha : PT X x tB) (hb : PT X y tC) : PT X (.IfExp c x y pos) (fun σ H Q => tA σ H fun b H1 => if b = true then tB σ H1 Q else tC σ H1 Q) := by
  refine ⟨fun pins s σ H Q I h => ?_⟩
  refine isTrue_IfExp (thn (hc.run pins s σ H _ I h) fun d s1 ⟨H1, I1, q1⟩ => ?_)
  cases d with
  | true => exact ha.run pins s1 σ H1 Q I1 q1
  | false => exact hb.run pins s1 σ H1 Q I1 q1
theorem tst_ite (r : R Val) (f g : Sto → R Val) : tstR (r.bind fun x M1 => match x with | .d (.bool true) => f M1 | .d (.bool false) => g M1 | _ => R.no) = (tstR r).bind fun c M1 => if c = true then tstR (f M1) else tstR (g M1) := by
  cases r with
  | no => rfl
  | ex c M => rfl
  | ok v M =>
    cases v with
    | o n => rfl
    | d y =>
      cases y with
      | bool b => cases b <;> rfl
      | _ => rfl
theorem g_ite (hc : GoodE Φ X σ G z c0) (ha : GoodE Φ X σ G x a) (hb : GoodE Φ X σ G y b) : GoodE Φ X σ G (.IfExp z x y pos) (.ite c0 a b) := by
  intro H π M lr w
  have hC := hc H π M lr w
  refine ⟨?_, ?_, fun _ _ _ e => (by cases e), fun _ _ _ _ _ _ e => (by cases e)⟩
  · refine Ot.mono (T := fun Q => tIf (twT X z) (tw X x) (tw X y) σ H Q) ?_ fun Q q => tw_of (pe_ifExp (pwT X z) (pw X x) (pw X y)) q
    have e : evE Φ (.ite c0 a b) G M = (tstR (evE Φ c0 G M)).bind fun c M1 => if c = true then evE Φ a G M1 else evE Φ b G M1 := by
      show (evE Φ c0 G M).bind _ = _
      cases evE Φ c0 G M with
      | no => rfl
      | ex c M => rfl
      | ok v M =>
        cases v with
        | o n => rfl
        | d y =>
          cases y with
          | bool b => cases b <;> rfl
          | _ => rfl
    rw [e]
    refine hC.tst.bind fun p M1 v H1 π1 e1 g1 w1 r1 => ?_
    cases r1
    cases p with
    | true => exact (ha H1 π1 M1 (lr.gr g1) w1).val
    | false => exact (hb H1 π1 M1 (lr.gr g1) w1).val
  · rw [show tstR (evE Φ (.ite c0 a b) G M) = _ from tst_ite (evE Φ c0 G M) (fun M1 => evE Φ a G M1) fun M1 => evE Φ b G M1]
    refine Ot.mono (T := fun Q => twT X z σ H fun b H1 => if b = true then twT X x σ H1 Q else twT X y σ H1 Q) ?_ fun Q q => twT_of (pt_ife (pwT X z) (pwT X x) (pwT X y)) q
    refine hC.tst.bind fun p M1 v H1 π1 e1 g1 w1 r1 => ?_
    cases r1
    cases p with
    | true => exact (ha H1 π1 M1 (lr.gr g1) w1).tst
    | false => exact (hb H1 π1 M1 (lr.gr g1) w1).tst
end
end K75

set_option Elab.async false
set_option linter.all false
set_option autoImplicit false
set_option maxRecDepth 100000
set_option maxHeartbeats 1000000
/-! Part 15: displays, subscripts, fields, calls. -/
namespace K75
open PySem PySem.Spec PyProof.Rows L2
section
variable {Φ : Env} {fa : Fn → Addr} {fdo : Fn → FuncData} {pso : Fn → List Str} {k : Nat} {N : List Str} {sc : Scope} {X : Cx} {σ : L2.St} {G : Loc}
variable {a b c0 : E} {es : Es} {x y z : Expr} {xs : List Expr} {pos apos : Pos}
theorem gs_nil : GoodEs Φ X σ G [] .nil := by
  intro H π M lr w Q q
  exact twA_of pa_nil (q [] H π (Gr.refl _ _) w .nil)
theorem gs_cons {e : E} (hn : nst (x :: xs) = true) (ha : GoodE Φ X σ G x e) (hr : GoodEs Φ X σ G xs es) : GoodEs Φ X σ G (x :: xs) (.cons e es) := by
  intro H π M lr w
  refine Ot.mono (T := fun Q => tCons (tw X x) (twA X xs) σ H Q) ?_ fun Q q => twA_of (pa_cons (pw X x) (pwA X xs) (nst_cons hn).1) q
  refine (ha H π M lr w).val.bind fun p M1 v H1 π1 e1 g1 w1 r1 => ?_
  refine (hr H1 π1 M1 (lr.gr g1) w1).bind fun q M2 u H2 π2 e2 g2 w2 r2 => ?_
  exact fun Q q => q _ H2 π2 (Gr.refl _ _) w2 (.cons (rv_gr g2 r1) r2)
theorem g_tup {j : Nat} (he : GoodEs Φ X σ G xs es) : GoodE Φ X σ G (.Tuple xs j pos) (.tup es) := by
  intro H π M lr w
  refine good_pl (pe_tup (pwA X xs)) rfl rfl ?_
  refine (he H π M lr w).bind fun p M1 v H1 π1 e1 g1 w1 r1 => ?_
  split
  · rename_i ds hd
    split
    · rename_i hl
      have hv := dps_of r1 hd
      exact ot_val w1 fun Q q => ⟨by rw [hv.len, ← lim_eq]; exact hl, q.tup w1 hv⟩
    · trivial
  · trivial
theorem g_lst (he : GoodEs Φ X σ G xs es) : GoodE Φ X σ G (.List xs pos) (.lst es) := by
  intro H π M lr w
  refine good_pl (pe_lst (pwA X xs)) rfl rfl ?_
  refine (he H π M lr w).bind fun p M1 v H1 π1 e1 g1 w1 r1 => ?_
  split
  · rename_i ds hd
    split
    · rename_i hl
      have hv := dps_of r1 hd
      exact ot_val w1 fun Q q => ⟨by rw [hv.len, ← lim_eq]; exact hl, q.lst w1 hv⟩
    · trivial
  · trivial
theorem plainIx_of (h : isSl y = false) : PlainIx y := by
  intro o i
  cases y with
  | Slice l u s p => exact absurd h (by simp [isSl])
  | _ => rfl
theorem g_ix (hs : isSl y = false) (ha : GoodE Φ X σ G x a) (hb : GoodE Φ X σ G y b) : GoodE Φ X σ G (.Subscript x y pos) (.ix a b) := by
  intro H π M lr w
  refine good_pl (pe_ix irW (pw X x) (pw X y) (plainIx_of hs)) rfl rfl ?_
  refine (ha H π M lr w).val.bind fun p M1 v H1 π1 e1 g1 w1 r1 => ?_
  refine (hb H1 π1 M1 (lr.gr g1) w1).val.bind fun q M2 u H2 π2 e2 g2 w2 r2 => ?_
  split
  · rename_i p' q' hp
    refine Ot.of fun d hd => ?_
    obtain ⟨d', hd', rfl⟩ := Option.map_eq_some_iff.mp hd
    exact ot_val w2 fun Q k b σ => ot_ix w2 (w2.view (rv_gr g2 r1) hp) r2 hd' k
  · trivial
theorem g_slTo {p2 : Pos} (ha : GoodE Φ X σ G x a) (hb : GoodE Φ X σ G y b) : GoodE Φ X σ G (.Subscript x (.Slice none (some y) none p2) pos) (.slTo a b) := by
  intro H π M lr w
  refine good_pl (pe_slice (srW (e := y)) (pw X x) po_none (po_some (pw X y))) rfl rfl ?_
  refine (ha H π M lr w).val.bind fun p M1 v H1 π1 e1 g1 w1 r1 => ?_
  refine Ot.mono (T := fun Q => tw X y σ H1 fun u H2 => ∃ i, u = .int i ∧ ∀ σ, tSlv X y y σ v none (some i) H2 Q) ?_ fun Q q => q
  refine (hb H1 π1 M1 (lr.gr g1) w1).val.bind fun q M2 u H2 π2 e2 g2 w2 r2 => ?_
  split
  · rename_i p' q'
    refine Ot.of fun d hd => ?_
    obtain ⟨d', hd', rfl⟩ := Option.map_eq_some_iff.mp hd
    refine ot_val w2 fun Q k => ?_
    obtain ⟨i, e3, _⟩ := ot_slTo (e := y) (slice := y) (σ := σ) w2 (dpSame g2.ex r1) r2 hd' k
    refine ⟨i, e3, fun σ => ?_⟩
    obtain ⟨i', e4, h4⟩ := ot_slTo (e := y) (slice := y) (σ := σ) w2 (dpSame g2.ex r1) r2 hd' k
    rw [e3] at e4; cases e4
    exact h4
  · trivial
theorem g_slFrom {p2 : Pos} (ha : GoodE Φ X σ G x a) (hb : GoodE Φ X σ G y b) : GoodE Φ X σ G (.Subscript x (.Slice (some y) none none p2) pos) (.slFrom a b) := by
  intro H π M lr w
  refine good_pl (pe_slice (srW (e := y)) (pw X x) (po_some (pw X y)) po_none) rfl rfl ?_
  refine (ha H π M lr w).val.bind fun p M1 v H1 π1 e1 g1 w1 r1 => ?_
  refine Ot.mono (T := fun Q => tw X y σ H1 fun u H2 => ∃ i, u = .int i ∧ ∀ σ, tSlv X y y σ v (some i) none H2 Q) ?_ fun Q q => q
  refine (hb H1 π1 M1 (lr.gr g1) w1).val.bind fun q M2 u H2 π2 e2 g2 w2 r2 => ?_
  split
  · rename_i p' q'
    refine Ot.of fun d hd => ?_
    obtain ⟨d', hd', rfl⟩ := Option.map_eq_some_iff.mp hd
    refine ot_val w2 fun Q k => ?_
    obtain ⟨i, e3, _⟩ := ot_slFrom (e := y) (slice := y) (σ := σ) w2 (dpSame g2.ex r1) r2 hd' k
    refine ⟨i, e3, fun σ => ?_⟩
    obtain ⟨i', e4, h4⟩ := ot_slFrom (e := y) (slice := y) (σ := σ) w2 (dpSame g2.ex r1) r2 hd' k
    rw [e3] at e4; cases e4
    exact h4
  · trivial
theorem g_fld (c : Cxt Φ fa fdo pso k N sc X) {f : Fd} (hs : noSup x = true) (ha : GoodE Φ X σ G x a) : GoodE Φ X σ G (.Attribute x f.nm pos) (.fld a f) := by
  intro H π M lr w
  refine good_pl (pe_fld (f := f.nm) (pw X x) (noSup_base hs)) rfl rfl ?_
  refine (ha H π M lr w).val.bind fun p M1 v H1 π1 e1 g1 w1 r1 => ?_
  split
  · rename_i n
    split
    · rename_i cl fs hf
      refine Ot.of fun d hd => ?_
      obtain ⟨ad, dx, vs, rfl, h1, h2, h3⟩ := w1.ins r1 hf
      obtain ⟨u, h4, h5⟩ := h3.look hd
      exact fun Q q => ⟨ad, _, dx, vs, u, rfl, h2, c.facts.cls _, c.facts.noA _ _, h4, q u H1 π1 (Gr.refl _ _) w1 h5⟩
    · trivial
  · trivial
/-! ### calls -/
theorem ot_args {β : Type} {R1 : R (List Val)} {H : Hp} {π : Pl} {fn : List Val → Sto → R Val} {T2 : List V → Hp → (V → Hp → Prop) → Prop} (h : Ot X σ H π R1 (RlA X) (twA X xs σ H))
    (k2 : ∀ vs M1 us H1 π1, Gr H π H1 π1 → Wd X.K H1 π1 M1 → RVs X.K (hid H1 π1) π1 us vs → Ot X σ H1 π1 (fn vs M1) (RlV X) (T2 us H1)) : Ot X σ H π (R1.bind fn) (RlV X) (fun Q => twA X xs σ H fun us H1 => T2 us H1 Q) :=
  h.bind fun vs M1 us H1 π1 _ g1 w1 r1 => k2 vs M1 us H1 π1 g1 w1 r1
theorem g_call (c : Cxt Φ fa fdo pso k N sc X) {f : Fn} (hf : f.cls = none) (hg : glB sc f.nm = true) (hn : nst xs = true) (hl : chkEs N es sc xs = true) (he : GoodEs Φ X σ G xs es) : GoodE Φ X σ G (.Call (.Name f.nm apos) xs [] pos) (.call f es) := by
  intro H π M lr w
  obtain ⟨h1, h2⟩ := gl_of c hg
  obtain ⟨h3, h4⟩ := c.facts.fn f hf
  have run : ∀ vs M1 us H1 π1, Gr H π H1 π1 → Wd X.K H1 π1 M1 → RVs X.K (hid H1 π1) π1 us vs → Ot X σ H1 π1 (Φ f vs M1) (RlV X) (twC X (.ref (fa f)) σ us H1) :=
    fun vs M1 us H1 π1 g1 w1 r1 => ot_run (g := Φ f) (c.fns f) c.g0 c.rm (c.binds f) w1 r1
  cases xs with
  | nil =>
    cases es with
    | nil => exact good_pl (pe_callF0 h1 h3 h4 (okN_of h2).1) rfl rfl (run [] M [] H π (Gr.refl _ _) w .nil)
    | cons e r => exact absurd hl (by simp [chkEs])
  | cons x xs => exact good_pl (pe_callF h1 h3 h4 hn (okN_of h2).1) rfl rfl (ot_args (β := Unit) (he H π M lr w) run)
theorem fd_ne {f : Fn} (hf : f.cls.isSome = true) (g : Fd) : g.nm ≠ f.nm := by
  have z : ∀ (c : Fn × Fd), c.1.cls.isSome = true → c.2.nm ≠ c.1.nm := by
    rintro ⟨f, g⟩ h
    cases f <;> first | (exact absurd h (by decide)) | (cases g <;> decide)
  exact z ⟨f, g⟩ hf
theorem g_meth (c : Cxt Φ fa fdo pso k N sc X) {f : Fn} (hf : f.cls.isSome = true) (n1 : f ≠ .r_init) (n2 : f ≠ .d_init) (hs : noSup x = true) (hn : nst xs = true) (h20 : xs.length < 20) (hp : (apos.endLine == pos.line) = true) (hl : chkEs N es sc xs = true)
    (ha : GoodE Φ X σ G x a) (he : GoodEs Φ X σ G xs es) : GoodE Φ X σ G (.Call (.Attribute x f.nm apos) xs [] pos) (.meth f a es) := by
  intro H π M lr w
  have run : ∀ vs M1 us H1 π1, Wd X.K H1 π1 M1 → RVs X.K (hid H1 π1) π1 us vs → Ot X σ H1 π1 (Φ f vs M1) (RlV X) (twC X (.ref (fa f)) σ us H1) :=
    fun vs M1 us H1 π1 w1 r1 => ot_run (g := Φ f) (c.fns f) c.g0 c.rm (c.binds f) w1 r1
  obtain ⟨cl, hcl⟩ := Option.isSome_iff_exists.mp hf
  have hm := c.facts.mth f cl hcl n1 n2
  cases xs with
  | nil =>
    cases es with
    | nil =>
      refine good_pl (pe_methF0 (c.facts.cls cl) hm hs hp) rfl rfl ?_
      refine (ha H π M lr w).val.bind fun p M1 v H1 π1 e1 g1 w1 r1 => ?_
      split
      · rename_i n
        split
        · rename_i cl2 fs hq
          split
          · rename_i hc
            rw [hcl] at hc; cases hc
            obtain ⟨ad, dx, vs, rfl, h1, h2, h3⟩ := w1.ins r1 hq
            exact (run [.o n] M1 [.ref ad] H1 π1 w1 (.cons r1 .nil)).mono fun Q q => ⟨⟨ad, dx, vs, rfl, h2, h3.none (fd_ne hf)⟩, q⟩
          · trivial
        · trivial
      · trivial
    | cons e r => exact absurd hl (by simp [chkEs])
  | cons y ys =>
    refine good_pl (pe_methF (c.facts.cls cl) hm hs hn h20 hp) rfl rfl ?_
    refine (ha H π M lr w).val.bind fun p M1 v H1 π1 e1 g1 w1 r1 => ?_
    split
    · rename_i n
      split
      · rename_i cl2 fs hq
        split
        · rename_i hc
          rw [hcl] at hc; cases hc
          obtain ⟨ad, dx, vs, rfl, h1, h2, h3⟩ := w1.ins r1 hq
          refine Ot.mono (T := fun Q => twA X (y :: ys) σ H1 fun us H2 => twC X (.ref (fa f)) σ (.ref ad :: us) H2 Q) ?_ fun Q q => ⟨⟨ad, dx, vs, rfl, h2, h3.none (fd_ne hf)⟩, q⟩
          exact ot_args (β := Unit) (he H1 π1 M1 (lr.gr g1) w1) fun ws M2 us H2 π2 g2 w2 r2 => run (.o n :: ws) M2 (.ref ad :: us) H2 π2 w2 (.cons (rv_gr g2 r1) r2)
        · trivial
      · trivial
    · trivial
theorem g_mk (c : Cxt Φ fa fdo pso k N sc X) {cl : Cl} (hg : glB sc cl.nm = true) (hn : nst xs = true) (hl : chkEs N es sc xs = true) (he : GoodEs Φ X σ G xs es) : GoodE Φ X σ G (.Call (.Name cl.nm apos) xs [] pos) (.mk cl es) := by
  intro H π M lr w
  obtain ⟨h1, h2⟩ := gl_of c hg
  have run : ∀ vs M1 us H1 π1, Gr H π H1 π1 → Wd X.K H1 π1 M1 → RVs X.K (hid H1 π1) π1 us vs → Ot X σ H1 π1 ((Φ cl.init (.o M1.length :: vs) (M1 ++ [.ins cl []])).bind fun r M2 => match r with | .d .none => R.ok (Val.o M1.length) M2 | _ => R.no) (RlV X) (twC X (.ref (cA X.K cl)) σ us H1) :=
    fun vs M1 us H1 π1 g1 w1 r1 => ot_make (g := Φ cl.init) (c.facts.mk_ cl) (c.fns cl.init) c.g0 c.room (c.binds cl.init) w1 r1
  cases xs with
  | nil =>
    cases es with
    | nil => exact good_pl (pe_callF0 h1 (c.facts.cl cl) (c.facts.mk_ cl).kp (okN_of h2).1) rfl rfl (run [] M [] H π (Gr.refl _ _) w .nil)
    | cons e r => exact absurd hl (by simp [chkEs])
  | cons x xs => exact good_pl (pe_callF h1 (c.facts.cl cl) (c.facts.mk_ cl).kp hn (okN_of h2).1) rfl rfl (ot_args (β := Unit) (he H π M lr w) run)
end
end K75

set_option Elab.async false
set_option linter.all false
set_option autoImplicit false
set_option maxRecDepth 100000
set_option maxHeartbeats 1000000
/-! Part 16: builtins called, methods of builtin types, a display's pick. -/
namespace K75
open PySem PySem.Spec PyProof.Rows L2
section
variable {Φ : Env} {fa : Fn → Addr} {fdo : Fn → FuncData} {pso : Fn → List Str} {k : Nat} {N : List Str} {sc : Scope} {X : Cx} {σ : L2.St} {G : Loc}
variable {a b c0 : E} {es : Es} {x y z : Expr} {xs : List Expr} {pos apos : Pos}
theorem boot_bi (b : Bi) : bootBuiltins b.nm = some b.fn := by cases b <;> decide +kernel
theorem bi_mem (b : Bi) : b.nm ∈ bnames := by cases b <;> decide
theorem boot_ty (t : Ty) : bootBuiltins t.sn = some (.type t.nm) := by cases t <;> decide +kernel
theorem ty_mem (t : Ty) : t.sn ∈ bnames := by cases t <;> decide
theorem pe_bi {b : Bi} (hg : Gl X b.nm) (hm : X.mg b.nm = none) (hk : okN b.nm = true) (hn : nst (y :: xs) = true) : PE X (.Call (.Name b.nm apos) (y :: xs) [] pos) (fun σ H Q => twA X (y :: xs) σ H fun vs H1 => ∀ σ, twC X b.fn σ vs H1 Q) := by
  obtain ⟨h1, h2⟩ := nst_cons (env := X.env) hn
  have e := boot_bi b
  cases b <;> first
    | exact pe_callB crW hg hm e (pwA X _) (okN_of hk).2.2 (okN_of hk).1 h1 (nst_plain h2)
    | exact pe_callTy crW hg hm e (pwA X _) (okN_of hk).2.2 (okN_of hk).1 h1 (nst_plain h2)
theorem g_bi (c : Cxt Φ fa fdo pso k N sc X) {b : Bi} (hg : glB sc b.nm = true) (hn : nst (y :: xs) = true) (he : GoodEs Φ X σ G (y :: xs) es) : GoodE Φ X σ G (.Call (.Name b.nm apos) (y :: xs) [] pos) (.bi b es) := by
  intro H π M lr w
  obtain ⟨h1, h2⟩ := gl_of c hg
  refine good_pl (pe_bi h1 (c.facts.free _ (bi_mem b)) h2 hn) rfl rfl ?_
  refine (he H π M lr w).bind fun p M1 v H1 π1 e1 g1 w1 r1 => ?_
  split
  · rename_i ds hd
    refine Ot.of fun d hd2 => ?_
    obtain ⟨d', hd', rfl⟩ := Option.map_eq_some_iff.mp hd2
    exact ot_val w1 fun Q k σ => ot_bi c.calm c.un c.g0 w1 (w1.views r1 hd) hd' k
  · trivial
theorem g_isi (c : Cxt Φ fa fdo pso k N sc X) {t : Ty} {zp : Pos} (hg : glB sc ("isinstance" : Str) = true) (hz : glB sc t.sn = true) (hn : nst [y] = true) (ha : GoodE Φ X σ G y a) : GoodE Φ X σ G (.Call (.Name "isinstance" apos) [y, .Name t.sn zp] [] pos) (.isi a t) := by
  intro H π M lr w
  obtain ⟨h1, h2⟩ := gl_of c hg
  obtain ⟨h3, h4⟩ := gl_of c hz
  have hn2 : nst [y, .Name t.sn zp] = true := by simp only [nst, Bool.and_eq_true] at hn ⊢; exact ⟨hn.1, rfl, trivial⟩
  obtain ⟨q1, q2⟩ := nst_cons (env := X.env) hn2
  have hty : PE X (.Name t.sn zp) (tC (.ty t.nm)) := pe_bltn h3 (c.facts.free _ (ty_mem t)) (boot_ty t) rfl (okN_of h4).2.2 (okN_of h4).1
  refine good_pl (pe_callB (id := "isinstance") crW h1 (c.facts.free _ (by decide)) (by decide +kernel) (pa_cons (pw X y) (pa_cons hty pa_nil) q1) (okN_of h2).2.2 (okN_of h2).1 q1 (nst_plain q2)) rfl rfl ?_
  refine (ha H π M lr w).val.bind fun p M1 v H1 π1 e1 g1 w1 r1 => ?_
  split
  · exact ot_val w1 fun Q q σ => ot_isi (.inl r1) t (q.bl w1)
  · trivial
theorem few_one (hn : nst [y] = true) {cpos : Pos} : ((backTo cpos (starEach [y] X.env)).all (fun x => !x.1) && (backToKw cpos (keywordEach [] X.env)).all (fun x => x.1.isSome)
      && decide ((([y] : List Expr)).length + ([] : List Keyword).length + (if ([] : List Keyword).isEmpty then 0 else 1) < 30)) = true := by
  rw [nst_all hn]; rfl
theorem plain_dm (m : Dm) : PlainAttrs m.ty := by cases m <;> exact PySem.F.plainAttrs_str
theorem slot_dm (m : Dm) : Slot m.ty m.nm m.id := by
  cases m with
  | join => exact PySem.F.slot_str_join
  | startswith => exact PySem.F.slot_str_startswith
theorem type_dm (m : Dm) : typeOf (.builtin m.id) = pure (.type "method_descriptor") := by
  cases m with
  | join => exact PySem.F.type_str_join
  | startswith => exact PySem.F.type_str_startswith
theorem g_dm (c : Cxt Φ fa fdo pso k N sc X) {m : Dm} (hs : noSup x = true) (hp : (apos.endLine == pos.line) = true) (hn : nst [y] = true) (ha : GoodE Φ X σ G x a) (hb : GoodE Φ X σ G y b) : GoodE Φ X σ G (.Call (.Attribute x m.nm apos) [y] [] pos) (.dm m a b) := by
  intro H π M lr w
  obtain ⟨q1, q2⟩ := nst_cons (env := X.env) hn
  refine good_pl (pe_bm (plain_dm m) (slot_dm m) (type_dm m) mrW (pw X x) (pa_cons (pw X y) pa_nil q1) (noSup_base hs) (few_one hn) hp q1 (nst_plain q2)) rfl rfl ?_
  refine (ha H π M lr w).val.bind fun p M1 v H1 π1 e1 g1 w1 r1 => ?_
  split
  · rename_i z
    have e3 : v = .str z := by cases r1; rfl
    refine Ot.mono (T := fun Q => tw X y σ H1 fun u H2 => ∀ σ, twM X m.id σ v [u] H2 Q) ?_ fun Q q => ⟨by rw [e3]; cases m <;> rfl, q⟩
    refine (hb H1 π1 M1 (lr.gr g1) w1).val.bind fun q M2 u H2 π2 e2 g2 w2 r2 => ?_
    split
    · refine Ot.of fun d hd => ?_
      obtain ⟨d', hd', rfl⟩ := Option.map_eq_some_iff.mp hd
      exact ot_val w2 fun Q k σ => ot_dm w2 (dpSame g2.ex r1) r2 hd' k
    · trivial
  · trivial
theorem g_pop (c : Cxt Φ fa fdo pso k N sc X) (hs : noSup x = true) (hp : (apos.endLine == pos.line) = true) (ha : GoodE Φ X σ G x a) : GoodE Φ X σ G (.Call (.Attribute x "pop" apos) [] [] pos) (.pop a) := by
  intro H π M lr w
  refine good_pl (pe_bm0 PySem.F.plainAttrs_list PySem.F.slot_list_pop PySem.F.type_list_pop mt_pop (pw X x) (noSup_base hs) hp) rfl rfl ?_
  refine (ha H π M lr w).val.bind fun p M1 v H1 π1 e1 g1 w1 r1 => ?_
  split
  · rename_i n
    split
    · rename_i ys hy
      split
      · rename_i d hd
        obtain ⟨ad, vs, rfl, h1, h2, h3⟩ := w1.lst r1 hy
        rw [List.getLast?_eq_getElem?] at hd
        obtain ⟨u, h4, h5⟩ := h3.at' hd
        intro Q q
        refine ⟨.inl ⟨rfl, vs, .of h2⟩, ad, vs, u, rfl, rfl, h2, by rw [h3.len]; exact h4, ?_⟩
        obtain ⟨g2, w2⟩ := w1.write (o := .lst vs.dropLast) (m := .lst ys.dropLast) h1 ⟨vs.dropLast, upd_same, by
          rw [List.dropLast_eq_take, List.dropLast_eq_take, h3.len]
          exact h3.take' _⟩
        exact q _ _ π1 g2 w2 (dpSame g2.ex h5)
      · trivial
    · trivial
  · trivial
theorem g_tix (c : Cxt Φ fa fdo pso k N sc X) {n : Str} {d : PyData} {np : Pos} (h2 : glB sc n = true) (h3 : gdat.lookup n = some d) (hp : (apos.endLine == pos.line) = true) (hn : nst [y] = true) (hb : GoodE Φ X σ G y b) : GoodE Φ X σ G (.Call (.Attribute (.Name n np) "index" apos) [y] [] pos) (.tix n d b) := by
  intro H π M lr w
  obtain ⟨v, u, e1, e2, e3, e4⟩ := c.facts.dat n d h3
  obtain ⟨h4, h5⟩ := gl_of c h2
  obtain ⟨q1, q2⟩ := nst_cons (env := X.env) hn
  refine good_pl (pe_bm PySem.F.plainAttrs_tuple PySem.F.slot_tuple_index PySem.F.type_tuple_index mrW (pe_glob h4 e1 e2 (okN_of h5).1) (pa_cons (pw X y) pa_nil q1) (noSup_base rfl) (few_one hn) hp q1 (nst_plain q2)) rfl rfl ?_
  show Ot X σ H π (match d with
    | .tuple zs => (evE Φ b G M).bind fun y M1 => match y with
      | .d q => R.of ((tixD (.tuple zs) q).map Val.d) M1
      | _ => R.no
    | _ => R.no) _ _
  split
  · have key : tyV X.K "tuple" v H := by
      cases e3 with
      | @tup a xs ds s r =>
        refine .inr (.inl ⟨rfl, ?_⟩)
        rcases s with (s | ⟨o, s⟩) | ⟨o, its, n, s1, s2, _⟩
        · cases s
        · cases s
        · exact ⟨o, s1, s2, e4 _ o rfl s1⟩
    refine Ot.mono (T := fun Q => tw X y σ H fun u H2 => ∀ σ, twM X "tuple.index" σ v [u] H2 Q) ?_ fun Q q => ⟨key, q⟩
    refine (hb H π M lr w).val.bind fun q M2 u H2 π2 e2 g2 w2 r2 => ?_
    split
    · refine Ot.of fun d' hd => ?_
      obtain ⟨d'', hd', rfl⟩ := Option.map_eq_some_iff.mp hd
      exact ot_val w2 fun Q k σ => ot_tix w2 (dpSame (fun _ _ z => by cases z) e3) r2 hd' k
    · trivial
  · trivial
/-! ### one of a display -/
def kvOf : List Str → List V → List (Key × V)
  | [], _ => []
  | _, [] => []
  | k :: ks, v :: vs => (.inr k, v) :: kvOf ks vs
theorem kv_len : ∀ {ks : List Str} {vs : List V}, (kvOf ks vs).length ≤ ks.length
  | [], _ => by simp [kvOf]
  | _ :: _, [] => by simp [kvOf]
  | k :: ks, v :: vs => by
    have := kv_len (ks := ks) (vs := vs)
    simp only [kvOf, List.length_cons]; omega
theorem kv_val {Hd : Hp} {z : Str} {K : PySem.W.Frag} : ∀ {ks : List Str} {vs : List V} {ds : List PyData} {d : PyData}, DpAll K Hd vs ds → (ks.zip ds).lookup z = some d → ∃ v, valV (kvOf ks vs) (.inr z) = some v ∧ Dp K Hd v d
  | [], _, _, _, _, h => by simp at h
  | _ :: _, _, _, _, .nil, h => by simp at h
  | k :: ks, _, _, d, .cons (v := v) (vs := vs) (d := d0) (ds := ds) a r, h => by
    rw [List.zip_cons_cons, List.lookup_cons] at h
    by_cases e : z = k
    · subst e
      rw [beq_self_eq_true] at h
      cases h
      exact ⟨v, valV_pos rfl, a⟩
    · have e2 : (z == k) = false := by rw [beq_eq_false_iff_ne]; exact e
      rw [e2] at h
      obtain ⟨u, h1, h2⟩ := kv_val r h
      exact ⟨u, (valV_neg (fun q => e (Sum.inr.inj q).symm)).trans h1, h2⟩
theorem kv_mem : ∀ {ks : List Str} {vs : List V} {p : Key × V}, p ∈ kvOf ks vs → ∃ k ∈ ks, p.1 = .inr k
  | [], _, _, h => by simp [kvOf] at h
  | _ :: _, [], _, h => by simp [kvOf] at h
  | k :: ks, v :: vs, p, h => by
    simp only [kvOf, List.mem_cons] at h
    rcases h with rfl | h
    · exact ⟨k, List.mem_cons_self, rfl⟩
    · obtain ⟨k', h1, h2⟩ := kv_mem h
      exact ⟨k', List.mem_cons_of_mem _ h1, h2⟩
theorem kv_merge : ∀ {ks : List Str} {vs : List V} (acc : List (Key × V)), ks.Nodup → (∀ p ∈ acc, ∀ k ∈ ks, p.1 ≠ .inr k) → mergeK acc (kvOf ks vs) = acc ++ kvOf ks vs
  | [], _, acc, _, _ => by simp [kvOf, mergeK]
  | _ :: _, [], acc, _, _ => by simp [kvOf, mergeK]
  | k :: ks, v :: vs, acc, nd, h => by
    have nd' := List.nodup_cons.mp nd
    have e : putK acc (.inr k) v = acc ++ [(.inr k, v)] := by
      unfold putK
      rw [if_neg]
      intro hh
      obtain ⟨p, hp, hk⟩ := List.any_eq_true.mp hh
      exact h p hp k List.mem_cons_self (decide_eq_true_eq.mp hk)
    have e2 : mergeK acc (kvOf (k :: ks) (v :: vs)) = mergeK (acc ++ [(.inr k, v)]) (kvOf ks vs) := by rw [← e]; rfl
    rw [e2, kv_merge (ks := ks) (vs := vs) (acc ++ [((Sum.inr k : Key), v)]) nd'.2 (by
      intro p hp k' hk'
      rcases List.mem_append.mp hp with hp | hp
      · exact h p hp k' (List.mem_cons_of_mem _ hk')
      · have : p = (.inr k, v) := by simpa using hp
        subst this
        exact fun q => nd'.1 (by rw [Sum.inr.inj q]; exact hk'))]
    simp [kvOf]
/-- the display's pairs: texts and constants -/
theorem pick_pairs (c : Cxt Φ fa fdo pso k N sc X) : ∀ {ks : List Str} {keys : List (Option Expr)} {gs : List (Str × PyData)} {vals : List Expr}, keysOf ks keys = true → valsOf sc gs vals = true → keys.length = vals.length →
    ∃ (vs : List V) (trs : List (TE × TE)), PPs X pos keys vals trs ∧ DpAll X.K (fun _ => none) vs (gs.map (·.2)) ∧ ∀ σ H (Q : List (V × V) → Hp → Prop), Q ((kvOf ks vs).map fun kv => (kV kv.1, kv.2)) H → tPairs trs σ H Q
  | [], [], [], [], _, _, _ => ⟨[], [], pps_nil, .nil, fun σ H Q q => q⟩
  | [], [], _ :: _, [], _, h, _ => by simp [valsOf] at h
  | [], [], _, _ :: _, _, _, h => by simp at h
  | [], _ :: _, _, _, h, _, _ => by simp [keysOf] at h
  | _ :: _, [], _, _, h, _, _ => by simp [keysOf] at h
  | _ :: _, _ :: _, _, [], _, _, h => by simp at h
  | _ :: _, _ :: _, [], _ :: _, _, h, _ => by simp [valsOf] at h
  | kk :: ks, ke :: keys, (gx, gd) :: gs, ve :: vals, h1, h2, h3 => by
    unfold keysOf at h1
    split at h1
    · rename_i heq; cases heq
    · rename_i k' ks' z j p r e1 e2
      cases e1
      cases e2
      rw [Bool.and_eq_true] at h1
      unfold valsOf at h2
      split at h2
      · rename_i heq _; cases heq
      · rename_i x' d' gs' y' p' r' e3 e4
        cases e3
        cases e4
        simp only [Bool.and_eq_true, decide_eq_true_eq, beq_iff_eq] at h2
        obtain ⟨⟨⟨q1, q2⟩, q3⟩, q4⟩ := h2
        obtain ⟨v, u, f1, f2, f3, _⟩ := c.facts.dat _ _ q3
        obtain ⟨q5, q6⟩ := gl_of c q2
        have e5 := beq_iff_eq.mp h1.1
        subst e5
        obtain ⟨vs, trs, p1, p2, p3⟩ := pick_pairs c h1.2 q4 (by simpa using h3)
        exact ⟨v :: vs, (tC (.str kk), tC v) :: trs, pps_cons pe_str (pe_glob q5 f1 f2 (okN_of q6).1) p1, .cons f3 p2, fun σ H Q q => p3 σ H _ q⟩
      · cases h2
    · cases h1
theorem keys_ok : ∀ {ks : List Str} {keys : List (Option Expr)}, keysOf ks keys = true → ks.length = keys.length ∧ keys.all (·.isSome) = true := by
  intro ks
  induction ks with
  | nil =>
    intro keys h
    cases keys with
    | nil => exact ⟨rfl, rfl⟩
    | cons a r => simp [keysOf] at h
  | cons kk ks ih =>
    intro keys h
    unfold keysOf at h
    split at h
    · rename_i heq; cases heq
    · rename_i k' ks' z j p r e1
      cases e1
      rw [Bool.and_eq_true] at h
      obtain ⟨h1, h2⟩ := ih h.2
      exact ⟨by rw [List.length_cons, List.length_cons, h1], by rw [List.all_cons, h2]; rfl⟩
    · cases h
/-- back from where something was set apart -/
theorem apart_back {K : PySem.W.Frag} {H H1 H' : Hp} {π π' : Pl} {M' : Sto} {D : Addr} (e : hid H1 (π.mk_ D) = hid H π) (st : ∀ b ∈ π.ex, H1 b = H b) (g : Gr H1 (π.mk_ D) H' π') (w : Wd K H' π' M') :
    ∃ π0 : Pl, π' = π0.mk_ D ∧ Gr H π H' π0 ∧ Wd K H' π0 M' ∧ D ∉ π0.all ∧ H' D = H1 D := by
  obtain ⟨ad, ex⟩ := π'
  have h1 : ex = D :: π.ex := g.exs
  subst h1
  obtain ⟨w2, n2⟩ := (show Wd K H' ((⟨ad, π.ex⟩ : Pl).mk_ D) M' from w).join
  refine ⟨⟨ad, π.ex⟩, rfl, ⟨g.pre, rfl, ?_, fun b hb => (g.st b (List.mem_cons_of_mem _ hb)).trans (st b hb)⟩, w2, n2, g.st D List.mem_cons_self⟩
  have z := g.ex
  rw [e] at z
  exact z.trans (hid_join (π := ⟨ad, π.ex⟩) (D := D))
theorem locR_apart {K : PySem.W.Frag} {H H1 : Hp} {π : Pl} {D : Addr} (e : hid H1 (π.mk_ D) = hid H π) (l : LocR K (hid H π) π σ G) : LocR K (hid H1 (π.mk_ D)) (π.mk_ D) σ G := by
  rw [e]
  exact ⟨l.len, fun i x h => let ⟨v, h1, h2⟩ := l.at_ i x h; ⟨v, h1, rv_mk.mp h2⟩⟩
theorem g_pick (c : Cxt Φ fa fdo pso k N sc X) {ks : List Str} {keys : List (Option Expr)} {gs : List (Str × PyData)} {vals : List Expr} {dp : Pos} (h1 : keysOf ks keys = true) (h2 : valsOf sc gs vals = true) (h3 : keys.length = vals.length) (h4 : keys.length ≤ 15) (h5 : 0 < keys.length) (h6 : ks.Nodup) (hs : isSl y = false)
    (ha : GoodE Φ X σ G y a) : GoodE Φ X σ G (.Subscript (.Dict keys vals dp) y pos) (.pick ks gs a) := by
  intro H π M lr w
  obtain ⟨vs, trs, p1, p2, p3⟩ := pick_pairs (pos := dp) c h1 h2 h3
  obtain ⟨lk, hall⟩ := keys_ok h1
  refine good_pl (pe_dget (by have := c.un; omega) (pe_disp p1 hall h3 (fun e => by rw [e] at h5; exact absurd h5 (by decide)) h4) (pw X y) (plainIx_of hs)) rfl rfl ?_
  -- the display stands apart while the key is found
  have go : ∀ p, H p = none → hid (upd (upd H p (.dK [])) p (.dK (kvOf ks vs))) (π.mk_ p) = hid H π ∧ (∀ b ∈ π.ex, (upd (upd H p (.dK [])) p (.dK (kvOf ks vs))) b = H b) ∧ Wd X.K (upd (upd H p (.dK [])) p (.dK (kvOf ks vs))) (π.mk_ p) M := by
    intro p hp
    obtain ⟨w2, e2⟩ := (w.apart (o := .dK []) hp).fill (.dK (kvOf ks vs))
    refine ⟨e2.trans (hid_mk hp), fun b hb => ?_, w2⟩
    obtain ⟨o, eo⟩ := w.lv b hb
    have nb : b ≠ p := fun z => by rw [z, hp] at eo; cases eo
    rw [upd_ne nb, upd_ne nb]
  have red : ∀ Q : VK, (∀ p, H p = none → tw X y σ (upd (upd H p (.dK [])) p (.dK (kvOf ks vs))) fun z H2 => ∃ a v, V.ref p = .ref a ∧ DGet H2 a z (some v) ∧ Q v H2) → tDGet (tDisp trs) (tw X y) σ H Q := by
    intro Q q p hp
    refine p3 σ _ _ ⟨upd_same, kvOf ks vs, rfl, Nat.le_trans kv_len (by rw [lk]; exact h4), ?_⟩
    rw [show mergeK [] (kvOf ks vs) = [] ++ kvOf ks vs from kv_merge [] h6 (fun p hp => by cases hp), List.nil_append]
    exact q p hp
  show Ot X σ H π ((evE Φ a G M).bind fun x M1 => R.of ((pickD ks (gs.map (·.2)) x).map Val.d) M1) _ _
  refine Ot.mono ?_ red
  cases hE : evE Φ a G M with
  | no => trivial
  | ex cc M2 =>
    intro W tk hw Q p hp
    obtain ⟨f1, f2, f3⟩ := go p hp
    have hA := (ha _ (π.mk_ p) M (locR_apart f1 lr) f3).val
    rw [hE] at hA
    refine hA W tk (fun H' π' g' w' => ?_) _
    obtain ⟨π0, rfl, g0, w0, n0, e0⟩ := apart_back f1 f2 g' w'
    exact hw H' π0 g0 w0
  | ok v M2 =>
    refine Ot.of fun d' hd => ?_
    obtain ⟨d, hd', rfl⟩ := Option.map_eq_some_iff.mp hd
    intro Q q p hp
    obtain ⟨f1, f2, f3⟩ := go p hp
    have hA := (ha _ (π.mk_ p) M (locR_apart f1 lr) f3).val
    rw [hE] at hA
    refine hA _ fun u H' π' g' w' ru => ?_
    obtain ⟨π0, rfl, g0, w0, n0, e0⟩ := apart_back f1 f2 g' w'
    unfold pickD at hd'
    split at hd'
    · rename_i z
      have eu : u = .str z := by cases ru; rfl
      obtain ⟨v0, h7, h8⟩ := kv_val p2 hd'
      refine ⟨p, v0, rfl, ?_, q v0 H' π0 g0 w0 (dpSame (fun _ _ z => by cases z) h8)⟩
      have hp' : H' p = some (.dK (kvOf ks vs)) := by rw [e0, upd_same]
      have := DGet.k (k := .inr z) hp'
      rw [h7] at this
      rw [eu]
      exact this
    · cases hd'
end
end K75

set_option Elab.async false
set_option linter.all false
set_option autoImplicit false
set_option maxRecDepth 100000
set_option maxHeartbeats 1000000
/-! Part 17: comprehensions. -/
namespace K75
open PySem PySem.Spec PyProof.Rows L2
section
variable {K : PySem.W.Frag}
theorem rv_to {Hd Hd' : Hp} {π π' : Pl} (e : Same Hd Hd') (p : ∃ r, π'.ad = π.ad ++ r) {v : V} : ∀ {x : Val}, RV K Hd π v x → RV K Hd' π' v x
  | .d _, h => dpSame e h
  | .o _, ⟨a, h, q⟩ => ⟨a, by
    obtain ⟨r, z⟩ := p
    rw [z, List.getElem?_append_left (List.getElem?_eq_some_iff.mp h).1]
    exact h, q⟩
theorem locR_to {Hd Hd' : Hp} {π π' : Pl} {σ : L2.St} {G : Loc} (e : Same Hd Hd') (p : ∃ r, π'.ad = π.ad ++ r) (l : LocR K Hd π σ G) : LocR K Hd' π' σ G :=
  ⟨l.len, fun i x h => let ⟨v, h1, h2⟩ := l.at_ i x h; ⟨v, h1, rv_to e p h2⟩⟩
/-! ### what is walked, whatever stands for it -/
theorem walkL {a : Addr} {n : Nat} : Walk (Itl K a) n (fun H => ∃ xs, SqL K H a xs ∧ xs.length = n) (fun i H x H' => H' = H ∧ ∀ xs, SqL K H a xs → xs[i]? = some x) :=
  ⟨fun i _ hi ⟨xs, q, e⟩ => ⟨xs, xs[i]'(by rw [e]; exact hi), q, by simp [e, hi]⟩, fun _ ⟨xs, q, e⟩ => ⟨xs, q, Nat.le_of_eq e⟩, fun _ _ _ _ _ _ y => y⟩
theorem walkT {a : Addr} {n : Nat} : Walk (Itt K a) n (fun H => ∃ xs, SqT K H a xs ∧ xs.length = n) (fun i H x H' => H' = H ∧ ∀ xs, SqT K H a xs → xs[i]? = some x) :=
  ⟨fun i _ hi ⟨xs, q, e⟩ => ⟨xs, xs[i]'(by rw [e]; exact hi), q, by simp [e, hi]⟩, fun _ ⟨xs, q, e⟩ => ⟨xs, q, Nat.le_of_eq e⟩, fun _ _ _ _ _ _ y => y⟩
theorem walkZ {a b : Addr} {n : Nat} : Walk (RZ.ItzT K a b) n (fun H => ∃ xs ys, SqT K H a xs ∧ SqT K H b ys ∧ min xs.length ys.length = n)
    (fun i H v H' => ∃ T x y, v = .ref T ∧ H T = none ∧ H' = upd H T (.tup [x, y]) ∧ (∀ xs, SqT K H a xs → xs[i]? = some x) ∧ ∀ ys, SqT K H b ys → ys[i]? = some y) := by
  refine ⟨fun i H hi ⟨xs, ys, q1, q2, e⟩ => ?_, fun H ⟨xs, ys, q1, q2, e⟩ => ⟨xs, ys, q1, q2, by omega⟩, fun _ _ _ _ _ _ y => y⟩
  have h1 : i < xs.length := by omega
  have h2 : i < ys.length := by omega
  exact ⟨xs, ys, xs[i], ys[i], q1, q2, by simp [h1], by simp [h2]⟩
end
section
variable {X : Cx} {σ : L2.St} {G : Loc}
theorem compL_cons {put : PyData → Option Loc} {c elt : Loc → Sto → R Val} {x : PyData} {r acc ys : List PyData} {M M' : Sto} (h : compL put c elt (x :: r) M acc = .ok ys M') :
    ∃ G2 b M2, put x = some G2 ∧ c G2 M = .ok (.d (.bool b)) M2 ∧ (b = true → ∃ y M3, elt G2 M2 = .ok (.d y) M3 ∧ acc.length < lim ∧ compL put c elt r M3 (acc ++ [y]) = .ok ys M') ∧ (b = false → compL put c elt r M2 acc = .ok ys M') := by
  simp only [compL] at h
  cases hput : put x with
  | none => rw [hput] at h; cases h
  | some G2 =>
    rw [hput] at h
    simp only at h
    cases hC : c G2 M with
    | no => rw [hC] at h; cases h
    | ex cc M2 => rw [hC] at h; cases h
    | ok b M2 =>
      rw [hC] at h
      simp only [R.bind] at h
      split at h
      · cases hE : elt G2 M2 with
        | no => rw [hE] at h; cases h
        | ex cc M3 => rw [hE] at h; cases h
        | ok y M3 =>
          rw [hE] at h
          simp only at h
          split at h
          · rename_i yd
            split at h
            · rename_i hl
              exact ⟨G2, true, M2, rfl, hC, fun _ => ⟨yd, M3, hE, hl, h⟩, fun z => by cases z⟩
            · cases h
          · cases h
      · exact ⟨G2, false, M2, rfl, hC, (fun z => by cases z), fun _ => h⟩
      · cases h
/-- what a walk must keep to -/
def HG (X : Cx) (H1 : Hp) (π1 : Pl) (Kst : Sto → Prop) (Gw : Hp → Prop) : Prop := ∀ H π M, Same (hid H1 π1) (hid H π) → (∃ r, π.ad = π1.ad ++ r) → Wd X.K H π M → Kst M → Gw H
def HY (X : Cx) (H1 : Hp) (π1 : Pl) (Kst : Sto → Prop) (xs : List PyData) (Y : Nat → Hp → V → Hp → Prop) : Prop := ∀ i x H H' π M, i < xs.length → Same (hid H1 π1) (hid H π) → (∃ r, π.ad = π1.ad ++ r) → Wd X.K H π M → Kst M → Y i H x H' →
  Gr H π H' π ∧ Wd X.K H' π M ∧ ∀ d, xs[i]? = some d → Dp X.K (hid H' π) x d
theorem lc_run {H1 : Hp} {π1 : Pl} {M1 M' : Sto} {vs : List Nat} {put : PyData → Option Loc} {c elt : Loc → Sto → R Val} {xs ys : List PyData} {J : It} {Gw : Hp → Prop} {Y : Nat → Hp → V → Hp → Prop} {g : TG} {tt : TT} {te : TE} {Kst : Sto → Prop} {Q : VK}
    (w1 : Wd X.K H1 π1 M1) (l1 : LocR X.K (hid H1 π1) π1 σ G) (k1 : Kst M1) (res : compL put c elt xs M1 [] = .ok ys M')
    (wk : Walk J xs.length Gw Y) (hG : HG X H1 π1 Kst Gw) (hY : HY X H1 π1 Kst xs Y)
    (hT : ∀ x d G2 H π, put d = some G2 → Dp X.K (hid H π) x d → LocR X.K (hid H π) π σ G → ∀ Q : L2.St → Hp → Prop, (∀ σ2, LocR X.K (hid H π) π σ2 G2 → wipe σ2 vs = wipe σ vs → Q σ2 H) → g x (wipe σ vs) H Q)
    (hc : ∀ σ2 G2 H π M b M2, LocR X.K (hid H π) π σ2 G2 → Wd X.K H π M → c G2 M = .ok (.d (.bool b)) M2 → Kst M → Kst M2 ∧ ∀ Q : Bool → Hp → Prop, (∀ H' π', Gr H π H' π' → Wd X.K H' π' M2 → Q b H') → tt σ2 H Q)
    (he : ∀ σ2 G2 H π M y M2, LocR X.K (hid H π) π σ2 G2 → Wd X.K H π M → elt G2 M = .ok (.d y) M2 → Kst M → Kst M2 ∧ ∀ Q : VK, (∀ a H' π', Gr H π H' π' → Wd X.K H' π' M2 → Dp X.K (hid H' π') a y → Q a H') → te σ2 H Q)
    (q : ∀ a H' π', Gr H1 π1 H' π' → Wd X.K H' π' M' → Dp X.K (hid H' π') a (.list ys) → Q a H') (D : Addr) (hD : H1 D = none) :
    ∃ W : Nat → Nat → Hp → Prop, (∃ m, W 0 m (upd H1 D (.lst []))) ∧ ∀ i m H, W i m H →
      (J.stop i H ∧ Q (.ref D) H) ∨ (J.go i H ∧ ∃ Nx : Hp → Prop, (∀ H', Nx H' → ∃ m', m' < m ∧ W (i + 1) m' H') ∧ ∀ x H', J.yld i H x H' → g x (wipe σ vs) H' fun σ2 H2 => wipe σ2 vs = wipe σ vs ∧ tt σ2 H2 fun b H3 =>
        if b = true then te σ2 H3 fun y H4 => ∃ acc, H4 D = some (.lst acc) ∧ acc.length < sizeLine ∧ Nx (upd H4 D (.lst (acc ++ [y]))) else Nx H3) := by
  refine lc_it wk (fun i H => ∃ (π0 : Pl) (M : Sto) (accV : List V) (accD : List PyData), (∃ r, π0.ad = π1.ad ++ r) ∧ π0.ex = π1.ex ∧ Same (hid H1 π1) (hid H (π0.mk_ D)) ∧ (∀ b ∈ π1.ex, H b = H1 b) ∧ Wd X.K H (π0.mk_ D) M ∧ H D = some (.lst accV) ∧ DpAll X.K (hid H (π0.mk_ D)) accV accD ∧ Kst M ∧
    compL put c elt (xs.drop i) M accD = .ok ys M') ?_ ?_ ?_ ?_
  · refine ⟨π1, M1, [], [], ⟨[], by simp⟩, rfl, by rw [hid_mk hD]; exact Same.refl _, fun b hb => ?_, w1.apart hD, upd_same, .nil, k1, by simpa using res⟩
    obtain ⟨o, e⟩ := w1.lv b hb
    exact upd_ne (ne_of_none e hD)
  · rintro i H hi ⟨π0, M, accV, accD, pre, ex, sm, st, w, eD, da, ks, rs⟩
    exact hG H (π0.mk_ D) M sm pre w ks
  · rintro i x H H' hi ⟨π0, M, accV, accD, pre, ex, sm, st, w, eD, da, ks, rs⟩ y
    have hdrop : xs.drop i = xs[i] :: xs.drop (i + 1) := List.drop_eq_getElem_cons hi
    rw [hdrop] at rs
    obtain ⟨g2, w2, dx⟩ := hY i x H H' (π0.mk_ D) M hi sm pre w ks y
    have dx := dx _ (List.getElem?_eq_getElem hi)
    have l2 : LocR X.K (hid H' (π0.mk_ D)) (π0.mk_ D) σ G := locR_to (sm.trans g2.ex) pre l1
    obtain ⟨G2, b, M2, hput, hC, yes, no⟩ := compL_cons rs
    refine hT x xs[i] G2 H' (π0.mk_ D) hput dx l2 _ fun σ2 l3 hw => ⟨hw, ?_⟩
    obtain ⟨k3, hq⟩ := hc σ2 G2 H' (π0.mk_ D) M b M2 l3 w2 hC ks
    refine hq _ fun H3 π3 g3 w3 => ?_
    cases b with
    | true =>
      rw [if_pos rfl]
      obtain ⟨yd, M3, hE, hlen, rs⟩ := yes rfl
      obtain ⟨k4, hq2⟩ := he σ2 G2 H3 π3 M2 yd M3 (l3.gr g3) w3 hE k3
      refine hq2 _ fun a H4 π4 g4 w4 da4 => ?_
      have gg : Gr H (π0.mk_ D) H4 π4 := (g2.trans g3).trans g4
      obtain ⟨ad, exx⟩ := π4
      have h7 : exx = D :: π0.ex := gg.exs
      subst h7
      have w4 : Wd X.K H4 ((⟨ad, π0.ex⟩ : Pl).mk_ D) M3 := w4
      have e4 : H4 D = some (.lst accV) := (gg.st D List.mem_cons_self).trans eD
      refine ⟨accV, e4, by rw [da.len, ← lim_eq]; exact hlen, ⟨ad, π0.ex⟩, M3, accV ++ [a], accD ++ [yd], ?_, ex, ?_, fun b hb => ?_, ?_, upd_same, ?_, k4, rs⟩
      · obtain ⟨r1, z1⟩ := pre
        obtain ⟨r2, z2⟩ := gg.pre
        exact ⟨r1 ++ r2, by rw [← List.append_assoc, ← z1]; exact z2⟩
      · rw [(w4.fill _).2]; exact sm.trans gg.ex
      · obtain ⟨o, e⟩ := w1.lv b hb
        rw [upd_ne (ne_of_none e hD)]
        exact (gg.st b (List.mem_cons_of_mem _ (by rw [ex]; exact hb))).trans (st b hb)
      · exact (w4.fill _).1
      · rw [(w4.fill _).2]
        exact (dpsSame gg.ex da).app (.cons da4 .nil)
    | false =>
      rw [if_neg Bool.false_ne_true]
      have gg : Gr H (π0.mk_ D) H3 π3 := g2.trans g3
      obtain ⟨ad, exx⟩ := π3
      have h7 : exx = D :: π0.ex := gg.exs
      subst h7
      refine ⟨⟨ad, π0.ex⟩, M2, accV, accD, ?_, ex, sm.trans gg.ex, fun b hb => ?_, w3, (gg.st D List.mem_cons_self).trans eD, dpsSame gg.ex da, k3, no rfl⟩
      · obtain ⟨r1, z1⟩ := pre
        obtain ⟨r2, z2⟩ := gg.pre
        exact ⟨r1 ++ r2, by rw [← List.append_assoc, ← z1]; exact z2⟩
      · exact (gg.st b (List.mem_cons_of_mem _ (by rw [ex]; exact hb))).trans (st b hb)
  · rintro H ⟨π0, M, accV, accD, pre, ex, sm, st, w, eD, da, ks, rs⟩
    rw [List.drop_length] at rs
    cases rs
    obtain ⟨w5, n5⟩ := w.join
    refine q _ H π0 ⟨pre, ex, sm.trans hid_join, fun b hb => st b hb⟩ w5 (.lst (.of ?_) (dpsSame hid_join da))
    rw [hid_out n5]; exact eD
end
end K75

set_option Elab.async false
set_option linter.all false
set_option autoImplicit false
set_option maxRecDepth 100000
set_option maxHeartbeats 1000000
/-! Part 18: comprehensions' targets, what they walk, their soundness. -/
namespace K75
open PySem PySem.Spec PyProof.Rows L2
/-! ### slots forgotten -/
theorem wipe_get {σ : L2.St} {j : Nat} : ∀ {vs : List Nat}, (wipe σ vs)[j]? = if j ∈ vs then σ[j]?.map (fun _ => none) else σ[j]?
  | [] => by simp [wipe]
  | v :: vs => by
    unfold wipe
    by_cases h : v = j
    · subst h
      rw [if_pos List.mem_cons_self]
      by_cases hl : v < σ.length
      · rw [List.getElem?_set_self (by rw [wipe_length]; exact hl), List.getElem?_eq_getElem hl]; rfl
      · rw [List.getElem?_eq_none (by rw [List.length_set, wipe_length]; omega), List.getElem?_eq_none (by omega)]; rfl
    · rw [List.getElem?_set_ne h, wipe_get (vs := vs)]
      by_cases q : j ∈ vs
      · rw [if_pos q, if_pos (List.mem_cons_of_mem _ q)]
      · rw [if_neg q, if_neg (by simp only [List.mem_cons, not_or]; exact ⟨fun e => h e.symm, q⟩)]
theorem wipe_set {σ : L2.St} {i : Nat} {o : Option V} {vs : List Nat} (h : i ∈ vs) : wipe (σ.set i o) vs = wipe σ vs := by
  apply List.ext_getElem?
  intro j
  rw [wipe_get, wipe_get]
  by_cases e : i = j
  · subst e
    rw [if_pos h, if_pos h]
    by_cases hl : i < σ.length
    · rw [List.getElem?_set_self hl, List.getElem?_eq_getElem hl]; rfl
    · rw [List.getElem?_eq_none (by rw [List.length_set]; omega), List.getElem?_eq_none (by omega)]
  · rw [List.getElem?_set_ne e]
theorem wipe_wipe {σ : L2.St} {vs : List Nat} : wipe (wipe σ vs) vs = wipe σ vs := by
  apply List.ext_getElem?
  intro j
  rw [wipe_get, wipe_get]
  by_cases h : j ∈ vs
  · rw [if_pos h, if_pos h]; cases σ[j]? <;> rfl
  · rw [if_neg h, if_neg h]
/-! ### targets -/
def gNames : List Nat → TGs
  | [] => gNil
  | i :: is => gCons (gName i) (gNames is)
section
variable {X : Cx} {σ : L2.St} {G : Loc}
theorem names_run {vs0 : List Nat} {H : Hp} {π : Pl} {Q : L2.St → Hp → Prop} : ∀ {is : List Nat} {vs : List V} {ds : List PyData} {σ0 : L2.St} {G0 G2 : Loc}, setAll G0 is ds = some G2 → DpAll X.K (hid H π) vs ds → LocR X.K (hid H π) π σ0 G0 → (∀ i ∈ is, i ∈ vs0) →
    (∀ σ2, LocR X.K (hid H π) π σ2 G2 → wipe σ2 vs0 = wipe σ0 vs0 → Q σ2 H) → gNames is vs σ0 H Q
  | [], _, _, σ0, G0, G2, h, .nil, l, _, q => by cases h; exact ⟨rfl, q σ0 l rfl⟩
  | [], _, _, _, _, _, h, .cons _ _, _, _, _ => by simp [setAll] at h
  | _ :: _, _, _, _, _, _, h, .nil, _, _, _ => by simp [setAll] at h
  | i :: is, _, _, σ0, G0, G2, h, .cons (v := v) (vs := vs) a r, l, m, q =>
    ⟨v, vs, rfl, names_run (is := is) (σ0 := σ0.set i (some v)) (G0 := G0.set i (some (.d _))) h r (l.set (x := .d _) a i) (fun j hj => m j (List.mem_cons_of_mem _ hj)) fun σ2 l2 e => q σ2 l2 (e.trans (wipe_set (m i List.mem_cons_self)))⟩
theorem setAll_len : ∀ {is : List Nat} {ds : List PyData} {G0 G2 : Loc}, setAll G0 is ds = some G2 → is.length = ds.length
  | [], [], _, _, _ => rfl
  | [], _ :: _, _, _, h => by simp [setAll] at h
  | _ :: _, [], _, _, h => by simp [setAll] at h
  | i :: is, d :: ds, _, _, h => by rw [List.length_cons, List.length_cons, setAll_len (is := is) h]
theorem unp_run {vs0 is : List Nat} {H : Hp} {π : Pl} {Q : L2.St → Hp → Prop} {x : V} {d : PyData} {σ0 : L2.St} {G0 G2 : Loc} (h : unpD G0 is d = some G2) (dx : Dp X.K (hid H π) x d) (l : LocR X.K (hid H π) π σ0 G0) (m : ∀ i ∈ is, i ∈ vs0)
    (q : ∀ σ2, LocR X.K (hid H π) π σ2 G2 → wipe σ2 vs0 = wipe σ0 vs0 → Q σ2 H) : gTup X.K is.length (gNames is) x σ0 H Q := by
  unfold unpD at h
  split at h
  · cases dx with
    | tup s r => exact ⟨_, _, rfl, same_sqT hid_same s, by rw [r.len]; exact (setAll_len h).symm, names_run h r l m q⟩
  · cases h
theorem asg_names {env : PySem.Env} : ∀ {N : List Str} {is : List Nat} {ts : List Expr}, nameAt N is ts = true → (assignEach ts env).length = is.length ∧ (assignEach ts env).findIdx? (·.1) = none ∧ (∀ x p r, ts = .Name x p :: r → (assignEach ts env).map (·.2) = assign (.Name x p) env :: (assignEach r env).map (·.2))
  | _, [], [], _ => ⟨rfl, rfl, fun _ _ _ e => by cases e⟩
  | _, [], _ :: _, h => by simp [nameAt] at h
  | _, _ :: _, [], h => by simp [nameAt] at h
  | N, i :: is, t :: ts, h => by
    cases t with
    | Name x p =>
      simp only [nameAt, Bool.and_eq_true] at h
      obtain ⟨h1, h2, _⟩ := asg_names (env := env) h.2
      have e : assignEach (.Name x p :: ts) env = (false, assign (.Name x p) env) :: assignEach ts env := rfl
      refine ⟨by rw [e, List.length_cons, List.length_cons, h1], ?_, fun x' p' r' eq => by cases eq; rfl⟩
      rw [e, List.findIdx?_cons]
      simp only [Bool.false_eq_true, if_false, h2, Option.map_none]
    | _ => simp [nameAt] at h
theorem pgs_names {p : Str → Bool} (hp : ∀ x, p x = true → L2.Loc X.env.scope x ∧ (X.fn x = true ∨ X.env.scope.names.lookup x = some .local)) (nd : X.N.Nodup) : ∀ {is : List Nat} {ts : List Expr}, nameAt X.N is ts = true → tgNames p ts = true → PGs X ts (gNames is)
  | [], [], _, _ => pgs_nil
  | [], _ :: _, h, _ => by simp [nameAt] at h
  | _ :: _, [], h, _ => by simp [nameAt] at h
  | i :: is, t :: ts, h, h2 => by
    cases t with
    | Name x q =>
      simp only [nameAt, Bool.and_eq_true] at h
      simp only [tgNames, Bool.and_eq_true] at h2
      obtain ⟨h3, h4⟩ := hp x h2.1
      exact pgs_cons (pg_name nd (by have := h.1; unfold atN at this; exact decide_eq_true_eq.mp this) h3 h4) (pgs_names hp nd h.2 h2.2) rfl
    | _ => simp [nameAt] at h
end
/-! ### what is walked -/
def KstV (v : Val) (M1 : Sto) : Sto → Prop := fun M => match v with
  | .d _ => True
  | .o _ => M = M1
theorem kst_one {v : Val} {M1 : Sto} : KstV v M1 M1 := by unfold KstV; split <;> trivial
theorem still_ok {v : Val} {M1 M M2 : Sto} {f : Loc → Sto → R Val} {G : Loc} {y : Val} (h : stillE v f G M = .ok y M2) : f G M = .ok y M2 ∧ (KstV v M1 M → KstV v M1 M2) := by
  unfold stillE at h
  unfold KstV
  split at h
  · exact ⟨h, fun _ => trivial⟩
  · split at h
    · rename_i e
      split at h
      · rename_i e2
        cases h
        exact ⟨e, fun z => by rw [e2]; exact z⟩
      · cases h
    · cases h
section
variable {X : Cx} {σ : L2.St} {G : Loc}
theorem wi_pick {tg iter : Expr} {v : Val} {M1 : Sto} {xs : List PyData} (hw : walked M1 v = some xs) : ∃ body : V → Hp → (It → Hp → Prop) → Prop, PI X tg iter (fun σ H R => tw X iter σ H fun a H1 => body a H1 R) ∧
    ∀ a H1 π1, Wd X.K H1 π1 M1 → RV X.K (hid H1 π1) π1 a v → ∀ Rr : It → Hp → Prop, (∀ J Gw Y, Walk J xs.length Gw Y → HG X H1 π1 (KstV v M1) Gw → HY X H1 π1 (KstV v M1) xs Y → Rr J H1) → body a H1 Rr := by
  unfold walked at hw
  split at hw
  · rename_i d hd
    cases d with
    | tuple ys =>
      cases hw
      refine ⟨_, pi_tup (pw X iter), fun a H1 π1 w1 r1 Rr k => ?_⟩
      have e : v = .d (.tuple xs) := by
        cases v with
        | d z => simp only [toD] at hd; cases hd; rfl
        | o n => simp only [toD] at hd; split at hd <;> cases hd
      subst e
      cases r1 with
      | @tup ad vs _ s r =>
        refine ⟨ad, rfl, ⟨_, same_sqT hid_same s⟩, k _ _ _ walkT (fun H π M sm pre w ks => ⟨vs, same_sqT (sm.trans hid_same) s, r.len⟩) fun i x H H' π M hi sm pre w ks y => ?_⟩
        obtain ⟨rfl, y⟩ := y
        refine ⟨Gr.refl _ _, w, fun d hd => ?_⟩
        obtain ⟨u, e1, e2⟩ := r.at' hd
        have := y vs (same_sqT (sm.trans hid_same) s)
        rw [e1] at this; cases this
        exact dpSame sm e2
    | list ys =>
      cases hw
      refine ⟨_, pi_list (pw X iter), fun a H1 π1 w1 r1 Rr k => ?_⟩
      cases v with
      | d z =>
        simp only [toD] at hd; cases hd
        cases r1 with
        | @lst ad vs _ s r =>
          refine ⟨ad, rfl, ⟨_, hid_same.seq s⟩, k _ _ _ walkL (fun H π M sm pre w ks => ⟨vs, (sm.trans hid_same).seq s, r.len⟩) fun i x H H' π M hi sm pre w ks y => ?_⟩
          obtain ⟨rfl, y⟩ := y
          refine ⟨Gr.refl _ _, w, fun d hd => ?_⟩
          obtain ⟨u, e1, e2⟩ := r.at' hd
          have := y vs ((sm.trans hid_same).seq s)
          rw [e1] at this; cases this
          exact dpSame sm e2
      | o n =>
        simp only [toD] at hd
        split at hd
        · rename_i zs hz
          cases hd
          obtain ⟨ad, vs, rfl, h1, h2, h3⟩ := w1.lst r1 hz
          have at_ : ∀ H (π : Pl) M, (∃ r, π.ad = π1.ad ++ r) → Wd X.K H π M → M = M1 → ∃ vs', H ad = some (.lst vs') ∧ DpAll X.K (hid H π) vs' xs := by
            intro H π M pre w ks
            subst ks
            obtain ⟨r, e⟩ := pre
            have e1 : π.ad[n]? = some ad := by rw [e, List.getElem?_append_left (List.getElem?_eq_some_iff.mp h1).1]; exact h1
            exact w.ob n ad _ e1 hz
          refine ⟨ad, rfl, ⟨_, .of h2⟩, k _ _ _ walkL (fun H π M sm pre w ks => ?_) fun i x H H' π M hi sm pre w ks y => ?_⟩
          · obtain ⟨vs', e1, e2⟩ := at_ H π M pre w ks
            exact ⟨vs', .of e1, e2.len⟩
          · obtain ⟨rfl, y⟩ := y
            obtain ⟨vs', e1, e2⟩ := at_ _ π M pre w ks
            refine ⟨Gr.refl _ _, w, fun d hd => ?_⟩
            obtain ⟨u, e3, e4⟩ := e2.at' hd
            have := y vs' (.of e1)
            rw [e3] at this; cases this
            exact e4
        · cases hd
    | str z =>
      cases hw
      refine ⟨_, pi_str (pw X iter), fun a H1 π1 w1 r1 Rr k => ?_⟩
      have e : v = .d (.str z) := by
        cases v with
        | d z => simp only [toD] at hd; cases hd; rfl
        | o n => simp only [toD] at hd; split at hd <;> cases hd
      subst e
      cases r1
      refine ⟨z, rfl, k _ _ _ (by
        have := walk_str (z := z)
        rw [show z.cps.size = (z.cps.toList.map fun c => PyData.str ⟨#[c]⟩).length by simp] at this
        exact this) (fun H π M sm pre w ks => trivial) fun i x H H' π M hi sm pre w ks y => ?_⟩
      obtain ⟨rfl, c, y, rfl⟩ := y
      refine ⟨Gr.refl _ _, w, fun d hd => ?_⟩
      rw [List.getElem?_map, Array.getElem?_toList, y] at hd
      cases hd
      exact .str _
    | _ => simp [seqD] at hw
  · cases hw
end
end K75

set_option Elab.async false
set_option linter.all false
set_option autoImplicit false
set_option maxRecDepth 100000
set_option maxHeartbeats 1000000
/-! Part 19: comprehensions are sound. -/
namespace K75
open PySem PySem.Spec PyProof.Rows L2
section
variable {Φ : Env} {fa : Fn → Addr} {fdo : Fn → FuncData} {pso : Fn → List Str} {k : Nat} {N : List Str} {sc : Scope} {X : Cx} {σ : L2.St} {G : Loc}
theorem Cxt.blk (c : Cxt Φ fa fdo pso k N sc X) {s : Shared} {H : Hp} {C : Addr} {cl : List (Str × Addr)} {fp : List Addr} {scope : Scope} : Cxt Φ fa fdo pso k N (relS scope sc) (X.blk s H scope (compEnvC scope cl C X.env) fp) :=
  ⟨c.names, c.nd, by rw [← c.sco]; rfl, c.calm, c.g0, c.room, c.facts, c.fns, c.binds⟩
/-- the element's walk in whatever block it stands -/
def twK (X : Cx) (scope : Scope) (el : Expr) : TE := fun σ H Q => ∀ (s0 : Shared) (H0 : Hp) (C : Addr) (cl : List (Str × Addr)) (fp : List Addr), tw (X.blk s0 H0 scope (compEnvC scope cl C X.env) fp) el σ H Q
def twKT (X : Cx) (scope : Scope) (el : Expr) : TT := fun σ H Q => ∀ (s0 : Shared) (H0 : Hp) (C : Addr) (cl : List (Str × Addr)) (fp : List Addr), twT (X.blk s0 H0 scope (compEnvC scope cl C X.env) fp) el σ H Q
theorem pe_twL (c : Cxt Φ fa fdo pso k N sc X) {el tg it : Expr} {ifs : List Expr} {scope : Scope} {pos : Pos} : PE X (.ListComp el [⟨tg, it, ifs, 0⟩] scope pos) (twL X el tg it ifs scope) := by
  refine ⟨fun pins s σ H Q I h => ?_⟩
  obtain ⟨wi, own, g, tt, te, p1, p2, p3, p4, p5, p6, h⟩ := h
  exact (pe_lc c.calm (by rw [c.names]; exact c.nd) p1 p2 p3 p4 p5 p6).run pins s σ H Q I h
theorem good_lc (c : Cxt Φ fa fdo pso k N sc X) {el tg it : Expr} {ifs : List Expr} {scope : Scope} {pos : Pos} {H : Hp} {π : Pl} {r : R Val} (h : Ot X σ H π r (RlV X) (twL X el tg it ifs scope σ H)) : Good X σ H π (.ListComp el [⟨tg, it, ifs, 0⟩] scope pos) r := by
  refine ⟨h.mono fun Q q => tw_of (pe_twL c) q, (ot_tst h).mono fun Q q => twT_of (pt_val (pe_twL c) (plainT_is rfl)) q, fun op vs p e => (by cases e), fun el' tg' it' ifs' sc' p' e => ?_⟩
  cases e
  exact h
theorem fold_of {iter : Expr} (h : isSet iter = false) : ∀ x, foldedSetIterable iter X.env x = pure x := by
  intro x
  cases iter with
  | Set l j p => exact absurd h (by simp [isSet])
  | _ => rfl
theorem g_lcW (c : Cxt Φ fa fdo pso k N sc X) {tg iter el : Expr} {ifs : List Expr} {scope : Scope} {own : List (Str × Nat)} {g : TG} {tt : TT} {put : PyData → Option Loc} {cc : Val → Loc → Sto → R Val} {it elt : E}
    (ok : BlkOk X.N X.env.scope scope own)
    (hgp : ∀ (s : Shared) (H : Hp) (C : Addr) (cl : List (Str × Addr)) (fp : List Addr), PG (X.blk s H scope (compEnvC scope cl C X.env) fp) tg g)
    (htp : ∀ (s : Shared) (H : Hp) (C : Addr) (cl : List (Str × Addr)) (fp : List Addr), PTs (X.blk s H scope (compEnvC scope cl C X.env) fp) ifs tt) (hsE : isSet iter = false)
    (hT : ∀ x d G2 H π, put d = some G2 → Dp X.K (hid H π) x d → LocR X.K (hid H π) π σ G → ∀ Q : L2.St → Hp → Prop, (∀ σ2, LocR X.K (hid H π) π σ2 G2 → wipe σ2 (own.map (·.2)) = wipe σ (own.map (·.2)) → Q σ2 H) → g x (wipe σ (own.map (·.2))) H Q)
    (hc : ∀ v M1 σ2 G2 H π M b M2, LocR X.K (hid H π) π σ2 G2 → Wd X.K H π M → cc v G2 M = .ok (.d (.bool b)) M2 → KstV v M1 M → KstV v M1 M2 ∧ ∀ Q : Bool → Hp → Prop, (∀ H' π', Gr H π H' π' → Wd X.K H' π' M2 → Q b H') → tt σ2 H Q)
    (hi : GoodE Φ X σ G iter it)
    (he : ∀ (σ2 : L2.St) (G2 : Loc) (s0 : Shared) (H0 : Hp) (C : Addr) (cl : List (Str × Addr)) (fp : List Addr), GoodE Φ (X.blk s0 H0 scope (compEnvC scope cl C X.env) fp) σ2 G2 el elt)
    {H : Hp} {π : Pl} {M : Sto} (lr : LocR X.K (hid H π) π σ G) (w : Wd X.K H π M) :
    Ot X σ H π ((evE Φ it G M).bind fun v M1 => match walked M1 v with
      | some xs => noX ((compL put (cc v) (stillE v fun G M => evE Φ elt G M) xs M1 []).bind fun ys M2 => .ok (.d (.list ys)) M2)
      | none => .no) (RlV X) (twL X el tg iter ifs scope σ H) := by
  have hI := (hi H π M lr w).val
  have hpE : ∀ (s : Shared) (H : Hp) (C : Addr) (cl : List (Str × Addr)) (fp : List Addr), PE (X.blk s H scope (compEnvC scope cl C X.env) fp) el (twK X scope el) := fun s0 H0 C cl fp => ⟨fun pins s σ H Q I h => h s0 H0 C cl fp pins s I⟩
  cases hE : evE Φ it G M with
  | no => trivial
  | ex e M1 =>
    rw [hE] at hI
    exact fun W tk hw Q => ⟨_, own, g, tt, twK X scope el, pi_tup (pw X iter), ok, hgp, htp, hpE, fold_of hsE, hI W tk hw _⟩
  | ok v M1 =>
    rw [hE] at hI
    show Ot X σ H π (match walked M1 v with
      | some xs => noX ((compL put (cc v) (stillE v fun G M => evE Φ elt G M) xs M1 []).bind fun ys M2 => R.ok (Val.d (.list ys)) M2)
      | none => R.no) _ _
    split
    · rename_i xs hw
      obtain ⟨body, p1, p2⟩ := wi_pick (X := X) (tg := tg) (iter := iter) hw
      cases hL : compL put (cc v) (stillE v fun G M => evE Φ elt G M) xs M1 [] with
      | no => trivial
      | ex e M2 => trivial
      | ok ys M2 =>
        intro Q q
        refine ⟨_, own, g, tt, twK X scope el, p1, ok, hgp, htp, hpE, fold_of hsE, hI _ fun a H1 π1 g1 w1 r1 => ?_⟩
        refine p2 a H1 π1 w1 r1 _ fun J Gw Y wk hG hY D hD => ?_
        refine lc_run (G := G) (vs := own.map (·.2)) w1 (lr.gr g1) kst_one hL wk hG hY hT (hc v M1) (fun σ2 G2 H2 π2 M3 y M4 l2 w2 e2 k2 => ?_) (fun a' H' π' g' w' d' => q a' H' π' (g1.trans g') w' d') D hD
        obtain ⟨e3, k3⟩ := still_ok (M1 := M1) e2
        refine ⟨k3 k2, fun Q2 q2 s0 H0 C cl fp => ?_⟩
        have hX := (he σ2 G2 s0 H0 C cl fp H2 π2 M3 l2 w2).val
        rw [e3] at hX
        exact hX Q2 fun a' H' π' g' w' d' => q2 a' H' π' g' w' d'
    · trivial
/-! ### one name -/
theorem pg_blk (c : Cxt Φ fa fdo pso k N sc X) {scope : Scope} {i : Nat} {x : Str} {p : Pos} (h1 : atN N i x = true) (h2 : tgB scope sc x = true) (s : Shared) (H : Hp) (C : Addr) (cl : List (Str × Addr)) (fp : List Addr) :
    PG (X.blk s H scope (compEnvC scope cl C X.env) fp) (.Name x p) (gName i) := by
  have cb := c.blk (s := s) (H := H) (C := C) (cl := cl) (fp := fp) (scope := scope)
  have e : (X.blk s H scope (compEnvC scope cl C X.env) fp).env.scope = relS scope sc := cb.sco
  unfold tgB at h2
  rw [Bool.or_eq_true, Bool.and_eq_true] at h2
  refine pg_name (by rw [cb.names]; exact c.nd) (at_of cb h1) ?_ ?_
  · rcases h2 with h2 | h2
    · exact .inl (by rw [e]; exact kd_of h2)
    · exact .inr (by rw [e]; exact kd_of h2.1)
  · rcases h2 with h2 | h2
    · exact .inr (by rw [e]; exact kd_of h2)
    · exact .inl (by show (scope.names.lookup x == some NameKind.cell) = true; rw [kd_of h2.2]; rfl)
theorem name_hT {i : Nat} {x : Str} {K : PySem.W.Frag} : ∀ (v : V) (d : PyData) (G2 : Loc) (H : Hp) (π : Pl), some ((wipeG G [i]).set i (some (.d d))) = some G2 → Dp K (hid H π) v d → LocR K (hid H π) π σ G → ∀ Q : L2.St → Hp → Prop,
    (∀ σ2, LocR K (hid H π) π σ2 G2 → wipe σ2 ([(x, i)].map (·.2)) = wipe σ ([(x, i)].map (·.2)) → Q σ2 H) → gName i v (wipe σ ([(x, i)].map (·.2))) H Q := by
  intro v d G2 H π h dx l Q q
  cases h
  exact q _ ((l.wipe [i]).set (x := .d d) dx i) (by
    show wipe ((wipe σ [i]).set i (some v)) [i] = wipe σ [i]
    rw [wipe_set List.mem_cons_self, wipe_wipe])
theorem g_comp (c : Cxt Φ fa fdo pso k N sc X) {i : Nat} {x : Str} {p pos : Pos} {iter el : Expr} {scope : Scope} {it elt : E} (h1 : atN N i x = true) (h2 : tgB scope sc x = true) (h3 : blkC N sc scope [(x, i)] = true) (h4 : isSet iter = false)
    (hi : GoodE Φ X σ G iter it) (he : ∀ (σ2 : L2.St) (G2 : Loc) (s0 : Shared) (H0 : Hp) (C : Addr) (cl : List (Str × Addr)) (fp : List Addr), GoodE Φ (X.blk s0 H0 scope (compEnvC scope cl C X.env) fp) σ2 G2 el elt) :
    GoodE Φ X σ G (.ListComp el [⟨.Name x p, iter, [], 0⟩] scope pos) (.comp i it elt) := by
  intro H π M lr w
  refine good_lc c ?_
  exact g_lcW c (own := [(x, i)]) (cc := fun _ _ M => .ok (.d (.bool true)) M) (by rw [c.names, c.sco]; exact blkOk_by h3) (pg_blk c h1 h2) (fun _ _ _ _ _ => pts_nil) h4 name_hT
    (fun v M1 σ2 G2 H π M b M2 l2 w2 e k2 => by cases e; exact ⟨k2, fun Q q => q H π (Gr.refl _ _) w2⟩) hi he lr w
theorem g_compIf (c : Cxt Φ fa fdo pso k N sc X) {i : Nat} {x : Str} {p pos : Pos} {iter el t : Expr} {scope : Scope} {it elt ce : E} (h1 : atN N i x = true) (h2 : tgB scope sc x = true) (h3 : blkC N sc scope [(x, i)] = true) (h4 : isSet iter = false)
    (hi : GoodE Φ X σ G iter it) (ht : ∀ (σ2 : L2.St) (G2 : Loc) (s0 : Shared) (H0 : Hp) (C : Addr) (cl : List (Str × Addr)) (fp : List Addr), GoodE Φ (X.blk s0 H0 scope (compEnvC scope cl C X.env) fp) σ2 G2 t ce)
    (he : ∀ (σ2 : L2.St) (G2 : Loc) (s0 : Shared) (H0 : Hp) (C : Addr) (cl : List (Str × Addr)) (fp : List Addr), GoodE Φ (X.blk s0 H0 scope (compEnvC scope cl C X.env) fp) σ2 G2 el elt) :
    GoodE Φ X σ G (.ListComp el [⟨.Name x p, iter, [t], 0⟩] scope pos) (.compIf i it ce elt) := by
  intro H π M lr w
  refine good_lc c ?_
  refine g_lcW c (own := [(x, i)]) (cc := fun v => stillE v fun G M => evE Φ ce G M) (tt := twKT X scope t) (by rw [c.names, c.sco]; exact blkOk_by h3) (pg_blk c h1 h2)
    (fun s0 H0 C cl fp => pts_one ⟨fun pins s σ H Q I h => h s0 H0 C cl fp pins s I⟩) h4 name_hT (fun v M1 σ2 G2 H2 π2 M3 b M4 l2 w2 e2 k2 => ?_) hi he lr w
  obtain ⟨e3, k3⟩ := still_ok (M1 := M1) e2
  refine ⟨k3 k2, fun Q2 q2 s0 H0 C cl fp => ?_⟩
  have hX := (ht σ2 G2 s0 H0 C cl fp H2 π2 M3 l2 w2).tst
  rw [e3] at hX
  exact hX Q2 fun a' H' π' g' w' d' => by cases d'; exact q2 H' π' g' w'
/-! ### several names -/
theorem own_ix : ∀ {N : List Str} {is : List Nat} {ts : List Expr}, nameAt N is ts = true → (tgOwn is ts).map (·.2) = is
  | _, [], [], _ => rfl
  | _, [], _ :: _, h => by simp [nameAt] at h
  | _, _ :: _, [], h => by simp [nameAt] at h
  | _, i :: is, t :: ts, h => by
    cases t with
    | Name x p =>
      simp only [nameAt, Bool.and_eq_true] at h
      show i :: (tgOwn is ts).map (·.2) = i :: is
      rw [own_ix h.2]
    | _ => simp [nameAt] at h
theorem g_compU (c : Cxt Φ fa fdo pso k N sc X) {is : List Nat} {ts : List Expr} {j : Nat} {p pos : Pos} {iter el : Expr} {scope : Scope} {it elt : E} (h1 : nameAt N is ts = true) (h2 : tgNames (tgB scope sc) ts = true) (h3 : blkC N sc scope (tgOwn is ts) = true) (h4 : isSet iter = false)
    (hi : GoodE Φ X σ G iter it) (he : ∀ (σ2 : L2.St) (G2 : Loc) (s0 : Shared) (H0 : Hp) (C : Addr) (cl : List (Str × Addr)) (fp : List Addr), GoodE Φ (X.blk s0 H0 scope (compEnvC scope cl C X.env) fp) σ2 G2 el elt) :
    GoodE Φ X σ G (.ListComp el [⟨.Tuple ts j p, iter, [], 0⟩] scope pos) (.compU is it elt) := by
  intro H π M lr w
  refine good_lc c ?_
  refine g_lcW c (own := tgOwn is ts) (g := gTup X.K is.length (gNames is)) (cc := fun _ _ M => .ok (.d (.bool true)) M) (by rw [c.names, c.sco]; exact blkOk_by h3) (fun s0 H0 C cl fp => ?_) (fun _ _ _ _ _ => pts_nil) h4 (fun x d G2 H π e dx l Q q => ?_)
    (fun v M1 σ2 G2 H π M b M2 l2 w2 e k2 => by cases e; exact ⟨k2, fun Q q => q H π (Gr.refl _ _) w2⟩) hi he lr w
  · have cb := c.blk (s := s0) (H := H0) (C := C) (cl := cl) (fp := fp) (scope := scope)
    have e : (X.blk s0 H0 scope (compEnvC scope cl C X.env) fp).env.scope = relS scope sc := cb.sco
    obtain ⟨a1, a2, _⟩ := asg_names (env := (X.blk s0 H0 scope (compEnvC scope cl C X.env) fp).env) h1
    refine pg_tup c.calm (pgs_names (p := tgB scope sc) (fun x h => ?_) (by rw [cb.names]; exact c.nd) (by rw [cb.names]; exact h1) h2) a1 a2
    unfold tgB at h
    rw [Bool.or_eq_true, Bool.and_eq_true] at h
    rcases h with h | h
    · exact ⟨.inl (by rw [e]; exact kd_of h), .inr (by rw [e]; exact kd_of h)⟩
    · exact ⟨.inr (by rw [e]; exact kd_of h.1), .inl (by show (scope.names.lookup x == some NameKind.cell) = true; rw [kd_of h.2]; rfl)⟩
  · have z := own_ix h1
    rw [z] at q ⊢
    exact unp_run (vs0 := is) e dx (l.wipe is) (fun i hi => hi) fun σ2 l2 e2 => q σ2 l2 (e2.trans wipe_wipe)
/-! ### two tuples side by side -/
theorem zip_dps {K : PySem.W.Frag} {Hd : Hp} {as bs : List V} {xs ys : List PyData} (ha : DpAll K Hd as xs) (hb : DpAll K Hd bs ys) {i : Nat} {d : PyData} (h : ((xs.zip ys).map fun p => PyData.tuple [p.1, p.2])[i]? = some d) :
    ∃ a b x y, as[i]? = some a ∧ bs[i]? = some b ∧ d = .tuple [x, y] ∧ Dp K Hd a x ∧ Dp K Hd b y := by
  rw [List.getElem?_map] at h
  obtain ⟨⟨x, y⟩, h1, h2⟩ := Option.map_eq_some_iff.mp h
  rw [List.getElem?_zip_eq_some] at h1
  obtain ⟨a, e1, d1⟩ := ha.at' h1.1
  obtain ⟨b, e2, d2⟩ := hb.at' h1.2
  exact ⟨a, b, x, y, e1, e2, h2.symm, d1, d2⟩
theorem g_compZ (c : Cxt Φ fa fdo pso k N sc X) {i j : Nat} {x y : Str} {jj : Nat} {p p2 pos zp cp tp : Pos} {e1 e2 el : Expr} {scope : Scope} {a b elt : E} (h1 : atN N i x = true) (h1' : atN N j y = true) (h2 : tgB scope sc x = true) (h2' : tgB scope sc y = true) (h3 : blkC N sc scope [(x, i), (y, j)] = true)
    (hz : glB sc ("zip" : Str) = true) (hn : nst [e1, e2] = true)
    (ha : GoodE Φ X σ G e1 a) (hb : GoodE Φ X σ G e2 b) (he : ∀ (σ2 : L2.St) (G2 : Loc) (s0 : Shared) (H0 : Hp) (C : Addr) (cl : List (Str × Addr)) (fp : List Addr), GoodE Φ (X.blk s0 H0 scope (compEnvC scope cl C X.env) fp) σ2 G2 el elt) :
    GoodE Φ X σ G (.ListComp el [⟨.Tuple [.Name x p, .Name y p2] jj tp, .Call (.Name "zip" zp) [e1, e2] [] cp, [], 0⟩] scope pos) (.compZ i j a b elt) := by
  intro H π M lr w
  refine good_lc c ?_
  have hN1 : nameAt N [i, j] [.Name x p, .Name y p2] = true := by simp [nameAt, h1, h1']
  have hN2 : tgNames (tgB scope sc) [.Name x p, .Name y p2] = true := by simp [tgNames, h2, h2']
  obtain ⟨q1, q2⟩ := nst_cons (env := X.env) hn
  obtain ⟨z1, z2⟩ := gl_of c hz
  have pI : PI X (.Tuple [.Name x p, .Name y p2] jj tp) (.Call (.Name "zip" zp) [e1, e2] [] cp) (RZ.iZipA X.K (tCons (tw X e1) (tCons (tw X e2) tNil))) :=
    RZ.pi_zipA z1 (c.facts.free _ (by decide)) (pa_cons (pw X e1) (pa_cons (pw X e2) pa_nil (nst_cons q2).1) q1) q1 (nst_plain q2)
  have ok : BlkOk X.N X.env.scope scope [(x, i), (y, j)] := by rw [c.names, c.sco]; exact blkOk_by h3
  have hgp : ∀ (s : Shared) (H : Hp) (C : Addr) (cl : List (Str × Addr)) (fp : List Addr), PG (X.blk s H scope (compEnvC scope cl C X.env) fp) (.Tuple [.Name x p, .Name y p2] jj tp) (gTup X.K 2 (gNames [i, j])) := by
    intro s0 H0 C cl fp
    have cb := c.blk (s := s0) (H := H0) (C := C) (cl := cl) (fp := fp) (scope := scope)
    have e : (X.blk s0 H0 scope (compEnvC scope cl C X.env) fp).env.scope = relS scope sc := cb.sco
    obtain ⟨a1, a2, _⟩ := asg_names (env := (X.blk s0 H0 scope (compEnvC scope cl C X.env) fp).env) hN1
    refine pg_tup c.calm (pgs_names (p := tgB scope sc) (fun x h => ?_) (by rw [cb.names]; exact c.nd) (by rw [cb.names]; exact hN1) hN2) a1 a2
    unfold tgB at h
    rw [Bool.or_eq_true, Bool.and_eq_true] at h
    rcases h with h | h
    · exact ⟨.inl (by rw [e]; exact kd_of h), .inr (by rw [e]; exact kd_of h)⟩
    · exact ⟨.inr (by rw [e]; exact kd_of h.1), .inl (by show (scope.names.lookup x == some NameKind.cell) = true; rw [kd_of h.2]; rfl)⟩
  have hpE : ∀ (s : Shared) (H : Hp) (C : Addr) (cl : List (Str × Addr)) (fp : List Addr), PE (X.blk s H scope (compEnvC scope cl C X.env) fp) el (twK X scope el) := fun s0 H0 C cl fp => ⟨fun pins s σ H Q I h => h s0 H0 C cl fp pins s I⟩
  have up : ∀ Q : VK, (tw X e1 σ H fun u H1 => tw X e2 σ H1 fun v H2 => ∃ a b xs ys, [u, v] = [.ref a, .ref b] ∧ SqT X.K H2 a xs ∧ SqT X.K H2 b ys ∧ ∀ D, H2 D = none → ∃ W : Nat → Nat → Hp → Prop, (∃ m, W 0 m (upd H2 D (.lst []))) ∧ ∀ t m H, W t m H →
      ((RZ.ItzT X.K a b).stop t H ∧ Q (.ref D) H) ∨ ((RZ.ItzT X.K a b).go t H ∧ ∃ Nx : Hp → Prop, (∀ H', Nx H' → ∃ m', m' < m ∧ W (t + 1) m' H') ∧ ∀ x H', (RZ.ItzT X.K a b).yld t H x H' → gTup X.K 2 (gNames [i, j]) x (wipe σ [i, j]) H' fun σ2 H2 => wipe σ2 [i, j] = wipe σ [i, j] ∧ tYes σ2 H2 fun b H3 =>
        if b = true then twK X scope el σ2 H3 fun y H4 => ∃ acc, H4 D = some (.lst acc) ∧ acc.length < sizeLine ∧ Nx (upd H4 D (.lst (acc ++ [y]))) else Nx H3)) →
      twL X el (.Tuple [.Name x p, .Name y p2] jj tp) (.Call (.Name "zip" zp) [e1, e2] [] cp) [] scope σ H Q := by
    intro Q q
    refine ⟨_, [(x, i), (y, j)], gTup X.K 2 (gNames [i, j]), tYes, twK X scope el, pI, ok, hgp, fun _ _ _ _ _ => pts_nil, hpE, fold_of rfl, ?_⟩
    refine fun pins s I => ?_
    refine thn (q pins s I) fun u s1 ⟨v1, H1, I1, r1, t1⟩ => ⟨v1, H1, I1, r1, fun pins s I => ?_⟩
    exact thn (t1 pins s I) fun u s2 ⟨v2, H2, I2, r2, a, b, xs, ys, e, s1, s2', z⟩ => ⟨v2, H2, I2, r2, a, b, xs, ys, e, .inr ⟨s1, s2', z⟩⟩
  show Ot X σ H π ((evE Φ a G M).bind fun u M1 => (evE Φ b G M1).bind fun v M2 => match u, v with
    | .d (.tuple xs), .d (.tuple ys) => noX ((compL (fun x => unpD (wipeG G [i, j]) [i, j] x) (fun _ M => .ok (.d (.bool true)) M) (fun G M => evE Φ elt G M) ((xs.zip ys).map fun p => .tuple [p.1, p.2]) M2 []).bind fun ys M3 => R.ok (Val.d (.list ys)) M3)
    | _, _ => R.no) _ _
  refine Ot.mono ?_ up
  refine (ha H π M lr w).val.bind fun u M1 v H1 π1 q3 g1 w1 r1 => ?_
  refine (hb H1 π1 M1 (lr.gr g1) w1).val.bind fun u2 M2 v2 H2 π2 q4 g2 w2 r2 => ?_
  split
  · rename_i xs ys
    cases hL : compL (fun x => unpD (wipeG G [i, j]) [i, j] x) (fun _ M => .ok (.d (.bool true)) M) (fun G M => evE Φ elt G M) ((xs.zip ys).map fun p => PyData.tuple [p.1, p.2]) M2 [] with
    | no => trivial
    | ex e M3 => trivial
    | ok zs M3 =>
      intro Q q
      have r1 := rv_gr (x := .d (.tuple xs)) g2 r1
      cases r1 with
      | @tup ad as _ sa da =>
        cases r2 with
        | @tup bd bs _ sb db =>
          refine ⟨ad, bd, as, bs, rfl, same_sqT hid_same sa, same_sqT hid_same sb, fun D hD => ?_⟩
          have hlen : ((xs.zip ys).map fun p => PyData.tuple [p.1, p.2]).length = min as.length bs.length := by rw [List.length_map, List.length_zip, da.len, db.len]
          have wk := walkZ (K := X.K) (a := ad) (b := bd) (n := ((xs.zip ys).map fun p => PyData.tuple [p.1, p.2]).length)
          refine lc_run (G := G) (vs := [i, j]) (Kst := fun _ => True) (J := RZ.ItzT X.K ad bd) w2 ((lr.gr g1).gr g2) trivial hL wk (fun H π M sm pre w ks => ⟨as, bs, same_sqT (sm.trans hid_same) sa, same_sqT (sm.trans hid_same) sb, hlen.symm⟩)
            (fun t x H H' π M hi sm pre w ks y => ?_) (fun x d G2 H π e dx l Q q => ?_) (fun σ2 G2 H π M b M2 l2 w2 e k2 => by cases e; exact ⟨k2, fun Q q => q H π (Gr.refl _ _) w2⟩) (fun σ2 G2 H2 π2 M3 y M4 l2 w2 e2 k2 => ?_) (fun a' H' π' g' w' d' => q a' H' π' g' w' d') D hD
          · obtain ⟨T, xv, yv, rfl, hT, rfl, f1, f2⟩ := y
            obtain ⟨g3, w3, e3⟩ := w.fresh_upd (o := .tup [xv, yv]) hT
            refine ⟨g3, w3, fun d hd => ?_⟩
            obtain ⟨a', b', xd, yd, k1, k2, rfl, d1, d2⟩ := zip_dps da db hd
            have z1 := f1 as (same_sqT (sm.trans hid_same) sa)
            have z2 := f2 bs (same_sqT (sm.trans hid_same) sb)
            rw [k1] at z1; cases z1
            rw [k2] at z2; cases z2
            exact .tup (.of e3) (.cons (dpSame (sm.trans g3.ex) d1) (.cons (dpSame (sm.trans g3.ex) d2) .nil))
          · exact unp_run (vs0 := [i, j]) (is := [i, j]) e dx (l.wipe [i, j]) (fun i hi => hi) fun σ2 l2 e2 => q σ2 l2 (e2.trans wipe_wipe)
          · refine ⟨trivial, fun Q2 q2 s0 H0 C cl fp => ?_⟩
            have hX := (he σ2 G2 s0 H0 C cl fp H2 π2 M3 l2 w2).val
            rw [e2] at hX
            exact hX Q2 fun a' H' π' g' w' d' => q2 a' H' π' g' w' d'
  · trivial
end
end K75

set_option Elab.async false
set_option linter.all false
set_option autoImplicit false
set_option maxRecDepth 100000
set_option maxHeartbeats 4000000
/-! Part 20: every expression is sound (printed by gensound.py). -/
namespace K75
open PySem PySem.Spec PyProof.Rows L2
section
variable {Φ : Env} {fa : Fn → Addr} {fdo : Fn → FuncData} {pso : Fn → List Str} {k : Nat} {N : List Str}
mutual
theorem soundE : ∀ (e : E) (sc : Scope) (ast : Expr) (X : Cx) (σ : L2.St) (G : Loc), chkE N e sc ast = true → Cxt Φ fa fdo pso k N sc X → GoodE Φ X σ G ast e
  | .never, _, _, _, _, _, _, _ => fun _ _ _ _ _ => good_no
  | .k d, sc, ast, X, σ, G, h, c => by
    cases ast with
    | Constant c0 j p =>
      exact g_k (by simpa only [chkE] using h)
    | _ => exact absurd h (by simp [chkE])
  | .v i, sc, ast, X, σ, G, h, c => by
    cases ast with
    | Name x p =>
      simp only [chkE, Bool.and_eq_true, decide_eq_true_eq, beq_iff_eq, Bool.not_eq_true'] at h
      exact g_v c h.1.1 h.1.2 h.2
    | _ => exact absurd h (by simp [chkE])
  | .g n d, sc, ast, X, σ, G, h, c => by
    cases ast with
    | Name x p =>
      simp only [chkE, Bool.and_eq_true, decide_eq_true_eq, beq_iff_eq, Bool.not_eq_true'] at h
      obtain ⟨⟨rfl, h2⟩, h3⟩ := h
      exact g_g c h2 h3
    | _ => exact absurd h (by simp [chkE])
  | .bin op a b, sc, ast, X, σ, G, h, c => by
    cases ast with
    | BinOp l o r p =>
      simp only [chkE, Bool.and_eq_true, decide_eq_true_eq, beq_iff_eq, Bool.not_eq_true'] at h
      obtain ⟨⟨rfl, h2⟩, h3⟩ := h
      exact g_bin c (soundE a _ _ _ _ _ h2 c) (soundE b _ _ _ _ _ h3 c)
    | _ => exact absurd h (by simp [chkE])
  | .neg n, sc, ast, X, σ, G, h, c => by
    cases ast with
    | UnaryOp t1_unaryop t2_unaryop p =>
      cases t1_unaryop with
      | USub =>
        cases t2_unaryop with
        | Constant t3_constant j p2 =>
          cases t3_constant with
          | int m =>
            simp only [chkE, Bool.and_eq_true, decide_eq_true_eq, beq_iff_eq, Bool.not_eq_true'] at h
            exact g_neg h
          | _ => exact absurd h (by simp [chkE])
        | _ => exact absurd h (by simp [chkE])
      | _ => exact absurd h (by simp [chkE])
    | _ => exact absurd h (by simp [chkE])
  | .not a, sc, ast, X, σ, G, h, c => by
    cases ast with
    | UnaryOp t4_unaryop x p =>
      cases t4_unaryop with
      | Not =>
        exact g_not (soundE a _ _ _ _ _ (by simpa only [chkE] using h) c)
      | _ => exact absurd h (by simp [chkE])
    | _ => exact absurd h (by simp [chkE])
  | .and a b, sc, ast, X, σ, G, h, c => by
    cases ast with
    | BoolOp op vs pos =>
      cases op with
      | And =>
        cases vs with
        | cons x r =>
          cases r with
          | cons y r =>
            cases r with
            | nil =>
              simp only [chkE, Bool.and_eq_true] at h
              exact g_and (soundE a _ _ _ _ _ h.1 c) fun H π M l w => part_one (soundE b _ _ _ _ _ h.2 c H π M l w)
            | cons z r =>
              simp only [chkE, Bool.and_eq_true] at h
              exact g_and (soundE a _ _ _ _ _ h.1 c) fun H π M l w => part_more (soundE b _ _ _ _ _ h.2 c H π M l w)
          | _ => exact absurd h (by simp [chkE])
        | _ => exact absurd h (by simp [chkE])
      | _ => exact absurd h (by simp [chkE])
    | _ => exact absurd h (by simp [chkE])
  | .or a b, sc, ast, X, σ, G, h, c => by
    cases ast with
    | BoolOp op vs pos =>
      cases op with
      | Or =>
        cases vs with
        | cons x r =>
          cases r with
          | cons y r =>
            cases r with
            | nil =>
              simp only [chkE, Bool.and_eq_true] at h
              exact g_or (soundE a _ _ _ _ _ h.1 c) fun H π M l w => part_one (soundE b _ _ _ _ _ h.2 c H π M l w)
            | cons z r =>
              simp only [chkE, Bool.and_eq_true] at h
              exact g_or (soundE a _ _ _ _ _ h.1 c) fun H π M l w => part_more (soundE b _ _ _ _ _ h.2 c H π M l w)
          | _ => exact absurd h (by simp [chkE])
        | _ => exact absurd h (by simp [chkE])
      | _ => exact absurd h (by simp [chkE])
    | _ => exact absurd h (by simp [chkE])
  | .cmp op a b, sc, ast, X, σ, G, h, c => by
    cases ast with
    | Compare l t5_compare t6_compare p =>
      cases t5_compare with
      | cons o t7_cons =>
        cases t7_cons with
        | nil =>
          cases t6_compare with
          | cons r t8_cons =>
            cases t8_cons with
            | nil =>
              simp only [chkE, Bool.and_eq_true, decide_eq_true_eq, beq_iff_eq, Bool.not_eq_true'] at h
              obtain ⟨⟨⟨rfl, h2⟩, h3⟩, h4⟩ := h
              exact g_cmp c h2 (soundE a _ _ _ _ _ h3 c) (soundE b _ _ _ _ _ h4 c)
            | _ => exact absurd h (by simp [chkE])
          | _ => exact absurd h (by simp [chkE])
        | _ => exact absurd h (by simp [chkE])
      | _ => exact absurd h (by simp [chkE])
    | _ => exact absurd h (by simp [chkE])
  | .chain a b d, sc, ast, X, σ, G, h, c => by
    cases ast with
    | Compare l t9_compare t10_compare p =>
      cases t9_compare with
      | cons t11_cons t12_cons =>
        cases t11_cons with
        | LtE =>
          cases t12_cons with
          | cons t13_cons t14_cons =>
            cases t13_cons with
            | LtE =>
              cases t14_cons with
              | nil =>
                cases t10_compare with
                | cons m t15_cons =>
                  cases t15_cons with
                  | cons r t16_cons =>
                    cases t16_cons with
                    | nil =>
                      simp only [chkE, Bool.and_eq_true, decide_eq_true_eq, beq_iff_eq, Bool.not_eq_true'] at h
                      exact g_chain (soundE a _ _ _ _ _ h.1.1 c) (soundE b _ _ _ _ _ h.1.2 c) (soundE d _ _ _ _ _ h.2 c)
                    | _ => exact absurd h (by simp [chkE])
                  | _ => exact absurd h (by simp [chkE])
                | _ => exact absurd h (by simp [chkE])
              | _ => exact absurd h (by simp [chkE])
            | _ => exact absurd h (by simp [chkE])
          | _ => exact absurd h (by simp [chkE])
        | _ => exact absurd h (by simp [chkE])
      | _ => exact absurd h (by simp [chkE])
    | _ => exact absurd h (by simp [chkE])
  | .ite d a b, sc, ast, X, σ, G, h, c => by
    cases ast with
    | IfExp t x y p =>
      simp only [chkE, Bool.and_eq_true, decide_eq_true_eq, beq_iff_eq, Bool.not_eq_true'] at h
      exact g_ite (soundE d _ _ _ _ _ h.1.1 c) (soundE a _ _ _ _ _ h.1.2 c) (soundE b _ _ _ _ _ h.2 c)
    | _ => exact absurd h (by simp [chkE])
  | .tup es, sc, ast, X, σ, G, h, c => by
    cases ast with
    | Tuple xs j p =>
      simp only [chkE, Bool.and_eq_true, decide_eq_true_eq, beq_iff_eq, Bool.not_eq_true'] at h
      exact g_tup (soundEs es _ _ _ _ _ h.2 h.1 c)
    | _ => exact absurd h (by simp [chkE])
  | .lst es, sc, ast, X, σ, G, h, c => by
    cases ast with
    | List xs p =>
      simp only [chkE, Bool.and_eq_true, decide_eq_true_eq, beq_iff_eq, Bool.not_eq_true'] at h
      exact g_lst (soundEs es _ _ _ _ _ h.2 h.1 c)
    | _ => exact absurd h (by simp [chkE])
  | .ix a i, sc, ast, X, σ, G, h, c => by
    cases ast with
    | Subscript x y p =>
      simp only [chkE, Bool.and_eq_true, decide_eq_true_eq, beq_iff_eq, Bool.not_eq_true'] at h
      exact g_ix h.1.1 (soundE a _ _ _ _ _ h.1.2 c) (soundE i _ _ _ _ _ h.2 c)
    | _ => exact absurd h (by simp [chkE])
  | .slTo a i, sc, ast, X, σ, G, h, c => by
    cases ast with
    | Subscript x t17_subscript p =>
      cases t17_subscript with
      | Slice t18_slice t19_slice t20_slice p2 =>
        cases t18_slice with
        | none =>
          cases t19_slice with
          | some u =>
            cases t20_slice with
            | none =>
              simp only [chkE, Bool.and_eq_true, decide_eq_true_eq, beq_iff_eq, Bool.not_eq_true'] at h
              exact g_slTo (soundE a _ _ _ _ _ h.1 c) (soundE i _ _ _ _ _ h.2 c)
            | _ => exact absurd h (by simp [chkE])
          | _ => exact absurd h (by simp [chkE])
        | _ => exact absurd h (by simp [chkE])
      | _ => exact absurd h (by simp [chkE])
    | _ => exact absurd h (by simp [chkE])
  | .slFrom a i, sc, ast, X, σ, G, h, c => by
    cases ast with
    | Subscript x t21_subscript p =>
      cases t21_subscript with
      | Slice t22_slice t23_slice t24_slice p2 =>
        cases t22_slice with
        | some u =>
          cases t23_slice with
          | none =>
            cases t24_slice with
            | none =>
              simp only [chkE, Bool.and_eq_true, decide_eq_true_eq, beq_iff_eq, Bool.not_eq_true'] at h
              exact g_slFrom (soundE a _ _ _ _ _ h.1 c) (soundE i _ _ _ _ _ h.2 c)
            | _ => exact absurd h (by simp [chkE])
          | _ => exact absurd h (by simp [chkE])
        | _ => exact absurd h (by simp [chkE])
      | _ => exact absurd h (by simp [chkE])
    | _ => exact absurd h (by simp [chkE])
  | .fld a f, sc, ast, X, σ, G, h, c => by
    cases ast with
    | Attribute x m p =>
      simp only [chkE, Bool.and_eq_true, decide_eq_true_eq, beq_iff_eq, Bool.not_eq_true'] at h
      obtain ⟨⟨rfl, h2⟩, h3⟩ := h
      exact g_fld c h2 (soundE a _ _ _ _ _ h3 c)
    | _ => exact absurd h (by simp [chkE])
  | .call f es, sc, ast, X, σ, G, h, c => by
    cases ast with
    | Call t25_call xs t26_call pos =>
      cases t25_call with
      | Name x p =>
        cases t26_call with
        | nil =>
          simp only [chkE, Bool.and_eq_true, decide_eq_true_eq, beq_iff_eq, Bool.not_eq_true'] at h
          obtain ⟨⟨⟨⟨rfl, h2⟩, h3⟩, h4⟩, h5⟩ := h
          exact g_call c h2 h3 h4 h5 (soundEs es _ _ _ _ _ h5 h4 c)
        | _ => exact absurd h (by simp [chkE])
      | _ => exact absurd h (by simp [chkE])
    | _ => exact absurd h (by simp [chkE])
  | .meth f a es, sc, ast, X, σ, G, h, c => by
    cases ast with
    | Call t27_call xs t28_call pos =>
      cases t27_call with
      | Attribute o m apos =>
        cases t28_call with
        | nil =>
          simp only [chkE, Bool.and_eq_true, decide_eq_true_eq, beq_iff_eq, Bool.not_eq_true', ne_eq] at h
          obtain ⟨⟨⟨⟨⟨⟨⟨⟨⟨rfl, h2⟩, h3⟩, h4⟩, h5⟩, h6⟩, h7⟩, h8⟩, h9⟩, h10⟩ := h
          exact g_meth c h2 h3 h4 h5 h8 h7 (beq_iff_eq.mpr h6) h10 (soundE a _ _ _ _ _ h9 c) (soundEs es _ _ _ _ _ h10 h8 c)
        | _ => exact absurd h (by simp [chkE])
      | _ => exact absurd h (by simp [chkE])
    | _ => exact absurd h (by simp [chkE])
  | .mk cl es, sc, ast, X, σ, G, h, c => by
    cases ast with
    | Call t29_call xs t30_call pos =>
      cases t29_call with
      | Name x p =>
        cases t30_call with
        | nil =>
          simp only [chkE, Bool.and_eq_true, decide_eq_true_eq, beq_iff_eq, Bool.not_eq_true'] at h
          obtain ⟨⟨⟨rfl, h3⟩, h4⟩, h5⟩ := h
          exact g_mk c h3 h4 h5 (soundEs es _ _ _ _ _ h5 h4 c)
        | _ => exact absurd h (by simp [chkE])
      | _ => exact absurd h (by simp [chkE])
    | _ => exact absurd h (by simp [chkE])
  | .isi a t, sc, ast, X, σ, G, h, c => by
    cases ast with
    | Call t31_call t32_call t33_call pos =>
      cases t31_call with
      | Name x p =>
        cases t32_call with
        | cons y t34_cons =>
          cases t34_cons with
          | cons t35_cons t36_cons =>
            cases t35_cons with
            | Name z zp =>
              cases t36_cons with
              | nil =>
                cases t33_call with
                | nil =>
                  simp only [chkE, Bool.and_eq_true, decide_eq_true_eq, beq_iff_eq, Bool.not_eq_true'] at h
                  obtain ⟨⟨⟨⟨⟨rfl, rfl⟩, h3⟩, h4⟩, h5⟩, h6⟩ := h
                  exact g_isi c h3 h4 h5 (soundE a _ _ _ _ _ h6 c)
                | _ => exact absurd h (by simp [chkE])
              | _ => exact absurd h (by simp [chkE])
            | _ => exact absurd h (by simp [chkE])
          | _ => exact absurd h (by simp [chkE])
        | _ => exact absurd h (by simp [chkE])
      | _ => exact absurd h (by simp [chkE])
    | _ => exact absurd h (by simp [chkE])
  | .bi b es, sc, ast, X, σ, G, h, c => by
    cases ast with
    | Call t37_call t38_call t39_call pos =>
      cases t37_call with
      | Name x p =>
        cases t38_call with
        | cons y ys =>
          cases t39_call with
          | nil =>
            simp only [chkE, Bool.and_eq_true, decide_eq_true_eq, beq_iff_eq, Bool.not_eq_true'] at h
            obtain ⟨⟨⟨rfl, h3⟩, h4⟩, h5⟩ := h
            exact g_bi c h3 h4 (soundEs es _ _ _ _ _ h5 h4 c)
          | _ => exact absurd h (by simp [chkE])
        | _ => exact absurd h (by simp [chkE])
      | _ => exact absurd h (by simp [chkE])
    | _ => exact absurd h (by simp [chkE])
  | .dm m a b, sc, ast, X, σ, G, h, c => by
    cases ast with
    | Call t40_call t41_call t42_call pos =>
      cases t40_call with
      | Attribute o n apos =>
        cases t41_call with
        | cons y t43_cons =>
          cases t43_cons with
          | nil =>
            cases t42_call with
            | nil =>
              simp only [chkE, Bool.and_eq_true, decide_eq_true_eq, beq_iff_eq, Bool.not_eq_true'] at h
              obtain ⟨⟨⟨⟨⟨rfl, h2⟩, h3⟩, h4⟩, h5⟩, h6⟩ := h
              exact g_dm c h2 (beq_iff_eq.mpr h3) h4 (soundE a _ _ _ _ _ h5 c) (soundE b _ _ _ _ _ h6 c)
            | _ => exact absurd h (by simp [chkE])
          | _ => exact absurd h (by simp [chkE])
        | _ => exact absurd h (by simp [chkE])
      | _ => exact absurd h (by simp [chkE])
    | _ => exact absurd h (by simp [chkE])
  | .tix n d b, sc, ast, X, σ, G, h, c => by
    cases ast with
    | Call t44_call t45_call t46_call pos =>
      cases t44_call with
      | Attribute t47_attribute m apos =>
        cases t47_attribute with
        | Name z np =>
          cases t45_call with
          | cons y t48_cons =>
            cases t48_cons with
            | nil =>
              cases t46_call with
              | nil =>
                simp only [chkE, Bool.and_eq_true, decide_eq_true_eq, beq_iff_eq, Bool.not_eq_true'] at h
                obtain ⟨⟨⟨⟨⟨⟨rfl, h2⟩, h3⟩, rfl⟩, h5⟩, h6⟩, h7⟩ := h
                exact g_tix c h2 h3 (beq_iff_eq.mpr h5) h6 (soundE b _ _ _ _ _ h7 c)
              | _ => exact absurd h (by simp [chkE])
            | _ => exact absurd h (by simp [chkE])
          | _ => exact absurd h (by simp [chkE])
        | _ => exact absurd h (by simp [chkE])
      | _ => exact absurd h (by simp [chkE])
    | _ => exact absurd h (by simp [chkE])
  | .pop a, sc, ast, X, σ, G, h, c => by
    cases ast with
    | Call t49_call t50_call t51_call pos =>
      cases t49_call with
      | Attribute o m apos =>
        cases t50_call with
        | nil =>
          cases t51_call with
          | nil =>
            simp only [chkE, Bool.and_eq_true, decide_eq_true_eq, beq_iff_eq, Bool.not_eq_true'] at h
            obtain ⟨⟨⟨rfl, h2⟩, h3⟩, h4⟩ := h
            exact g_pop c h2 (beq_iff_eq.mpr h3) (soundE a _ _ _ _ _ h4 c)
          | _ => exact absurd h (by simp [chkE])
        | _ => exact absurd h (by simp [chkE])
      | _ => exact absurd h (by simp [chkE])
    | _ => exact absurd h (by simp [chkE])
  | .pick ks gs a, sc, ast, X, σ, G, h, c => by
    cases ast with
    | Subscript t52_subscript y p =>
      cases t52_subscript with
      | Dict keys vals dp =>
        simp only [chkE, Bool.and_eq_true, decide_eq_true_eq, beq_iff_eq, Bool.not_eq_true'] at h
        obtain ⟨⟨⟨⟨⟨⟨⟨h1, h2⟩, h3⟩, h4⟩, h5⟩, h6⟩, h7⟩, h8⟩ := h
        exact g_pick c h1 h2 h3 h4 h5 h6 h7 (soundE a _ _ _ _ _ h8 c)
      | _ => exact absurd h (by simp [chkE])
    | _ => exact absurd h (by simp [chkE])
  | .comp i it elt, sc, ast, X, σ, G, h, c => by
    cases ast with
    | ListComp el t53_listcomp scope pos =>
      cases t53_listcomp with
      | cons t54_cons t55_cons =>
        cases t54_cons with
        | mk t56_mk iter t57_mk ia =>
          cases t56_mk with
          | Name x p =>
            cases t57_mk with
            | nil =>
              cases t55_cons with
              | nil =>
                simp only [chkE, Bool.and_eq_true, decide_eq_true_eq, beq_iff_eq, Bool.not_eq_true'] at h
                obtain ⟨⟨⟨⟨⟨⟨rfl, h2⟩, h3⟩, h4⟩, h5⟩, h6⟩, h7⟩ := h
                exact g_comp c h2 h3 h4 h5 (soundE it _ _ _ _ _ h6 c) fun σ2 G2 s0 H0 C cl fp => soundE elt _ _ _ _ _ h7 c.blk
              | _ => exact absurd h (by simp [chkE])
            | _ => exact absurd h (by simp [chkE])
          | _ => exact absurd h (by simp [chkE])
      | _ => exact absurd h (by simp [chkE])
    | _ => exact absurd h (by simp [chkE])
  | .compIf i it d elt, sc, ast, X, σ, G, h, c => by
    cases ast with
    | ListComp el t58_listcomp scope pos =>
      cases t58_listcomp with
      | cons t59_cons t60_cons =>
        cases t59_cons with
        | mk t61_mk iter t62_mk ia =>
          cases t61_mk with
          | Name x p =>
            cases t62_mk with
            | cons t t63_cons =>
              cases t63_cons with
              | nil =>
                cases t60_cons with
                | nil =>
                  simp only [chkE, Bool.and_eq_true, decide_eq_true_eq, beq_iff_eq, Bool.not_eq_true'] at h
                  obtain ⟨⟨⟨⟨⟨⟨⟨rfl, h2⟩, h3⟩, h4⟩, h5⟩, h6⟩, h7⟩, h8⟩ := h
                  exact g_compIf c h2 h3 h4 h5 (soundE it _ _ _ _ _ h6 c) (fun σ2 G2 s0 H0 C cl fp => soundE d _ _ _ _ _ h7 c.blk) fun σ2 G2 s0 H0 C cl fp => soundE elt _ _ _ _ _ h8 c.blk
                | _ => exact absurd h (by simp [chkE])
              | _ => exact absurd h (by simp [chkE])
            | _ => exact absurd h (by simp [chkE])
          | _ => exact absurd h (by simp [chkE])
      | _ => exact absurd h (by simp [chkE])
    | _ => exact absurd h (by simp [chkE])
  | .compU is it elt, sc, ast, X, σ, G, h, c => by
    cases ast with
    | ListComp el t64_listcomp scope pos =>
      cases t64_listcomp with
      | cons t65_cons t66_cons =>
        cases t65_cons with
        | mk t67_mk iter t68_mk ia =>
          cases t67_mk with
          | Tuple ts j p =>
            cases t68_mk with
            | nil =>
              cases t66_cons with
              | nil =>
                simp only [chkE, Bool.and_eq_true, decide_eq_true_eq, beq_iff_eq, Bool.not_eq_true'] at h
                obtain ⟨⟨⟨⟨⟨⟨⟨rfl, h2⟩, h3⟩, h4⟩, h5⟩, h6⟩, h7⟩, h8⟩ := h
                exact g_compU c h2 h4 h5 h6 (soundE it _ _ _ _ _ h7 c) fun σ2 G2 s0 H0 C cl fp => soundE elt _ _ _ _ _ h8 c.blk
              | _ => exact absurd h (by simp [chkE])
            | _ => exact absurd h (by simp [chkE])
          | _ => exact absurd h (by simp [chkE])
      | _ => exact absurd h (by simp [chkE])
    | _ => exact absurd h (by simp [chkE])
  | .compZ i j a b elt, sc, ast, X, σ, G, h, c => by
    cases ast with
    | ListComp el t69_listcomp scope pos =>
      cases t69_listcomp with
      | cons t70_cons t71_cons =>
        cases t70_cons with
        | mk t72_mk t73_mk t74_mk ia =>
          cases t72_mk with
          | Tuple t75_tuple jj tp =>
            cases t75_tuple with
            | cons t76_cons t77_cons =>
              cases t76_cons with
              | Name x p =>
                cases t77_cons with
                | cons t78_cons t79_cons =>
                  cases t78_cons with
                  | Name y p2 =>
                    cases t79_cons with
                    | nil =>
                      cases t73_mk with
                      | Call t80_call t81_call t82_call cp =>
                        cases t80_call with
                        | Name z zp =>
                          cases t81_call with
                          | cons e1 t83_cons =>
                            cases t83_cons with
                            | cons e2 t84_cons =>
                              cases t84_cons with
                              | nil =>
                                cases t82_call with
                                | nil =>
                                  cases t74_mk with
                                  | nil =>
                                    cases t71_cons with
                                    | nil =>
                                      simp only [chkE, Bool.and_eq_true, decide_eq_true_eq, beq_iff_eq, Bool.not_eq_true'] at h
                                      obtain ⟨⟨⟨⟨⟨⟨⟨⟨⟨⟨⟨⟨rfl, h2⟩, h3⟩, h4⟩, h5⟩, h6⟩, h7⟩, rfl⟩, h9⟩, h10⟩, h11⟩, h12⟩, h13⟩ := h
                                      exact g_compZ c h2 h3 h5 h6 h7 h9 h10 (soundE a _ _ _ _ _ h11 c) (soundE b _ _ _ _ _ h12 c) fun σ2 G2 s0 H0 C cl fp => soundE elt _ _ _ _ _ h13 c.blk
                                    | _ => exact absurd h (by simp [chkE])
                                  | _ => exact absurd h (by simp [chkE])
                                | _ => exact absurd h (by simp [chkE])
                              | _ => exact absurd h (by simp [chkE])
                            | _ => exact absurd h (by simp [chkE])
                          | _ => exact absurd h (by simp [chkE])
                        | _ => exact absurd h (by simp [chkE])
                      | _ => exact absurd h (by simp [chkE])
                    | _ => exact absurd h (by simp [chkE])
                  | _ => exact absurd h (by simp [chkE])
                | _ => exact absurd h (by simp [chkE])
              | _ => exact absurd h (by simp [chkE])
            | _ => exact absurd h (by simp [chkE])
          | _ => exact absurd h (by simp [chkE])
      | _ => exact absurd h (by simp [chkE])
    | _ => exact absurd h (by simp [chkE])
theorem soundEs : ∀ (es : Es) (sc : Scope) (xs : List Expr) (X : Cx) (σ : L2.St) (G : Loc), chkEs N es sc xs = true → nst xs = true → Cxt Φ fa fdo pso k N sc X → GoodEs Φ X σ G xs es
  | .nil, sc, xs, X, σ, G, h, hn, c => by
    cases xs with
    | nil => exact gs_nil
    | cons x r => exact absurd h (by simp [chkEs])
  | .cons e r, sc, xs, X, σ, G, h, hn, c => by
    cases xs with
    | nil => exact absurd h (by simp [chkEs])
    | cons x xs =>
      simp only [chkEs, Bool.and_eq_true] at h
      exact gs_cons hn (soundE e _ _ _ _ _ h.1 c) (soundEs r _ _ _ _ _ h.2 (nst_cons (env := X.env) hn).2 c)
end
end
end K75

set_option Elab.async false
set_option linter.all false
set_option autoImplicit false
set_option maxRecDepth 100000
set_option maxHeartbeats 2000000
/-! Part 21: simple statements. -/
namespace K75
open PySem PySem.Spec PyProof.Rows L2
/-! ### outcomes, in one -/
def OkF (X : Cx) (H : Hp) (π : Pl) (r : F) (D : Ends) (W : WX) : Prop := match r with
  | .no => False
  | .nx G' M' => ∀ σ' H' π', Gr H π H' π' → Wd X.K H' π' M' → LocR X.K (hid H' π') π' σ' G' → D.nx σ' H'
  | .ret v M' => ∀ a H' π', Gr H π H' π' → Wd X.K H' π' M' → RV X.K (hid H' π') π' a v → D.rt a H'
  | .ex c G' M' => ∀ σ' H' π', Gr H π H' π' → Wd X.K H' π' M' → LocR X.K (hid H' π') π' σ' G' → W (.ref (xA X.K c)) none σ' H'
section
variable {X : Cx} {σ : L2.St} {H H1 : Hp} {π π1 : Pl} {r : F} {T : Ends → Prop} {D : Ends} {W : WX}
theorem OtS.all (h : OtS X σ H π r T) (tk : Takes X W) (ok : OkF X H π r D W) : T D := by
  cases r with
  | no => exact ok.elim
  | nx G M => exact h D ok
  | ret v M => exact h D ok
  | ex c G M => exact h W tk ok D
theorem OtS.of (h : ∀ D W, Takes X W → OkF X H π r D W → T D) : OtS X σ H π r T := by
  cases r with
  | no => trivial
  | nx G M => exact fun D q => h D _ takes_none5 q
  | ret v M => exact fun D q => h D _ takes_none5 q
  | ex c G M => exact fun W tk q D => h D W tk q
theorem OkF.gr (h : OkF X H π r D W) (g : Gr H π H1 π1) : OkF X H1 π1 r D W := by
  cases r with
  | no => exact h
  | nx G M => exact fun σ' H' π' g' => h σ' H' π' (g.trans g')
  | ret v M => exact fun a H' π' g' => h a H' π' (g.trans g')
  | ex c G M => exact fun σ' H' π' g' => h σ' H' π' (g.trans g')
end
/-- where a def's statements stand -/
structure Stx (X : Cx) : Prop where
  stk : X.stack = X.env :: X.outer
  frm : X.env.frame = some X.env.locals
  pass : PassesOwn (model X.prog X.w) X.A X.env X.xe
  fn : ∀ x, X.fn x = true
  kind : X.env.scope.kind = .function
def GoodS (Φ : Env) (X : Cx) (st : Stmt) (s : S) : Prop := ∀ σ G H π M, LocR X.K (hid H π) π σ G → Wd X.K H π M → OtS X σ H π (exS Φ s G M) (fun D => twS X st D σ H)
def GoodSs (Φ : Env) (X : Cx) (st : List Stmt) (s : Ss) : Prop := ∀ σ G H π M, LocR X.K (hid H π) π σ G → Wd X.K H π M → OtS X σ H π (exSs Φ s G M) (fun D => twB X st D σ H)
section
variable {Φ : Env} {fa : Fn → Addr} {fdo : Fn → FuncData} {pso : Fn → List Str} {k : Nat} {N : List Str} {sc : Scope} {X : Cx}
variable {a b c0 e : E} {es : Es} {x y z v : Expr} {xs : List Expr} {pos p px py pz lp tp : Pos} {i j l : Nat} {n m : Str}
theorem ss_nil : GoodSs Φ X [] .nil := fun σ G H π M lr w D q => twB_of pss_nil (q σ H π (Gr.refl _ _) w lr)
theorem ss_cons {s : S} {r : Ss} {st : Stmt} {rest : List Stmt} (h1 : GoodS Φ X st s) (h2 : GoodSs Φ X rest r) : GoodSs Φ X (st :: rest) (.cons s r) := by
  intro σ G H π M lr w
  refine OtS.of fun D W tk ok => twB_of (pss_cons (pwS X st) (pwB X rest)) ?_
  have ok : OkF X H π ((exS Φ s G M).bind fun G1 M1 => exSs Φ r G1 M1) D W := ok
  show twS X st { D with nx := twB X rest D } σ H
  refine (h1 σ G H π M lr w).all tk (D := { D with nx := twB X rest D }) ?_
  cases hs : exS Φ s G M with
  | no => rw [hs] at ok; exact ok
  | nx G1 M1 =>
    rw [hs] at ok
    exact fun σ' H' π' g' w' l' => (h2 σ' G1 H' π' M1 l' w').all tk (OkF.gr (show OkF X H π (exSs Φ r G1 M1) D W from ok) g')
  | ret v M1 => rw [hs] at ok; exact ok
  | ex c G1 M1 => rw [hs] at ok; exact ok
theorem swap_no {t : Option Expr} {ln : Nat} {env : PySem.Env} (h : notLc v = true) : swapsWith v t ln env = pure false := by
  cases v <;> first | rfl | (exact absurd h (by simp [notLc]))
theorem ot_nx {σ : L2.St} {G : Loc} {H : Hp} {π : Pl} {M : Sto} {T : Ends → Prop} (h : ∀ D : Ends, (∀ σ' H' π', Gr H π H' π' → Wd X.K H' π' M → LocR X.K (hid H' π') π' σ' G → D.nx σ' H') → T D) : OtS X σ H π (.nx G M) T := h
theorem s_set (c : Cxt Φ fa fdo pso k N sc X) (sx : Stx X) (h1 : atN N i n = true) (h2 : locB sc n = true) (h3 : notLc v = true) (he : ∀ σ G, GoodE Φ X σ G v e) : GoodS Φ X (.Assign [.Name n px] v pos) (.set i e) := by
  intro σ G H π M lr w
  refine OtS.mono (T := fun D => tAsg (tw X v) (gName i) D σ H) ?_ fun D q => twS_of (ps_set (by rw [c.names]; exact c.nd) (at_of c h1) (loc_of c h2) (pw X v) (swap_no h3) (.inl (sx.fn n))) q
  refine Ot.to (M0 := M) lr (he σ G H π M lr w).val fun u M1 a H1 π1 e1 g1 w1 r1 => ?_
  exact fun D q => q _ H1 π1 (Gr.refl _ _) w1 ((lr.gr g1).set r1 i)
theorem s_setC (c : Cxt Φ fa fdo pso k N sc X) (sx : Stx X) (h1 : atN N i n = true) (h2 : lcLine sc n px v = true) (hc : chkE N e sc v = true) (h3 : isCompE e = true) (he : ∀ σ G, GoodE Φ X σ G v e) : GoodS Φ X (.Assign [.Name n px] v pos) (.setC i e) := by
  intro σ G H π M lr w
  unfold lcLine at h2
  split at h2
  · rename_i el tg it ifs ia scope lpos
    simp only [Bool.and_eq_true, decide_eq_true_eq] at h2
    obtain ⟨⟨⟨rfl, h4⟩, h5⟩, h6⟩ := h2
    have hk : X.env.kindOf n = some .local := by show X.env.scope.names.lookup n = _; rw [c.sco]; exact kd_of h4
    have hsw : swapsWith (.ListComp el [⟨tg, it, ifs, 0⟩] scope lpos) (some (.Name n px)) pos.line X.env = pure true := by
      show (pure (X.env.blockKind == .function && X.env.kindOf n == some .local && px.line == lpos.line && !(scope.names.any fun (m, k) => m == n && (k == .local || k == .cell))) : Sem Bool) = pure true
      have e1 : X.env.blockKind = .function := by unfold Env.blockKind; rw [sx.kind]; rfl
      rw [e1, hk, h5, h6]; rfl
    refine OtS.mono (T := fun D => tAsg (twL X el tg it ifs scope) (gName i) D σ H) ?_ fun D q => twS_of (t := tAsg (twL X el tg it ifs scope) (gName i)) ⟨fun pins s σ H D I h => ?_⟩ q
    · refine Ot.to (M0 := M) lr ((he σ G H π M lr w).lc _ _ _ _ _ _ rfl) fun u M1 a H1 π1 e1 g1 w1 r1 => ?_
      exact fun D q => q _ H1 π1 (Gr.refl _ _) w1 ((lr.gr g1).set r1 i)
    · obtain ⟨wi, own, g, tt, te, p1, p2, p3, p4, p5, p6, h⟩ := h
      exact (ps_setLc c.calm (by rw [c.names]; exact c.nd) (at_of c h1) (by rw [c.sco]; exact kd_of h4) hsw p1 p2 p3 p4 p5 p6).run pins s σ H D I h
  · cases h2
end
end K75

set_option Elab.async false
set_option linter.all false
set_option autoImplicit false
set_option maxRecDepth 100000
set_option maxHeartbeats 2000000
/-! Part 22: more simple statements. -/
namespace K75
open PySem PySem.Spec PyProof.Rows L2
section
variable {Φ : Env} {fa : Fn → Addr} {fdo : Fn → FuncData} {pso : Fn → List Str} {k : Nat} {N : List Str} {sc : Scope} {X : Cx}
variable {a b c0 e : E} {es : Es} {x y z v q0 : Expr} {xs ts : List Expr} {pos p px py pz lp tp apos cpos : Pos} {i j l : Nat} {n m : Str}
/-- a new list, an object of the store -/
theorem new_list {σ : L2.St} {G : Loc} {H : Hp} {π : Pl} {M : Sto} (w : Wd X.K H π M) {ds : List PyData} {vs : List V} (h : DpAll X.K (hid H π) vs ds) {q : Addr} (hq : H q = none) :
    Gr H π (upd H q (.lst vs)) (π.add q) ∧ Wd X.K (upd H q (.lst vs)) (π.add q) (M ++ [.lst ds]) ∧ RV X.K (hid (upd H q (.lst vs)) (π.add q)) (π.add q) (.ref q) (.o M.length) := by
  obtain ⟨g1, w1⟩ := w.grow (m := .lst ds) (H' := upd H q (.lst vs)) hq (fun b o e => by rw [upd_ne (ne_of_none e hq)]; exact e) fun Hd sm => ⟨vs, upd_same, dpsSame sm h⟩
  refine ⟨g1, w1, q, ?_, rfl⟩
  show (π.ad ++ [q])[M.length]? = some q
  rw [← w.len]; simp
theorem s_setN (c : Cxt Φ fa fdo pso k N sc X) (sx : Stx X) (h1 : atN N i n = true) (h2 : locB sc n = true) : GoodS Φ X (.Assign [.Name n px] (.List [] lp) pos) (.setN i) := by
  intro σ G H π M lr w D q
  refine twS_of (ps_set (by rw [c.names]; exact c.nd) (at_of c h1) (loc_of c h2) (pe_lst pa_nil) rfl (.inl (sx.fn n))) ?_
  show ([] : List V).length ≤ sizeLine ∧ ∀ p, H p = none → gName i (.ref p) σ (upd H p (.lst [])) D.nx
  refine ⟨Nat.zero_le _, fun r hr => ?_⟩
  obtain ⟨g1, w1, rv⟩ := new_list (σ := σ) (G := G) w (ds := []) .nil hr
  exact q _ _ _ g1 w1 ((lr.gr g1).set rv i)
theorem s_fset (c : Cxt Φ fa fdo pso k N sc X) {f : Fd} (h3 : notLc v = true) (ho : ∀ σ G, GoodE Φ X σ G x a) (he : ∀ σ G, GoodE Φ X σ G v e) : GoodS Φ X (.Assign [.Attribute x f.nm px] v pos) (.fset a f e) := by
  intro σ G H π M lr w
  refine OtS.mono (T := fun D => sFld X.K (tw X x) (tw X v) f.nm D σ H) ?_ fun D q => twS_of (ps_fld (pw X x) (pw X v) (swap_no h3)) q
  refine Ot.to (M0 := M) lr (he σ G H π M lr w).val fun u M1 yv H1 π1 e1 g1 w1 r1 => ?_
  refine Ot.to (M0 := M1) (lr.gr g1) (ho σ G H1 π1 M1 (lr.gr g1) w1).val fun t M2 xv H2 π2 e2 g2 w2 r2 => ?_
  split
  · rename_i n
    split
    · rename_i cl fs hf
      split
      · rename_i h8
        obtain ⟨ad, dx, vs, rfl, h1, h2, h4⟩ := w2.ins r2 hf
        have r3 := rv_gr g2 r1
        refine fun D q => ⟨ad, _, dx, vs, rfl, h2, c.facts.cls _, c.facts.noA _ _, by rw [h4.len]; omega, ?_⟩
        obtain ⟨g3, w3⟩ := w2.write (o := .ins (cA X.K cl) dx (putF f.nm yv vs)) (m := .ins cl (putFd f u fs)) h1 ⟨dx, _, upd_same, h4.put r3⟩
        exact q σ _ π2 g3 w3 (((lr.gr g1).gr g2).gr g3)
      · trivial
    · trivial
  · trivial
theorem s_fsetN (c : Cxt Φ fa fdo pso k N sc X) {f : Fd} (ho : ∀ σ G, GoodE Φ X σ G x a) : GoodS Φ X (.Assign [.Attribute x f.nm px] (.List [] lp) pos) (.fsetN a f) := by
  intro σ G H π M lr w
  refine OtS.mono (T := fun D => sFld X.K (tw X x) (tLst tNil) f.nm D σ H) ?_ fun D q => twS_of (ps_fld (pw X x) (pe_lst pa_nil) rfl) q
  have go : ∀ r, H r = none → OtS X σ H π (exS Φ (.fsetN a f) G M) (fun D => tw X x σ (upd H r (.lst [])) fun x H2 => ∃ a C dx fs, x = .ref a ∧ H2 a = some (.ins C dx fs) ∧ Cls X.K C ∧ NoAttr X.K C f.nm ∧ fs.length < 1000 ∧ D.nx σ (upd H2 a (.ins C dx (putF f.nm (.ref r) fs)))) := by
    intro r hr
    obtain ⟨g1, w1, rv⟩ := new_list (σ := σ) (G := G) w (ds := []) .nil hr
    have lr1 := lr.gr g1
    have key : OtS X σ (upd H r (.lst [])) (π.add r) (exS Φ (.fsetN a f) G M) (fun D => tw X x σ (upd H r (.lst [])) fun x H2 => ∃ a C dx fs, x = .ref a ∧ H2 a = some (.ins C dx fs) ∧ Cls X.K C ∧ NoAttr X.K C f.nm ∧ fs.length < 1000 ∧ D.nx σ (upd H2 a (.ins C dx (putF f.nm (.ref r) fs)))) := by
      refine Ot.to (M0 := M) lr1 (ho σ G _ _ _ lr1 w1).val fun t M2 xv H2 π2 e2 g2 w2 r2 => ?_
      split
      · rename_i n
        split
        · rename_i cl fs hf
          split
          · rename_i h8
            obtain ⟨ad, dx, vs, rfl, h1, h2, h4⟩ := w2.ins r2 hf
            refine fun D q => ⟨ad, _, dx, vs, rfl, h2, c.facts.cls _, c.facts.noA _ _, by rw [h4.len]; omega, ?_⟩
            obtain ⟨g3, w3⟩ := w2.write (o := .ins (cA X.K cl) dx (putF f.nm (.ref r) vs)) (m := .ins cl (putFd f (.o M.length) fs)) h1 ⟨dx, _, upd_same, h4.put (rv_gr g2 rv)⟩
            exact q σ _ π2 g3 w3 ((lr1.gr g2).gr g3)
          · trivial
        · trivial
      · trivial
    refine OtS.of fun D W tk ok => key.all tk (ok.gr g1)
  refine OtS.of fun D W tk ok => ?_
  show ([] : List V).length ≤ sizeLine ∧ ∀ p, H p = none → _
  exact ⟨Nat.zero_le _, fun r hr => (go r hr).all tk ok⟩
theorem asg_sub (h : isSl y = false) {env : PySem.Env} : ∀ u, assign (.Subscript x y pos) env u = (do
      let ov ← holding [u] (eval x env)
      let iv ← holding [u, ov] (eval y env)
      standAt pos
      holding [u, ov, iv] (setItem ov iv u)
      release [u, ov, iv] []) := by
  intro u
  cases y with
  | Slice l h s p => exact absurd h (by simp [isSl])
  | _ => rfl
theorem s_iset (c : Cxt Φ fa fdo pso k N sc X) (h3 : notLc v = true) (h4 : isSl y = false) (ho : ∀ σ G, GoodE Φ X σ G x a) (hi : ∀ σ G, GoodE Φ X σ G y b) (he : ∀ σ G, GoodE Φ X σ G v e) : GoodS Φ X (.Assign [.Subscript x y px] v pos) (.iset a b e) := by
  intro σ G H π M lr w
  refine OtS.mono (T := fun D => tAsg (tw X v) (gSub (tw X x) (tw X y) rSetL) D σ H) ?_ fun D q => twS_of (ps_asg (pw X v) (pg_sub (pw X x) (pw X y) set_list (asg_sub h4)) (by simp only [swapsWithSole]; exact swap_no h3) rfl rfl) q
  refine Ot.to (M0 := M) lr (he σ G H π M lr w).val fun u M1 vv H1 π1 e1 g1 w1 r1 => ?_
  refine OtS.mono (T := fun D : Ends => tw X x σ H1 fun o H2 => tw X y σ H2 fun i H3 => rSetL o i vv H3 fun H4 => D.nx σ H4) ?_ fun D q => q
  refine Ot.to (M0 := M1) (lr.gr g1) (ho σ G H1 π1 M1 (lr.gr g1) w1).val fun t M2 xv H2 π2 e2 g2 w2 r2 => ?_
  refine Ot.to (M0 := M2) ((lr.gr g1).gr g2) (hi σ G H2 π2 M2 ((lr.gr g1).gr g2) w2).val fun s M3 yv H3 π3 e3 g3 w3 r3 => ?_
  split
  · rename_i yd n j
    split
    · rename_i zs hz
      split
      · rename_i h8
        obtain ⟨ad, vs, rfl, h1, h2, h5⟩ := w3.lst (rv_gr g3 r2) hz
        have e7 := dp_int r3
        subst e7
        have hix : ixN vs.length j = some j.toNat := by
          unfold ixN
          rw [if_pos h8.1, if_pos (by rw [h5.len]; exact h8.2)]
        refine fun D q => ⟨ad, vs, j, j.toNat, rfl, rfl, h2, hix, ?_⟩
        have r4 : Dp X.K (hid H3 π3) vv yd := rv_gr (x := .d yd) (g2.trans g3) r1
        obtain ⟨g4, w4⟩ := w3.write (o := .lst (vs.set j.toNat vv)) (m := .lst (zs.set j.toNat yd)) h1 ⟨_, upd_same, h5.set' r4 _⟩
        exact q σ _ π3 g4 w4 ((((lr.gr g1).gr g2).gr g3).gr g4)
      · trivial
    · trivial
  · trivial
/-- targets not all plain: the value is made a tuple first -/
theorem swapped_none {env : PySem.Env} (hs : env.scope = sc) {is : List Nat} (hN : nameAt N is ts = true) (h : isTup v = false ∨ someCell sc ts = true) {kt : Nat} : swappedStores [.Tuple ts kt tp] v env = pure none := by
  cases v with
  | Tuple vs k2 pt =>
    rcases h with h | h
    · exact absurd h (by simp [isTup])
    · unfold swappedStores
      have len : ∀ {is : List Nat} {ts : List Expr} (line : Nat), nameAt N is ts = true → someCell sc ts = true → (ts.filterMap fun | .Name id pos => if env.kindOf id == some .local && pos.line == line then some id else none | _ => none).length < ts.length := by
        intro is
        induction is with
        | nil => intro ts line h1 h2; cases ts with
          | nil => simp [someCell] at h2
          | cons t r => simp [nameAt] at h1
        | cons i is ih =>
          intro ts line h1 h2
          cases ts with
          | nil => simp [nameAt] at h1
          | cons t r =>
            cases t with
            | Name x p =>
              simp only [nameAt, Bool.and_eq_true] at h1
              simp only [someCell, Bool.or_eq_true, Bool.not_eq_true'] at h2
              have le : (r.filterMap fun | .Name id pos => if env.kindOf id == some .local && pos.line == line then some id else none | _ => none).length ≤ r.length := List.length_filterMap_le _ _
              rw [List.filterMap_cons]
              rcases h2 with h2 | h2
              · have e : (env.kindOf x == some .local) = false := by
                  show (env.scope.names.lookup x == some .local) = false
                  rw [hs]
                  unfold kd at h2
                  simpa using h2
                simp only [e, Bool.false_and, Bool.false_eq_true, if_false, List.length_cons]
                omega
              · have := ih line h1.2 h2
                split
                · simp only [List.length_cons]; omega
                · simp only [List.length_cons]; omega
            | _ => simp [nameAt] at h1
      have hl := len (((ts.head?.map (·.pos.line)).getD 0)) hN h
      simp only
      split
      · rfl
      · split
        · rfl
        · rw [if_pos]
          rw [Bool.or_eq_true]
          exact .inl (bne_iff_ne.mpr (Nat.ne_of_lt hl))
  | _ => rfl
end
end K75

set_option Elab.async false
set_option linter.all false
set_option autoImplicit false
set_option maxRecDepth 100000
set_option maxHeartbeats 2000000
/-! Part 23: targets side by side; lists appended to; returns; raises. -/
namespace K75
open PySem PySem.Spec PyProof.Rows L2
section
variable {Φ : Env} {fa : Fn → Addr} {fdo : Fn → FuncData} {pso : Fn → List Str} {k : Nat} {N : List Str} {sc : Scope} {X : Cx}
variable {a b c0 e : E} {es : Es} {x y z v q0 : Expr} {xs ts : List Expr} {pos p px py pz lp tp apos cpos : Pos} {i j l : Nat} {n m n1 n2 n3 : Str}
theorem locs_of (c : Cxt Φ fa fdo pso k N sc X) (sx : Stx X) : ∀ x, locB sc x = true → L2.Loc X.env.scope x ∧ (X.fn x = true ∨ X.env.scope.names.lookup x = some .local) := fun x h => ⟨loc_of c h, .inl (sx.fn x)⟩
theorem s_unp (c : Cxt Φ fa fdo pso k N sc X) (sx : Stx X) {is : List Nat} {kt : Nat} (h1 : nameAt N is ts = true) (h2 : tgNames (locB sc) ts = true) (h3 : notLc v = true) (h4 : isTup v = false ∨ someCell sc ts = true) (he : ∀ σ G, GoodE Φ X σ G v e) :
    GoodS Φ X (.Assign [.Tuple ts kt tp] v pos) (.unp is e) := by
  intro σ G H π M lr w
  obtain ⟨a1, a2, _⟩ := asg_names (env := X.env) h1
  refine OtS.mono (T := fun D => tAsg (tw X v) (gTup X.K is.length (gNames is)) D σ H) ?_ fun D q => twS_of (ps_asg (pw X v) (pg_tup c.calm (pgs_names (p := locB sc) (locs_of c sx) (by rw [c.names]; exact c.nd) (by rw [c.names]; exact h1) h2) a1 a2) (by simp only [swapsWithSole]; exact swap_no h3) (swapped_none c.sco h1 h4) rfl) q
  refine Ot.to (M0 := M) lr (he σ G H π M lr w).val fun u M1 vv H1 π1 e1 g1 w1 r1 => ?_
  split
  · rename_i d
    split
    · rename_i G1 hu
      exact fun D q => unp_run (vs0 := is) hu r1 (lr.gr g1) (fun i hi => hi) fun σ2 l2 _ => q σ2 H1 π1 (Gr.refl _ _) w1 l2
    · trivial
  · trivial
theorem dups2 {α : Type} [BEq α] [LawfulBEq α] {x y : α} (h : (x == y) = false) : [x, y].eraseDups = [x, y] := by
  have h2 : ¬ y = x := fun e => by rw [e] at h; simp at h
  simp [List.eraseDups_cons, h2]
theorem dups3 {α : Type} [BEq α] [LawfulBEq α] {x y z : α} (h1 : (x == y) = false) (h2 : (x == z) = false) (h3 : (y == z) = false) : [x, y, z].eraseDups = [x, y, z] := by
  have k1 : ¬ y = x := fun e => by rw [e] at h1; simp at h1
  have k2 : ¬ z = x := fun e => by rw [e] at h2; simp at h2
  have k3 : ¬ z = y := fun e => by rw [e] at h3; simp at h3
  simp [List.eraseDups_cons, k1, k2, k3]
theorem any_star {f : Expr → Bool} (hf : ∀ e, nst1 e = true → f e = false) : ∀ {xs : List Expr}, nst xs = true → xs.any f = false
  | [], _ => rfl
  | x :: xs, h => by
    simp only [nst, Bool.and_eq_true] at h
    rw [List.any_cons, hf x h.1, any_star hf h.2]; rfl
theorem swapped_two {env : PySem.Env} (hb : env.blockKind = .function) (hx : env.kindOf n1 = some .local) (hy : env.kindOf n2 = some .local) (hl : (py.line == px.line) = true) (hne : (n1 == n2) = false) (hn : nst [x, y] = true)
    (hf : (foldedForSure 8 x && foldedForSure 8 y) = false) (hc : (constantsAlone 8 x && constantsAlone 8 y) = false) {kt k2 : Nat} {pt : Pos} :
    swappedStores [.Tuple [.Name n1 px, .Name n2 py] kt tp] (.Tuple [x, y] k2 pt) env = pure (some [n1, n2]) := by
  unfold swappedStores
  dsimp only
  rw [any_star (by intro e he; cases e <;> first | rfl | (exact absurd he (by simp [nst1]))) hn]
  simp only [List.length_cons, List.length_nil, hb, List.head?_cons, Option.map_some, Option.getD_some]
  have l1 : (px.line == (Expr.Name n1 px).pos.line) = true := beq_self_eq_true _
  have l2 : (py.line == (Expr.Name n1 px).pos.line) = true := hl
  simp only [List.filterMap_cons, hx, hy, l1, l2, beq_self_eq_true, Bool.and_self, if_true, List.filterMap_nil, dups2 hne, List.length_cons, List.length_nil, List.all_cons, List.all_nil, Bool.and_true, hf, hc]
  rfl
theorem swapped_three {env : PySem.Env} (hb : env.blockKind = .function) (hx : env.kindOf n1 = some .local) (hy : env.kindOf n2 = some .local) (hz : env.kindOf n3 = some .local) (hl : (py.line == px.line) = true) (hl2 : (pz.line == px.line) = true) (hne : (n1 == n2) = false) (hne2 : (n1 == n3) = false) (hne3 : (n2 == n3) = false) (hn : nst [x, y, z] = true)
    (hf : (foldedForSure 8 x && foldedForSure 8 y && foldedForSure 8 z) = false) (hc : (constantsAlone 8 x && constantsAlone 8 y && constantsAlone 8 z) = false) {kt k2 : Nat} {pt : Pos} :
    swappedStores [.Tuple [.Name n1 px, .Name n2 py, .Name n3 pz] kt tp] (.Tuple [x, y, z] k2 pt) env = pure (some [n1, n2, n3]) := by
  unfold swappedStores
  dsimp only
  rw [any_star (by intro e he; cases e <;> first | rfl | (exact absurd he (by simp [nst1]))) hn]
  simp only [List.length_cons, List.length_nil, hb, List.head?_cons, Option.map_some, Option.getD_some]
  have l1 : (px.line == (Expr.Name n1 px).pos.line) = true := beq_self_eq_true _
  have l2 : (py.line == (Expr.Name n1 px).pos.line) = true := hl
  have l3 : (pz.line == (Expr.Name n1 px).pos.line) = true := hl2
  have hf' : (foldedForSure 8 x && (foldedForSure 8 y && foldedForSure 8 z)) = false := by rw [← Bool.and_assoc]; exact hf
  have hc' : (constantsAlone 8 x && (constantsAlone 8 y && constantsAlone 8 z)) = false := by rw [← Bool.and_assoc]; exact hc
  simp only [List.filterMap_cons, hx, hy, hz, l1, l2, l3, beq_self_eq_true, Bool.and_self, if_true, List.filterMap_nil, dups3 hne hne2 hne3, List.length_cons, List.length_nil, List.all_cons, List.all_nil, Bool.and_true, hf', hc']
  rfl
theorem bk_of (sx : Stx X) : X.env.blockKind = .function := by unfold Env.blockKind; rw [sx.kind]; rfl
theorem kd_env (c : Cxt Φ fa fdo pso k N sc X) (h : kd sc n .local = true) : X.env.kindOf n = some .local := by show X.env.scope.names.lookup n = _; rw [c.sco]; exact kd_of h
theorem ne_at (c : Cxt Φ fa fdo pso k N sc X) (h1 : atN N i n1 = true) (h2 : atN N j n2 = true) (hne : (n1 == n2) = false) : i ≠ j := by
  rintro rfl
  have a := at_of c h1
  have b := at_of c h2
  rw [a] at b; cases b
  simp at hne
theorem par_of (h : parB sc n1 n2 px py x y = true) : kd sc n1 .local = true ∧ kd sc n2 .local = true ∧ (py.line == px.line) = true ∧ (n1 == n2) = false ∧ nst [x, y] = true ∧ (foldedForSure 8 x && foldedForSure 8 y) = false ∧ (constantsAlone 8 x && constantsAlone 8 y) = false := by
  unfold parB dupFree at h
  simp only [Bool.and_eq_true, Bool.not_eq_true'] at h
  obtain ⟨⟨⟨⟨⟨h1, h2⟩, h3⟩, h4⟩, h5⟩, h6, h7⟩ := h
  exact ⟨h1, h2, h3, h4, h5, h6, h7⟩
theorem ps_par' (c : Cxt Φ fa fdo pso k N sc X) (sx : Stx X) (h1 : atN N i n1 = true) (h2 : atN N j n2 = true) (h3 : parB sc n1 n2 px py x y = true) {ta : TA} (ha : PA X [x, y] ta) {kt k2 : Nat} {pt : Pos} :
    PS X (.Assign [.Tuple [.Name n1 px, .Name n2 py] kt tp] (.Tuple [x, y] k2 pt) pos) (tPar i j ta) := by
  obtain ⟨q1, q2, q3, q4, q5, q6, q7⟩ := par_of h3
  exact ps_par c.calm (by rw [c.names]; exact c.nd) (at_of c h1) (at_of c h2) (ne_at c h1 h2 q4) (by rw [c.sco]; exact kd_of q1) (by rw [c.sco]; exact kd_of q2) ha (swapped_two (bk_of sx) (kd_env c q1) (kd_env c q2) q3 q4 q5 q6 q7) rfl
theorem s_par (c : Cxt Φ fa fdo pso k N sc X) (sx : Stx X) {kt k2 : Nat} {pt : Pos} (h1 : atN N i n1 = true) (h2 : atN N j n2 = true) (h3 : parB sc n1 n2 px py x y = true) (ha : ∀ σ G, GoodE Φ X σ G x a) (hb : ∀ σ G, GoodE Φ X σ G y b) :
    GoodS Φ X (.Assign [.Tuple [.Name n1 px, .Name n2 py] kt tp] (.Tuple [x, y] k2 pt) pos) (.par i j a b) := by
  intro σ G H π M lr w
  obtain ⟨_, _, _, _, q5, _⟩ := par_of h3
  obtain ⟨q6, q7⟩ := nst_cons (env := X.env) q5
  refine OtS.mono (T := fun D => tPar i j (tCons (tw X x) (tCons (tw X y) tNil)) D σ H) ?_ fun D q => twS_of (ps_par' c sx h1 h2 h3 (pa_cons (pw X x) (pa_cons (pw X y) pa_nil (nst_cons q7).1) q6)) q
  refine OtS.mono (T := fun D : Ends => tw X x σ H fun u H1 => tw X y σ H1 fun t H2 => D.nx ((σ.set i (some u)).set j (some t)) H2) ?_ fun D q => fun pins s I => thn (q pins s I) fun u s1 ⟨v1, H1, I1, r1, t1⟩ => ⟨v1, H1, I1, r1, fun pins s I => thn (t1 pins s I) fun u s2 ⟨v2, H2, I2, r2, t2⟩ => ⟨v2, H2, I2, r2, v1, v2, rfl, t2⟩⟩
  refine Ot.to (M0 := M) lr (ha σ G H π M lr w).val fun u M1 uv H1 π1 e1 g1 w1 r1 => ?_
  refine Ot.to (M0 := M1) (lr.gr g1) (hb σ G H1 π1 M1 (lr.gr g1) w1).val fun t M2 tv H2 π2 e2 g2 w2 r2 => ?_
  exact fun D q => q _ H2 π2 (Gr.refl _ _) w2 ((((lr.gr g1).gr g2).set (rv_gr g2 r1) i).set r2 j)
theorem s_parN (c : Cxt Φ fa fdo pso k N sc X) (sx : Stx X) {kt k2 : Nat} {pt : Pos} (h1 : atN N i n1 = true) (h2 : atN N j n2 = true) (h3 : parB sc n1 n2 px py x (.List [] lp) = true) (ha : ∀ σ G, GoodE Φ X σ G x a) :
    GoodS Φ X (.Assign [.Tuple [.Name n1 px, .Name n2 py] kt tp] (.Tuple [x, .List [] lp] k2 pt) pos) (.parN i j a) := by
  intro σ G H π M lr w
  obtain ⟨_, _, _, _, q5, _⟩ := par_of h3
  obtain ⟨q6, q7⟩ := nst_cons (env := X.env) q5
  refine OtS.mono (T := fun D => tPar i j (tCons (tw X x) (tCons (tLst tNil) tNil)) D σ H) ?_ fun D q => twS_of (ps_par' c sx h1 h2 h3 (pa_cons (pw X x) (pa_cons (pe_lst pa_nil) pa_nil (nst_cons q7).1) q6)) q
  refine OtS.mono (T := fun D : Ends => tw X x σ H fun u H1 => ∀ r, H1 r = none → D.nx ((σ.set i (some u)).set j (some (.ref r))) (upd H1 r (.lst []))) ?_ fun D q => fun pins s I => thn (q pins s I) fun u s1 ⟨v1, H1, I1, r1, t1⟩ => ⟨v1, H1, I1, r1, Nat.zero_le _, fun r hr => ⟨v1, .ref r, rfl, t1 r hr⟩⟩
  refine Ot.to (M0 := M) lr (ha σ G H π M lr w).val fun u M1 uv H1 π1 e1 g1 w1 r1 => ?_
  intro D q r hr
  obtain ⟨g2, w2, rv⟩ := new_list (σ := σ) (G := G) w1 (ds := []) .nil hr
  exact q _ _ _ g2 w2 ((((lr.gr g1).gr g2).set (rv_gr g2 r1) i).set rv j)
theorem s_par3 (c : Cxt Φ fa fdo pso k N sc X) (sx : Stx X) {kt k2 : Nat} {pt : Pos} (h1 : atN N i n1 = true) (h2 : atN N j n2 = true) (h2' : atN N l n3 = true) (h3 : parB3 sc n1 n2 n3 px py pz x y z = true) (ha : ∀ σ G, GoodE Φ X σ G x a) (hb : ∀ σ G, GoodE Φ X σ G y b) (hc : ∀ σ G, GoodE Φ X σ G z c0) :
    GoodS Φ X (.Assign [.Tuple [.Name n1 px, .Name n2 py, .Name n3 pz] kt tp] (.Tuple [x, y, z] k2 pt) pos) (.par3 i j l a b c0) := by
  intro σ G H π M lr w
  unfold parB3 at h3
  simp only [Bool.and_eq_true, Bool.not_eq_true'] at h3
  obtain ⟨⟨⟨⟨⟨⟨⟨⟨⟨⟨f1, f2⟩, f3⟩, f4⟩, f5⟩, f6⟩, f7⟩, f8⟩, f9⟩, f10⟩, f11⟩ := h3
  obtain ⟨q6, q7⟩ := nst_cons (env := X.env) f9
  obtain ⟨q8, q9⟩ := nst_cons (env := X.env) q7
  refine OtS.mono (T := fun D => tPar3 i j l (tCons (tw X x) (tCons (tw X y) (tCons (tw X z) tNil))) D σ H) ?_ fun D q => twS_of (ps_par3 c.calm (by rw [c.names]; exact c.nd) (at_of c h1) (at_of c h2) (at_of c h2') (ne_at c h1 h2 f6) (ne_at c h1 h2' f7) (ne_at c h2 h2' f8) (by rw [c.sco]; exact kd_of f1) (by rw [c.sco]; exact kd_of f2) (by rw [c.sco]; exact kd_of f3)
    (pa_cons (pw X x) (pa_cons (pw X y) (pa_cons (pw X z) pa_nil (nst_cons q9).1) q8) q6) (swapped_three (bk_of sx) (kd_env c f1) (kd_env c f2) (kd_env c f3) f4 f5 f6 f7 f8 f9 f10 f11) rfl) q
  refine OtS.mono (T := fun D : Ends => tw X x σ H fun u H1 => tw X y σ H1 fun t H2 => tw X z σ H2 fun s H3 => D.nx (((σ.set i (some u)).set j (some t)).set l (some s)) H3) ?_ fun D q => fun pins s I => thn (q pins s I) fun u s1 ⟨v1, H1, I1, r1, t1⟩ => ⟨v1, H1, I1, r1, fun pins s I => thn (t1 pins s I) fun u s2 ⟨v2, H2, I2, r2, t2⟩ => ⟨v2, H2, I2, r2, fun pins s I => thn (t2 pins s I) fun u s3 ⟨v3, H3, I3, r3, t3⟩ => ⟨v3, H3, I3, r3, v1, v2, v3, rfl, t3⟩⟩⟩
  refine Ot.to (M0 := M) lr (ha σ G H π M lr w).val fun u M1 uv H1 π1 e1 g1 w1 r1 => ?_
  refine Ot.to (M0 := M1) (lr.gr g1) (hb σ G H1 π1 M1 (lr.gr g1) w1).val fun t M2 tv H2 π2 e2 g2 w2 r2 => ?_
  refine Ot.to (M0 := M2) ((lr.gr g1).gr g2) (hc σ G H2 π2 M2 ((lr.gr g1).gr g2) w2).val fun s M3 sv H3 π3 e3 g3 w3 r3 => ?_
  exact fun D q => q _ H3 π3 (Gr.refl _ _) w3 ((((((lr.gr g1).gr g2).gr g3).set (rv_gr (g2.trans g3) r1) i).set (rv_gr g3 r2) j).set r3 l)
theorem s_ex (c : Cxt Φ fa fdo pso k N sc X) (h3 : notLc v = true) (he : ∀ σ G, GoodE Φ X σ G v e) : GoodS Φ X (.Expr v pos) (.ex e) := by
  intro σ G H π M lr w
  refine OtS.mono (T := fun D => tDrop (tw X v) D σ H) ?_ fun D q => twS_of (ps_expr (pw X v) (swap_no h3)) q
  refine Ot.to (M0 := M) lr (he σ G H π M lr w).val fun u M1 uv H1 π1 e1 g1 w1 r1 => ?_
  exact fun D q => q _ H1 π1 (Gr.refl _ _) w1 (lr.gr g1)
theorem s_ret (he : ∀ σ G, GoodE Φ X σ G v e) : GoodS Φ X (.Return (some v) pos) (.ret e) := by
  intro σ G H π M lr w
  refine OtS.mono (T := fun D => tRet (tw X v) D σ H) ?_ fun D q => twS_of (ps_ret (pw X v)) q
  refine Ot.to (M0 := M) lr (he σ G H π M lr w).val fun u M1 uv H1 π1 e1 g1 w1 r1 => ?_
  exact fun D q => q _ H1 π1 (Gr.refl _ _) w1 r1
theorem s_retN (he : ∀ σ G, GoodEs Φ X σ G xs es) : GoodS Φ X (.Return (some (.List xs lp)) pos) (.retN es) := by
  intro σ G H π M lr w
  refine OtS.mono (T := fun D => tRet (tLst (twA X xs)) D σ H) ?_ fun D q => twS_of (ps_ret (pe_lst (pwA X xs))) q
  refine OtS.mono (T := fun D : Ends => twA X xs σ H fun us H1 => us.length ≤ sizeLine ∧ ∀ p, H1 p = none → D.rt (.ref p) (upd H1 p (.lst us))) ?_ fun D q => q
  refine Ot.to (M0 := M) lr (he σ G H π M lr w) fun u M1 us H1 π1 e1 g1 w1 r1 => ?_
  split
  · rename_i ds hd
    split
    · rename_i hl
      have hv := dps_of r1 hd
      intro D q
      refine ⟨by rw [hv.len, ← lim_eq]; exact hl, fun r hr => ?_⟩
      obtain ⟨g2, w2, rv⟩ := new_list (σ := σ) (G := G) w1 hv hr
      exact q _ _ _ g2 w2 rv
    · trivial
  · trivial
theorem s_ite {c1 : E} {s1 s2 : Ss} {t : Expr} {b1 b2 : List Stmt} (hc : ∀ σ G, GoodE Φ X σ G t c1) (ha : GoodSs Φ X b1 s1) (hb : GoodSs Φ X b2 s2) : GoodS Φ X (.If t b1 b2 pos) (.ite c1 s1 s2) := by
  intro σ G H π M lr w
  refine OtS.mono (T := fun D => tIfS (twT X t) (twB X b1) (twB X b2) D σ H) ?_ fun D q => twS_of (ps_if (pwT X t) (pwB X b1) (pwB X b2)) q
  have e : exS Φ (.ite c1 s1 s2) G M = (tstR (evE Φ c1 G M)).to G fun b M1 => if b = true then exSs Φ s1 G M1 else exSs Φ s2 G M1 := by
    show (evE Φ c1 G M).to G _ = _
    cases evE Φ c1 G M with
    | no => rfl
    | ex c M => rfl
    | ok v M =>
      cases v with
      | o n => rfl
      | d y =>
        cases y with
        | bool b => cases b <;> rfl
        | _ => rfl
  rw [e]
  refine Ot.to (M0 := M) lr (hc σ G H π M lr w).tst fun u M1 uv H1 π1 e1 g1 w1 r1 => ?_
  cases r1
  cases u with
  | true => exact ha σ G H1 π1 M1 (lr.gr g1) w1
  | false => exact hb σ G H1 π1 M1 (lr.gr g1) w1
theorem s_rai (c : Cxt Φ fa fdo pso k N sc X) {xc : Xc} {m : Str} {jj : Nat} (hg : glB sc xc.nm = true) : GoodS Φ X (.Raise (some (.Call (.Name xc.nm px) [.Constant (.str m) jj py] [] cpos)) none pos) (.rai xc) := by
  intro σ G H π M lr w W tk hw D
  obtain ⟨h1, h2, ⟨B, newId, initId, bmB, h3, h4⟩, h5, h6⟩ := c.facts.exc xc
  obtain ⟨g1, g2⟩ := gl_of c hg
  exact twS_of (ps_raise c.calm tk (pmk_own h3 h4 h1 h2 (raises_own h5 h6) g1 (okN_of g2).1)) (hw σ H π (Gr.refl _ _) w lr)
end
end K75

set_option Elab.async false
set_option linter.all false
set_option autoImplicit false
set_option maxRecDepth 100000
set_option maxHeartbeats 2000000
/-! Part 24: lists appended to; loops; try. -/
namespace K75
open PySem PySem.Spec PyProof.Rows L2
section
variable {Φ : Env} {fa : Fn → Addr} {fdo : Fn → FuncData} {pso : Fn → List Str} {k : Nat} {N : List Str} {sc : Scope} {X : Cx}
variable {a b c0 e : E} {es : Es} {x y z v q0 t iter : Expr} {xs ts : List Expr} {pos p px py pz lp tp apos cpos : Pos} {i j l : Nat} {n m n1 n2 n3 : Str}
theorem s_app (c : Cxt Φ fa fdo pso k N sc X) (hs : noSup x = true) (hp : (apos.endLine == cpos.line) = true) (hn : nst [y] = true) (ho : ∀ σ G, GoodE Φ X σ G x a) (he : ∀ σ G, GoodE Φ X σ G y e) :
    GoodS Φ X (.Expr (.Call (.Attribute x "append" apos) [y] [] cpos) pos) (.app a e) := by
  intro σ G H π M lr w
  obtain ⟨q1, q2⟩ := nst_cons (env := X.env) hn
  refine OtS.mono (T := fun D : Ends => tw X x σ H fun xv H1 => tyV X.K "list" xv H1 ∧ tw X y σ H1 fun yv H2 => rAppend xv [yv] H2 fun _ H3 => D.nx σ H3) ?_ fun D q =>
    twS_of (ps_expr (pe_bm PySem.F.plainAttrs_list PySem.F.slot_list_append PySem.F.type_list_append mt_append (pw X x) (pa_cons (pw X y) pa_nil q1) (noSup_base hs) (few_one hn) hp q1 (nst_plain q2)) rfl) q
  refine Ot.to (M0 := M) lr (ho σ G H π M lr w).val fun u M1 xv H1 π1 e1 g1 w1 r1 => ?_
  split
  · rename_i n
    split
    · rename_i zs hz
      obtain ⟨ad, vs, rfl, h1, h2, h3⟩ := w1.lst r1 hz
      refine OtS.mono (T := fun D : Ends => tw X y σ H1 fun yv H2 => rAppend (.ref ad) [yv] H2 fun _ H3 => D.nx σ H3) ?_ fun D q => ⟨.inl ⟨rfl, vs, .of h2⟩, q⟩
      refine Ot.to (M0 := M1) (lr.gr g1) (he σ G H1 π1 M1 (lr.gr g1) w1).val fun t M2 yv H2 π2 e2 g2 w2 r2 => ?_
      split
      · rename_i yd zs2 hz2
        split
        · rename_i hl
          obtain ⟨ad2, vs2, e5, h5, h6, h7⟩ := w2.lst (rv_gr g2 r1) hz2
          cases e5
          refine fun D q => ⟨ad, vs2, yv, rfl, rfl, h6, by rw [h7.len, ← lim_eq]; exact hl, ?_⟩
          obtain ⟨g3, w3⟩ := w2.write (o := .lst (vs2 ++ [yv])) (m := .lst (zs2 ++ [yd])) h5 ⟨_, upd_same, h7.app (.cons r2 .nil)⟩
          exact q σ _ π2 g3 w3 (((lr.gr g1).gr g2).gr g3)
        · trivial
      · trivial
    · trivial
  · trivial
def rRemD (K : PySem.W.Frag) : V → List V → Hp → VK → Prop := fun x xs H Q => ∃ (a : Addr) (vs : List V) (y : V) (d : PyData) (ds : List PyData) (j : Nat), x = V.ref a ∧ xs = [y] ∧ H a = some (.lst vs) ∧ DpAll K H vs ds ∧ Dp K H y d ∧
    SeqAt.shaped (.list ds) = true ∧ SeqAt.shaped d = true ∧ ds.findIdx? (fun z => PyData.eqv z d) = some j ∧ Q .non (upd H a (.lst (vs.eraseIdx j)))
theorem mt_removeD (hu : X.A.units + 65 < cLine) : MtM X "list.remove" (rRemD X.K) := by
  intro pins s σ H x xs v us Q I rx rxs h
  obtain ⟨a, vs, y, d, ds, j, rfl, rfl, hH, hl, hy, sl, sd, hj, q⟩ := h
  cases rx
  obtain ⟨uy, rfl, ry⟩ := rxs.one
  obtain ⟨bs, r1⟩ := Dp.reads I d y uy hy ry
  have hxs : PyData.canLayAll0 ds = true := SeqAt.canLay_of_shaped sl
  have hroom : X.A.units + 1 + min (PyData.depthAll ds) d.depth < cLine := room_in_shaped sd hu
  obtain ⟨z0, its, n, rv, hln, e⟩ := I.lstM hH
  obtain ⟨as, h4⟩ := Dp.readsAll I ds _ its hl rv
  have hn : its.length = ds.length := SeqAt.ReadsAll.length ds its as h4
  have hmap : its.map (SeqAt.readOf s.heap) = ds := SeqAt.readsAll_map ds its as hxs h4
  rw [List.findIdx?_eq_some_iff_getElem] at hj
  obtain ⟨hjd, hjt, hjn⟩ := hj
  have hjl : j < its.length := by omega
  have at_ : ∀ (m : Nat) (hm : m < its.toArray.size) (hm2 : m < ds.length), SeqAt.readOf s.heap its.toArray[m] = ds[m] := by
    intro m hm hm2
    have hml : m < its.length := by simpa using hm
    have e1 : (its.map (SeqAt.readOf s.heap))[m]'(by simpa using hml) = ds[m] := by simp only [hmap]
    simpa using e1
  refine call_meets PySem.F.slot_list_remove ⟨_, e, rfl⟩ PySem.F.entry_list_remove (PySem.F.args_list_remove_2 _ _)
    (SeqAt.list_removeAt a its.toArray n none #[] uy (fun u => PyData.eqv (SeqAt.readOf s.heap u) d) j (by simpa using hjl) ?_ ?_ (by rw [List.size_toArray]; omega)) ⟨e, SeqAt.items_eqAt (vs := its.toArray) (show ReadsAll s.heap its.toArray.toList ds as by simpa using h4) r1 hxs (SeqAt.canLay_of_shaped sd) hroom, ?_⟩
  · rw [at_ j (by simpa using hjl) hjd]; exact hjt
  · intro m hm hmj
    rw [at_ m hm (by omega)]
    simpa using hjn m hmj
  · refine ⟨.non, _, I.lset (its' := its.eraseIdx j) hH e (by simp) (rv.eraseIdx j) ?_, rfl, q⟩
    have := len_erase vs j
    omega
theorem s_rem (c : Cxt Φ fa fdo pso k N sc X) (hs : noSup x = true) (hp : (apos.endLine == cpos.line) = true) (hn : nst [y] = true) (ho : ∀ σ G, GoodE Φ X σ G x a) (he : ∀ σ G, GoodE Φ X σ G y e) :
    GoodS Φ X (.Expr (.Call (.Attribute x "remove" apos) [y] [] cpos) pos) (.rem a e) := by
  intro σ G H π M lr w
  obtain ⟨q1, q2⟩ := nst_cons (env := X.env) hn
  refine OtS.mono (T := fun D : Ends => tw X x σ H fun xv H1 => tyV X.K "list" xv H1 ∧ tw X y σ H1 fun yv H2 => rRemD X.K xv [yv] H2 fun _ H3 => D.nx σ H3) ?_ fun D q =>
    twS_of (ps_expr (pe_bm PySem.F.plainAttrs_list PySem.F.slot_list_remove PySem.F.type_list_remove (mt_removeD c.un65) (pw X x) (pa_cons (pw X y) pa_nil q1) (noSup_base hs) (few_one hn) hp q1 (nst_plain q2)) rfl) q
  refine Ot.to (M0 := M) lr (ho σ G H π M lr w).val fun u M1 xv H1 π1 e1 g1 w1 r1 => ?_
  split
  · rename_i n
    split
    · rename_i zs hz
      obtain ⟨ad, vs, rfl, h1, h2, h3⟩ := w1.lst r1 hz
      refine OtS.mono (T := fun D : Ends => tw X y σ H1 fun yv H2 => rRemD X.K (.ref ad) [yv] H2 fun _ H3 => D.nx σ H3) ?_ fun D q => ⟨.inl ⟨rfl, vs, .of h2⟩, q⟩
      refine Ot.to (M0 := M1) (lr.gr g1) (he σ G H1 π1 M1 (lr.gr g1) w1).val fun t M2 yv H2 π2 e2 g2 w2 r2 => ?_
      split
      · rename_i yd zs2 hz2
        split
        · rename_i hsh
          rw [Bool.and_eq_true] at hsh
          split
          · rename_i jj hj
            obtain ⟨ad2, vs2, e5, h5, h6, h7⟩ := w2.lst (rv_gr g2 r1) hz2
            cases e5
            refine fun D q => ⟨ad, vs2, yv, yd, zs2, jj, rfl, rfl, h6, dpsSame hid_same h7, dpSame hid_same r2, hsh.2, hsh.1, hj, ?_⟩
            obtain ⟨g3, w3⟩ := w2.write (o := .lst (vs2.eraseIdx jj)) (m := .lst (zs2.eraseIdx jj)) h5 ⟨_, upd_same, h7.erase' jj⟩
            exact q σ _ π2 g3 w3 (((lr.gr g1).gr g2).gr g3)
          · trivial
        · trivial
      · trivial
    · trivial
  · trivial
/-! ### loops -/
theorem s_whl (c : Cxt Φ fa fdo pso k N sc X) (sx : Stx X) {body : List Stmt} {bs : Ss} (hc : ∀ σ G, GoodE Φ X σ G t c0) (hb : GoodSs Φ X body bs) : GoodS Φ X (.While t body [] pos) (.whl c0 bs) := by
  intro σ G H π M lr w
  refine OtS.of fun D W tk ok => twS_of (ps_while sx.pass (pwT X t) (pwB X body)) ?_
  have ok : OkF X H π (loopW (fun G M => evE Φ c0 G M) (fun G M => exSs Φ bs G M) turns G M) D W := ok
  generalize hr : loopW (fun G M => evE Φ c0 G M) (fun G M => exSs Φ bs G M) turns G M = r at ok
  refine ⟨fun m σ1 H1 => ∃ G1 π1 M1, Gr H π H1 π1 ∧ Wd X.K H1 π1 M1 ∧ LocR X.K (hid H1 π1) π1 σ1 G1 ∧ loopW (fun G M => evE Φ c0 G M) (fun G M => exSs Φ bs G M) m G1 M1 = r, ⟨turns, G, π, M, Gr.refl _ _, w, lr, hr⟩, ?_⟩
  rintro m σ1 H1 ⟨G1, π1, M1, g1, w1, l1, e⟩
  cases m with
  | zero => subst e; exact ok.elim
  | succ m =>
    have hA := (hc σ1 G1 H1 π1 M1 l1 w1).tst
    simp only [loopW] at e
    cases hE : evE Φ c0 G1 M1 with
    | no => rw [hE] at e; subst e; exact ok.elim
    | ex cc M2 =>
      rw [hE] at e hA
      subst e
      exact hA W tk (fun H' π' g' w' => ok σ1 H' π' (g1.trans g') w' (l1.gr g')) _
    | ok u M2 =>
      rw [hE] at e hA
      simp only [R.to] at e
      split at e
      · refine hA _ fun b H2 π2 g2 w2 rl => ?_
        cases rl
        rw [if_pos rfl]
        refine ⟨fun σ' H' => ∃ G1 π1 M1, Gr H π H' π1 ∧ Wd X.K H' π1 M1 ∧ LocR X.K (hid H' π1) π1 σ' G1 ∧ loopW (fun G M => evE Φ c0 G M) (fun G M => exSs Φ bs G M) m G1 M1 = r, fun σ' H' h => ⟨m, Nat.lt_succ_self m, h⟩, ?_⟩
        refine (hb σ1 G1 H2 π2 M2 (l1.gr g2) w2).all tk ?_
        cases hB : exSs Φ bs G1 M2 with
        | no => rw [hB] at e; subst e; exact ok.elim
        | nx G3 M3 =>
          rw [hB] at e
          exact fun σ' H' π' g' w' l' => ⟨G3, π', M3, (g1.trans g2).trans g', w', l', e⟩
        | ret v M3 =>
          rw [hB] at e
          subst e
          exact fun a H' π' g' w' r' => ok a H' π' ((g1.trans g2).trans g') w' r'
        | ex cc G3 M3 =>
          rw [hB] at e
          subst e
          exact fun σ' H' π' g' w' l' => ok σ' H' π' ((g1.trans g2).trans g') w' l'
      · refine hA _ fun b H2 π2 g2 w2 rl => ?_
        cases rl
        rw [if_neg Bool.false_ne_true]
        subst e
        exact ok σ1 H2 π2 (g1.trans g2) w2 (l1.gr g2)
      · subst e; exact ok.elim
theorem for_run {H1 : Hp} {π1 : Pl} {M1 : Sto} {σ : L2.St} {G : Loc} {put : PyData → Loc → Option Loc} {ds : List PyData} {J : It} {Gw : Hp → Prop} {Y : Nat → Hp → V → Hp → Prop} {g : TG} {body : List Stmt} {bs : Ss} {D : Ends} {W : WX} {r : F}
    (w1 : Wd X.K H1 π1 M1) (l1 : LocR X.K (hid H1 π1) π1 σ G) (hr : forL put (fun G M => exSs Φ bs G M) ds G M1 = r) (tk : Takes X W) (ok : OkF X H1 π1 r D W)
    (wk : Walk J ds.length Gw Y) (hG : HG X H1 π1 (fun _ => True) Gw) (hY : HY X H1 π1 (fun _ => True) ds Y)
    (hT : ∀ x d σ1 G1 G2 H π, put d G1 = some G2 → Dp X.K (hid H π) x d → LocR X.K (hid H π) π σ1 G1 → ∀ Q : L2.St → Hp → Prop, (∀ σ2, LocR X.K (hid H π) π σ2 G2 → Q σ2 H) → g x σ1 H Q) (hb : GoodSs Φ X body bs) :
    ∃ W' : Nat → Nat → L2.St → Hp → Prop, (∃ m, W' 0 m σ H1) ∧ ∀ i m σ H, W' i m σ H →
      (J.stop i H ∧ D.nx σ H) ∨ (J.go i H ∧ ∃ N : L2.St → Hp → Prop, (∀ σ' H', N σ' H' → ∃ m', m' < m ∧ W' (i + 1) m' σ' H') ∧ ∀ x H', J.yld i H x H' → g x σ H' fun σ2 H2 => twB X body { D with nx := N, ct := N, bk := D.nx } σ2 H2) := by
  refine for_it wk (fun i σ' H' => ∃ (G' : Loc) (π' : Pl) (M' : Sto), Gr H1 π1 H' π' ∧ Wd X.K H' π' M' ∧ LocR X.K (hid H' π') π' σ' G' ∧ forL put (fun G M => exSs Φ bs G M) (ds.drop i) G' M' = r) ⟨G, π1, M1, Gr.refl _ _, w1, l1, by simpa using hr⟩ ?_ ?_ ?_
  · rintro i σ' H' hi ⟨G', π', M', g', w', l', e⟩
    exact hG H' π' M' g'.ex g'.pre w' trivial
  · rintro i x σ' H' H'' hi ⟨G', π', M', g', w', l', e⟩ y
    have hdrop : ds.drop i = ds[i] :: ds.drop (i + 1) := List.drop_eq_getElem_cons hi
    rw [hdrop] at e
    obtain ⟨g2, w2, dx⟩ := hY i x H' H'' π' M' hi g'.ex g'.pre w' trivial y
    have dx := dx _ (List.getElem?_eq_getElem hi)
    simp only [forL] at e
    cases hput : put ds[i] G' with
    | none => rw [hput] at e; subst e; exact ok.elim
    | some G2 =>
      rw [hput] at e
      simp only at e
      refine hT x ds[i] σ' G' G2 H'' π' hput dx (l'.gr g2) _ fun σ2 l2 => ?_
      refine (hb σ2 G2 H'' π' M' l2 w2).all tk ?_
      cases hB : exSs Φ bs G2 M' with
      | no => rw [hB] at e; subst e; exact ok.elim
      | nx G3 M3 =>
        rw [hB] at e
        exact fun σ3 H3 π3 g3 w3 l3 => ⟨G3, π3, M3, (g'.trans g2).trans g3, w3, l3, e⟩
      | ret v M3 =>
        rw [hB] at e
        subst e
        exact fun a H3 π3 g3 w3 r3 => ok a H3 π3 ((g'.trans g2).trans g3) w3 r3
      | ex cc G3 M3 =>
        rw [hB] at e
        subst e
        exact fun σ3 H3 π3 g3 w3 l3 => ok σ3 H3 π3 ((g'.trans g2).trans g3) w3 l3
  · rintro σ' H' ⟨G', π', M', g', w', l', e⟩
    rw [List.drop_length] at e
    simp only [forL] at e
    subst e
    exact ok σ' H' π' g' w' l'
/-- a for over what an expression gives -/
theorem s_forD (c : Cxt Φ fa fdo pso k N sc X) (sx : Stx X) {tg : Expr} {g : TG} {put : PyData → Loc → Option Loc} {body : List Stmt} {bs : Ss} {it : E} (hg : PG X tg g) (h4 : isSet iter = false)
    (hT : ∀ x d σ1 G1 G2 H π, put d G1 = some G2 → Dp X.K (hid H π) x d → LocR X.K (hid H π) π σ1 G1 → ∀ Q : L2.St → Hp → Prop, (∀ σ2, LocR X.K (hid H π) π σ2 G2 → Q σ2 H) → g x σ1 H Q)
    (hi : ∀ σ G, GoodE Φ X σ G iter it) (hb : GoodSs Φ X body bs) (σ : L2.St) (G : Loc) (H : Hp) (π : Pl) (M : Sto) (lr : LocR X.K (hid H π) π σ G) (w : Wd X.K H π M) {sel : PyData → Option (List PyData)} (hsel : ∀ d ds, sel d = some ds → seqD d = some ds) :
    OtS X σ H π ((evE Φ it G M).to G fun v M1 => match v with
      | .d d => match sel d with
        | some ds => forL put (fun G M => exSs Φ bs G M) ds G M1
        | none => .no
      | _ => .no) (fun D => twS X (.For tg iter body [] pos) D σ H) := by
  have hI := (hi σ G H π M lr w).val
  cases hE : evE Φ it G M with
  | no => trivial
  | ex cc M1 =>
    rw [hE] at hI
    exact fun W tk hw D => twS_of (ps_for sx.pass c.calm (pi_tup (pw X iter)) hg (pwB X body) (fold_of h4)) (hI W tk (fun H' π' g' w' => hw σ H' π' g' w' (lr.gr g')) _)
  | ok v M1 =>
    rw [hE] at hI
    simp only [R.to]
    split
    · rename_i d
      split
      · rename_i ds hd
        have hw : walked M1 (.d d) = some ds := hsel d ds hd
        obtain ⟨bd, p1, p2⟩ := wi_pick (X := X) (tg := tg) (iter := iter) hw
        refine OtS.of fun D W tk ok => twS_of (ps_for sx.pass c.calm p1 hg (pwB X body) (fold_of h4)) ?_
        refine hI _ fun a H1 π1 g1 w1 r1 => p2 a H1 π1 w1 r1 _ fun J Gw Y wk hG hY => ?_
        exact for_run (X := X) (G := G) w1 (lr.gr g1) rfl tk (ok.gr g1) wk hG hY hT hb
      · trivial
    · trivial
theorem s_forN (c : Cxt Φ fa fdo pso k N sc X) (sx : Stx X) {body : List Stmt} {bs : Ss} {it : E} (h1 : atN N i n = true) (h2 : locB sc n = true) (h4 : isSet iter = false) (hi : ∀ σ G, GoodE Φ X σ G iter it) (hb : GoodSs Φ X body bs) :
    GoodS Φ X (.For (.Name n px) iter body [] pos) (.forN i it bs) := by
  intro σ G H π M lr w
  exact s_forD c sx (g := gName i) (put := fun x G => some (G.set i (some (.d x)))) (pg_name (by rw [c.names]; exact c.nd) (at_of c h1) (loc_of c h2) (.inl (sx.fn n))) h4
    (fun x d σ1 G1 G2 H π e dx l Q q => by cases e; exact q _ (l.set (x := .d d) dx i)) hi hb σ G H π M lr w (sel := seqD) (fun _ _ h => h)
theorem s_forU (c : Cxt Φ fa fdo pso k N sc X) (sx : Stx X) {is : List Nat} {kt : Nat} {body : List Stmt} {bs : Ss} {it : E} (h1 : nameAt N is ts = true) (h2 : tgNames (locB sc) ts = true) (h4 : isSet iter = false) (hi : ∀ σ G, GoodE Φ X σ G iter it) (hb : GoodSs Φ X body bs) :
    GoodS Φ X (.For (.Tuple ts kt tp) iter body [] pos) (.forU is it bs) := by
  intro σ G H π M lr w
  obtain ⟨a1, a2, _⟩ := asg_names (env := X.env) h1
  have z := s_forD c sx (pos := pos) (g := gTup X.K is.length (gNames is)) (put := fun x G => unpD G is x) (pg_tup (pos := tp) (k := kt) c.calm (pgs_names (p := locB sc) (locs_of c sx) (by rw [c.names]; exact c.nd) (by rw [c.names]; exact h1) h2) a1 a2) h4
    (fun x d σ1 G1 G2 H π e dx l Q q => unp_run (vs0 := is) e dx l (fun i hi => hi) fun σ2 l2 _ => q σ2 l2) hi hb σ G H π M lr w (sel := fun d => match d with | .tuple ds => some ds | _ => none) (fun d ds h => by
      split at h
      · cases h; rfl
      · cases h)
  have e : exS Φ (.forU is it bs) G M = ((evE Φ it G M).to G fun v M1 => match v with
      | .d d => match (match d with | .tuple ds => some ds | _ => none : Option (List PyData)) with
        | some ds => forL (fun x G => unpD G is x) (fun G M => exSs Φ bs G M) ds G M1
        | none => .no
      | _ => .no) := by
    show (evE Φ it G M).to G _ = _
    cases evE Φ it G M with
    | no => rfl
    | ex cc M1 => rfl
    | ok v M1 =>
      cases v with
      | o n => rfl
      | d d => cases d <;> rfl
  rw [e]
  exact z
theorem s_forR (c : Cxt Φ fa fdo pso k N sc X) (sx : Stx X) {body : List Stmt} {bs : Ss} {ne : E} {zp : Pos} (h1 : atN N i n = true) (h2 : locB sc n = true) (hz : glB sc ("range" : Str) = true) (hn : nst [y] = true) (hi : ∀ σ G, GoodE Φ X σ G y ne) (hb : GoodSs Φ X body bs) :
    GoodS Φ X (.For (.Name n px) (.Call (.Name "range" zp) [y] [] cpos) body [] pos) (.forR i ne bs) := by
  intro σ G H π M lr w
  obtain ⟨z1, z2⟩ := gl_of c hz
  obtain ⟨q1, q2⟩ := nst_cons (env := X.env) hn
  have hI := (hi σ G H π M lr w).val
  have pI : PI X (.Name n px) (.Call (.Name "range" zp) [y] [] cpos) (iRng1 (tCons (tw X y) tNil)) := pi_range1 z1 (c.facts.free _ (by decide)) (pa_cons (pw X y) pa_nil q1) q1
  have hg : PG X (.Name n px) (gName i) := pg_name (by rw [c.names]; exact c.nd) (at_of c h1) (loc_of c h2) (.inl (sx.fn n))
  show OtS X σ H π ((evE Φ ne G M).to G fun v M1 => match v with
    | .d (.int n) => if -1000 < n ∧ n < 1000 then forL (fun x G => some (G.set i (some (.d x)))) (fun G M => exSs Φ bs G M) ((List.range n.toNat).map fun (j : Nat) => .int (j : Int)) G M1 else .no
    | _ => .no) _
  cases hE : evE Φ ne G M with
  | no => trivial
  | ex cc M1 =>
    rw [hE] at hI
    refine fun W tk hw D => twS_of (ps_for sx.pass c.calm pI hg (pwB X body) (fold_of rfl)) ?_
    exact hI W tk (fun H' π' g' w' => hw σ H' π' g' w' (lr.gr g')) _
  | ok v M1 =>
    rw [hE] at hI
    simp only [R.to]
    split
    · rename_i jn
      split
      · rename_i hj
        refine OtS.of fun D W tk ok => twS_of (ps_for sx.pass c.calm pI hg (pwB X body) (fold_of rfl)) ?_
        refine hI _ fun a H1 π1 g1 w1 r1 => ?_
        have e := dp_int r1
        subst e
        refine ⟨jn, rfl, by omega, by omega, ?_⟩
        have wk := walk_range (lo := 0) (n := ((List.range jn.toNat).map fun (j : Nat) => PyData.int (j : Int)).length)
        rw [show ((List.range jn.toNat).map fun (j : Nat) => PyData.int (j : Int)).length = jn.toNat by simp] at wk
        have wk2 : Walk (Itr 0 jn.toNat) ((List.range jn.toNat).map fun (j : Nat) => PyData.int (j : Int)).length (fun _ => True) (YFn fun i => .int ((0 : Int) + i)) := by
          rw [show ((List.range jn.toNat).map fun (j : Nat) => PyData.int (j : Int)).length = jn.toNat by simp]; exact wk
        refine for_run (X := X) (G := G) w1 (lr.gr g1) rfl tk (ok.gr g1) wk2 (fun _ _ _ _ _ _ _ => trivial) (fun t xv H2 H3 π2 M2 ht sm pre w2 ks yy => ?_) (fun x d σ1 G1 G2 H π e dx l Q q => by cases e; exact q _ (l.set (x := .d d) dx i)) hb
        obtain ⟨rfl, rfl⟩ := yy
        refine ⟨Gr.refl _ _, w2, fun d hd => ?_⟩
        rw [List.getElem?_map] at hd
        obtain ⟨jj, h7, rfl⟩ := Option.map_eq_some_iff.mp hd
        obtain ⟨h8, h9⟩ := List.getElem?_eq_some_iff.mp h7
        rw [List.getElem_range] at h9
        subst h9
        show Dp X.K (hid H3 π2) (V.int (0 + (t : Int))) (PyData.int (t : Int))
        rw [Int.zero_add]
        exact .int _
      · trivial
    · trivial
end
end K75

set_option Elab.async false
set_option linter.all false
set_option autoImplicit false
set_option maxRecDepth 100000
set_option maxHeartbeats 2000000
/-! Part 25: try. -/
namespace K75
open PySem PySem.Spec PyProof.Rows L2
/-- what a clause's suite does: it returns a pair of constants -/
def tHd (z : Str) (n : Int) : TS := tRet (tTup (tCons (tC (.str z)) (tCons (tC (.int n)) tNil)))
def hdL (K : PySem.W.Frag) : List (Xc × PyData) → List (Value × (Addr → Value → Option Addr → TS))
  | [] => []
  | (c, .tuple [.str z, .int n]) :: r => (.ref (xA K c), fun _ _ _ => tHd z n) :: hdL K r
  | (c, _) :: r => (.ref (xA K c), fun _ _ _ => tNever) :: hdL K r
def hdOk : List (Xc × PyData) → Bool
  | [] => true
  | (_, .tuple [.str _, .int _]) :: r => hdOk r
  | _ => false
section
variable {Φ : Env} {fa : Fn → Addr} {fdo : Fn → FuncData} {pso : Fn → List Str} {k : Nat} {N : List Str} {sc : Scope} {X : Cx}
theorem hds_ok (c : Cxt Φ fa fdo pso k N sc X) {hs : List (Xc × PyData)} : ∀ {hds : List ExceptHandler}, hdsB hs sc hds = true → HdsOk X hds (hdL X.K hs) ∧ hdOk hs = true := by
  induction hs with
  | nil =>
    intro hds h
    cases hds with
    | nil => exact ⟨.nil, rfl⟩
    | cons a r => simp [hdsB] at h
  | cons p hs ih =>
    intro hds h
    obtain ⟨xc, d⟩ := p
    unfold hdsB at h
    split at h
    · exact absurd (by assumption : (xc, d) :: hs = []) (by simp)
    · rename_i c0 z n r sc0 x np z' j1 p1 n' j2 p2 j3 p3 p4 p5 hs' e1
      cases e1
      simp only [Bool.and_eq_true, beq_iff_eq] at h
      obtain ⟨⟨⟨⟨rfl, h2⟩, rfl⟩, rfl⟩, h5⟩ := h
      obtain ⟨g1, g2⟩ := gl_of c h2
      obtain ⟨i1, i2⟩ := ih h5
      refine ⟨.cons ⟨g1, (okN_of g2).1, .inl (c.facts.exc _).1⟩ (fun a oe cls d pn _ _ => ?_) i1, i2⟩
      exact pss_one (ps_ret (pe_tup (pa_cons pe_str (pa_cons pe_int pa_nil))))
    · cases h
theorem wmany_of (c : Cxt Φ fa fdo pso k N sc X) {xc : Xc} {Wout : WX} {D : Ends} {σ : L2.St} {H : Hp} : ∀ {hs : List (Xc × PyData)}, hdOk hs = true → (∀ z n, hs.lookup xc = some (.tuple [.str z, .int n]) → tHd z n D σ H) → (hs.lookup xc = none → Wout (.ref (xA X.K xc)) none σ H) → wMany X.K Wout D (hdL X.K hs) (.ref (xA X.K xc)) none σ H
  | [], _, _, h2 => h2 rfl
  | (c0, d) :: hs, h0, h1, h2 => by
    unfold hdOk at h0
    split at h0
    · rename_i e; cases e
    · rename_i c1 z n r e
      cases e
      refine ⟨decide (c0 = xc), c.facts.exm xc c0, fun hb a ha => ?_, fun hb => ?_⟩
      · have e := decide_eq_true_eq.mp hb
        subst e
        exact h1 z n List.lookup_cons_self
      · have e : ¬ c0 = xc := by simpa using hb
        have e2 : (xc == c0) = false := by rw [beq_eq_false_iff_ne]; exact fun z => e z.symm
        refine wmany_of c h0 (fun z' n' hz => h1 z' n' ?_) fun hz => h2 ?_
        · rw [List.lookup_cons, e2]; exact hz
        · rw [List.lookup_cons, e2]; exact hz
    · cases h0
theorem hd_shape {xc : Xc} {d : PyData} : ∀ {hs : List (Xc × PyData)}, hdOk hs = true → hs.lookup xc = some d → ∃ z n, d = .tuple [.str z, .int n]
  | [], _, h => by cases h
  | (c0, d0) :: hs, h0, h => by
    unfold hdOk at h0
    split at h0
    · rename_i e; cases e
    · rename_i c1 z n r e
      cases e
      rw [List.lookup_cons] at h
      split at h
      · cases h; exact ⟨z, n, rfl⟩
      · exact hd_shape h0 h
    · cases h0
theorem Cxt.tr (c : Cxt Φ fa fdo pso k N sc X) {pn : List (Addr × Obj)} {xe : Value → Shared → Prop} : Cxt Φ fa fdo pso k N sc (X.tr pn xe) := ⟨c.names, c.nd, c.sco, c.calm, c.g0, c.room, c.facts, c.fns, c.binds⟩
theorem Stx.tr (sx : Stx X) {pn : List (Addr × Obj)} {xe : Value → Shared → Prop} (pp : PassesOwn (model X.prog X.w) X.A X.env xe) : Stx (X.tr pn xe) := ⟨sx.stk, sx.frm, pp, sx.fn, sx.kind⟩
theorem s_try (c : Cxt Φ fa fdo pso k N sc X) (sx : Stx X) {body : List Stmt} {bs : Ss} {h0 : ExceptHandler} {hds : List ExceptHandler} {p0 : Xc × PyData} {hs : List (Xc × PyData)} {pos : Pos} (hh : hdsB (p0 :: hs) sc (h0 :: hds) = true)
    (hb : ∀ pn xe, PassesOwn (model X.prog X.w) X.A X.env xe → GoodSs Φ (X.tr pn xe) body bs) : GoodS Φ X (.Try body (h0 :: hds) [] [] pos) (.try_ bs (p0 :: hs)) := by
  intro σ G H π M lr w
  obtain ⟨k1, k2⟩ := hds_ok c hh
  refine OtS.of fun D W tk ok => twS_of (ps_try_many (tb := fun W' D σ H => ∀ pn xe, Takes (X.tr pn xe) W' → PassesOwn (model X.prog X.w) X.A X.env xe → twB (X.tr pn xe) body D σ H) sx.stk sx.frm tk (fun W' pn xe tk' pp => ⟨fun pins s σ H D I h => h pn xe tk' pp pins s I⟩) k1) ?_
  intro pn xe tk' pp
  refine (hb pn xe pp σ G H π M lr w).all tk' ?_
  have ok : OkF X H π (match exSs Φ bs G M with
    | .ex c G1 M1 => match (p0 :: hs).lookup c with
      | some d => .ret (.d d) M1
      | none => .ex c G1 M1
    | r => r) D W := ok
  cases hE : exSs Φ bs G M with
  | no => rw [hE] at ok; exact ok
  | nx G1 M1 => rw [hE] at ok; exact ok
  | ret v M1 => rw [hE] at ok; exact ok
  | ex cc G1 M1 =>
    rw [hE] at ok
    intro σ' H' π' g' w' l'
    refine wmany_of c k2 (fun z n hz => ?_) fun hz => ?_
    · simp only [hz] at ok
      refine ⟨by show 2 ≤ sizeLine; decide, fun p hp => ?_⟩
      obtain ⟨g2, w2, e2⟩ := w'.fresh_upd (o := .tup [.str z, .int n]) hp
      exact ok _ _ π' (g'.trans g2) w2 (Dp.tup (.of e2) (.cons (.str z) (.cons (.int n) .nil)))
    · simp only [hz] at ok
      exact ok σ' H' π' g' w' l'
end
end K75

set_option Elab.async false
set_option linter.all false
set_option autoImplicit false
set_option maxRecDepth 100000
set_option maxHeartbeats 4000000
/-! Part 26: every statement is sound (printed by gensound2.py). -/
namespace K75
open PySem PySem.Spec PyProof.Rows L2
section
variable {Φ : Env} {fa : Fn → Addr} {fdo : Fn → FuncData} {pso : Fn → List Str} {k : Nat} {N : List Str}
mutual
theorem soundS : ∀ (s : S) (sc : Scope) (st : Stmt) (X : Cx), chkS N s sc st = true → Cxt Φ fa fdo pso k N sc X → Stx X → GoodS Φ X st s
  | .never, _, _, _, _, _, _ => fun _ _ _ _ _ _ _ => trivial
  | .set i e, sc, st, X, h, c, sx => by
    cases st with
    | Assign t1_assign v pos =>
      cases t1_assign with
      | cons t2_cons t3_cons =>
        cases t2_cons with
        | Name n px =>
          cases t3_cons with
          | nil =>
            simp only [chkS, Bool.and_eq_true, decide_eq_true_eq, beq_iff_eq, Bool.not_eq_true'] at h
            exact s_set c sx h.1.1.1 h.1.1.2 h.1.2 (fun σ G => soundE e _ _ _ σ G h.2 c)
          | _ => exact absurd h (by simp [chkS])
        | _ => exact absurd h (by simp [chkS])
      | _ => exact absurd h (by simp [chkS])
    | _ => exact absurd h (by simp [chkS])
  | .setC i e, sc, st, X, h, c, sx => by
    cases st with
    | Assign t4_assign v pos =>
      cases t4_assign with
      | cons t5_cons t6_cons =>
        cases t5_cons with
        | Name n px =>
          cases t6_cons with
          | nil =>
            simp only [chkS, Bool.and_eq_true, decide_eq_true_eq, beq_iff_eq, Bool.not_eq_true'] at h
            exact s_setC c sx h.1.1.1 h.1.1.2 h.2 h.1.2 (fun σ G => soundE e _ _ _ σ G h.2 c)
          | _ => exact absurd h (by simp [chkS])
        | _ => exact absurd h (by simp [chkS])
      | _ => exact absurd h (by simp [chkS])
    | _ => exact absurd h (by simp [chkS])
  | .setN i, sc, st, X, h, c, sx => by
    cases st with
    | Assign t7_assign t8_assign pos =>
      cases t7_assign with
      | cons t9_cons t10_cons =>
        cases t9_cons with
        | Name n px =>
          cases t10_cons with
          | nil =>
            cases t8_assign with
            | List t11_list lp =>
              cases t11_list with
              | nil =>
                simp only [chkS, Bool.and_eq_true, decide_eq_true_eq, beq_iff_eq, Bool.not_eq_true'] at h
                exact s_setN c sx h.1 h.2
              | _ => exact absurd h (by simp [chkS])
            | _ => exact absurd h (by simp [chkS])
          | _ => exact absurd h (by simp [chkS])
        | _ => exact absurd h (by simp [chkS])
      | _ => exact absurd h (by simp [chkS])
    | _ => exact absurd h (by simp [chkS])
  | .fset o f e, sc, st, X, h, c, sx => by
    cases st with
    | Assign t12_assign v pos =>
      cases t12_assign with
      | cons t13_cons t14_cons =>
        cases t13_cons with
        | Attribute q m px =>
          cases t14_cons with
          | nil =>
            simp only [chkS, Bool.and_eq_true, decide_eq_true_eq, beq_iff_eq, Bool.not_eq_true'] at h
            obtain ⟨⟨⟨rfl, h2⟩, h3⟩, h4⟩ := h
            exact s_fset c h2 (fun σ G => soundE o _ _ _ σ G h3 c) (fun σ G => soundE e _ _ _ σ G h4 c)
          | _ => exact absurd h (by simp [chkS])
        | _ => exact absurd h (by simp [chkS])
      | _ => exact absurd h (by simp [chkS])
    | _ => exact absurd h (by simp [chkS])
  | .fsetN o f, sc, st, X, h, c, sx => by
    cases st with
    | Assign t15_assign t16_assign pos =>
      cases t15_assign with
      | cons t17_cons t18_cons =>
        cases t17_cons with
        | Attribute q m px =>
          cases t18_cons with
          | nil =>
            cases t16_assign with
            | List t19_list lp =>
              cases t19_list with
              | nil =>
                simp only [chkS, Bool.and_eq_true, decide_eq_true_eq, beq_iff_eq, Bool.not_eq_true'] at h
                obtain ⟨rfl, h3⟩ := h
                exact s_fsetN c (fun σ G => soundE o _ _ _ σ G h3 c)
              | _ => exact absurd h (by simp [chkS])
            | _ => exact absurd h (by simp [chkS])
          | _ => exact absurd h (by simp [chkS])
        | _ => exact absurd h (by simp [chkS])
      | _ => exact absurd h (by simp [chkS])
    | _ => exact absurd h (by simp [chkS])
  | .iset o i e, sc, st, X, h, c, sx => by
    cases st with
    | Assign t20_assign v pos =>
      cases t20_assign with
      | cons t21_cons t22_cons =>
        cases t21_cons with
        | Subscript q s px =>
          cases t22_cons with
          | nil =>
            simp only [chkS, Bool.and_eq_true, decide_eq_true_eq, beq_iff_eq, Bool.not_eq_true'] at h
            obtain ⟨⟨⟨⟨h1, h2⟩, h3⟩, h4⟩, h5⟩ := h
            exact s_iset c h1 h2 (fun σ G => soundE o _ _ _ σ G h3 c) (fun σ G => soundE i _ _ _ σ G h4 c) (fun σ G => soundE e _ _ _ σ G h5 c)
          | _ => exact absurd h (by simp [chkS])
        | _ => exact absurd h (by simp [chkS])
      | _ => exact absurd h (by simp [chkS])
    | _ => exact absurd h (by simp [chkS])
  | .unp is e, sc, st, X, h, c, sx => by
    cases st with
    | Assign t23_assign v pos =>
      cases t23_assign with
      | cons t24_cons t25_cons =>
        cases t24_cons with
        | Tuple ts kt tp =>
          cases t25_cons with
          | nil =>
            simp only [chkS, Bool.and_eq_true, decide_eq_true_eq, beq_iff_eq, Bool.not_eq_true', Bool.or_eq_true] at h
            obtain ⟨⟨⟨⟨⟨h1, h2⟩, h3⟩, h4⟩, h5⟩, h6⟩ := h
            exact s_unp c sx h1 h3 h4 h5 (fun σ G => soundE e _ _ _ σ G h6 c)
          | _ => exact absurd h (by simp [chkS])
        | _ => exact absurd h (by simp [chkS])
      | _ => exact absurd h (by simp [chkS])
    | _ => exact absurd h (by simp [chkS])
  | .par i j a b, sc, st, X, h, c, sx => by
    cases st with
    | Assign t26_assign t27_assign pos =>
      cases t26_assign with
      | cons t28_cons t29_cons =>
        cases t28_cons with
        | Tuple t30_tuple kt tp =>
          cases t30_tuple with
          | cons t31_cons t32_cons =>
            cases t31_cons with
            | Name x px =>
              cases t32_cons with
              | cons t33_cons t34_cons =>
                cases t33_cons with
                | Name y py =>
                  cases t34_cons with
                  | nil =>
                    cases t29_cons with
                    | nil =>
                      cases t27_assign with
                      | Tuple t35_tuple k2 pt =>
                        cases t35_tuple with
                        | cons p t36_cons =>
                          cases t36_cons with
                          | cons q t37_cons =>
                            cases t37_cons with
                            | nil =>
                              simp only [chkS, Bool.and_eq_true, decide_eq_true_eq, beq_iff_eq, Bool.not_eq_true'] at h
                              obtain ⟨⟨⟨⟨h1, h2⟩, h3⟩, h4⟩, h5⟩ := h
                              exact s_par c sx h1 h2 h3 (fun σ G => soundE a _ _ _ σ G h4 c) (fun σ G => soundE b _ _ _ σ G h5 c)
                            | _ => exact absurd h (by simp [chkS])
                          | _ => exact absurd h (by simp [chkS])
                        | _ => exact absurd h (by simp [chkS])
                      | _ => exact absurd h (by simp [chkS])
                    | _ => exact absurd h (by simp [chkS])
                  | _ => exact absurd h (by simp [chkS])
                | _ => exact absurd h (by simp [chkS])
              | _ => exact absurd h (by simp [chkS])
            | _ => exact absurd h (by simp [chkS])
          | _ => exact absurd h (by simp [chkS])
        | _ => exact absurd h (by simp [chkS])
      | _ => exact absurd h (by simp [chkS])
    | _ => exact absurd h (by simp [chkS])
  | .parN i j a, sc, st, X, h, c, sx => by
    cases st with
    | Assign t38_assign t39_assign pos =>
      cases t38_assign with
      | cons t40_cons t41_cons =>
        cases t40_cons with
        | Tuple t42_tuple kt tp =>
          cases t42_tuple with
          | cons t43_cons t44_cons =>
            cases t43_cons with
            | Name x px =>
              cases t44_cons with
              | cons t45_cons t46_cons =>
                cases t45_cons with
                | Name y py =>
                  cases t46_cons with
                  | nil =>
                    cases t41_cons with
                    | nil =>
                      cases t39_assign with
                      | Tuple t47_tuple k2 pt =>
                        cases t47_tuple with
                        | cons p t48_cons =>
                          cases t48_cons with
                          | cons t49_cons t50_cons =>
                            cases t49_cons with
                            | List t51_list lp =>
                              cases t51_list with
                              | nil =>
                                cases t50_cons with
                                | nil =>
                                  simp only [chkS, Bool.and_eq_true, decide_eq_true_eq, beq_iff_eq, Bool.not_eq_true'] at h
                                  obtain ⟨⟨⟨h1, h2⟩, h3⟩, h4⟩ := h
                                  exact s_parN c sx h1 h2 h3 (fun σ G => soundE a _ _ _ σ G h4 c)
                                | _ => exact absurd h (by simp [chkS])
                              | _ => exact absurd h (by simp [chkS])
                            | _ => exact absurd h (by simp [chkS])
                          | _ => exact absurd h (by simp [chkS])
                        | _ => exact absurd h (by simp [chkS])
                      | _ => exact absurd h (by simp [chkS])
                    | _ => exact absurd h (by simp [chkS])
                  | _ => exact absurd h (by simp [chkS])
                | _ => exact absurd h (by simp [chkS])
              | _ => exact absurd h (by simp [chkS])
            | _ => exact absurd h (by simp [chkS])
          | _ => exact absurd h (by simp [chkS])
        | _ => exact absurd h (by simp [chkS])
      | _ => exact absurd h (by simp [chkS])
    | _ => exact absurd h (by simp [chkS])
  | .par3 i j l a b d, sc, st, X, h, c, sx => by
    cases st with
    | Assign t52_assign t53_assign pos =>
      cases t52_assign with
      | cons t54_cons t55_cons =>
        cases t54_cons with
        | Tuple t56_tuple kt tp =>
          cases t56_tuple with
          | cons t57_cons t58_cons =>
            cases t57_cons with
            | Name x px =>
              cases t58_cons with
              | cons t59_cons t60_cons =>
                cases t59_cons with
                | Name y py =>
                  cases t60_cons with
                  | cons t61_cons t62_cons =>
                    cases t61_cons with
                    | Name z pz =>
                      cases t62_cons with
                      | nil =>
                        cases t55_cons with
                        | nil =>
                          cases t53_assign with
                          | Tuple t63_tuple k2 pt =>
                            cases t63_tuple with
                            | cons p t64_cons =>
                              cases t64_cons with
                              | cons q t65_cons =>
                                cases t65_cons with
                                | cons r t66_cons =>
                                  cases t66_cons with
                                  | nil =>
                                    simp only [chkS, Bool.and_eq_true, decide_eq_true_eq, beq_iff_eq, Bool.not_eq_true'] at h
                                    obtain ⟨⟨⟨⟨⟨⟨h1, h2⟩, h3⟩, h4⟩, h5⟩, h6⟩, h7⟩ := h
                                    exact s_par3 c sx h1 h2 h3 h4 (fun σ G => soundE a _ _ _ σ G h5 c) (fun σ G => soundE b _ _ _ σ G h6 c) (fun σ G => soundE d _ _ _ σ G h7 c)
                                  | _ => exact absurd h (by simp [chkS])
                                | _ => exact absurd h (by simp [chkS])
                              | _ => exact absurd h (by simp [chkS])
                            | _ => exact absurd h (by simp [chkS])
                          | _ => exact absurd h (by simp [chkS])
                        | _ => exact absurd h (by simp [chkS])
                      | _ => exact absurd h (by simp [chkS])
                    | _ => exact absurd h (by simp [chkS])
                  | _ => exact absurd h (by simp [chkS])
                | _ => exact absurd h (by simp [chkS])
              | _ => exact absurd h (by simp [chkS])
            | _ => exact absurd h (by simp [chkS])
          | _ => exact absurd h (by simp [chkS])
        | _ => exact absurd h (by simp [chkS])
      | _ => exact absurd h (by simp [chkS])
    | _ => exact absurd h (by simp [chkS])
  | .ex e, sc, st, X, h, c, sx => by
    cases st with
    | Expr v pos =>
      simp only [chkS, Bool.and_eq_true, decide_eq_true_eq, beq_iff_eq, Bool.not_eq_true'] at h
      exact s_ex c h.1 (fun σ G => soundE e _ _ _ σ G h.2 c)
    | _ => exact absurd h (by simp [chkS])
  | .app o e, sc, st, X, h, c, sx => by
    cases st with
    | Expr t67_expr pos =>
      cases t67_expr with
      | Call t68_call t69_call t70_call cpos =>
        cases t68_call with
        | Attribute q m apos =>
          cases t69_call with
          | cons y t71_cons =>
            cases t71_cons with
            | nil =>
              cases t70_call with
              | nil =>
                simp only [chkS, Bool.and_eq_true, decide_eq_true_eq, beq_iff_eq, Bool.not_eq_true'] at h
                obtain ⟨⟨⟨⟨⟨rfl, h2⟩, h3⟩, h4⟩, h5⟩, h6⟩ := h
                exact s_app c h2 (beq_iff_eq.mpr h3) h4 (fun σ G => soundE o _ _ _ σ G h5 c) (fun σ G => soundE e _ _ _ σ G h6 c)
              | _ => exact absurd h (by simp [chkS])
            | _ => exact absurd h (by simp [chkS])
          | _ => exact absurd h (by simp [chkS])
        | _ => exact absurd h (by simp [chkS])
      | _ => exact absurd h (by simp [chkS])
    | _ => exact absurd h (by simp [chkS])
  | .rem o e, sc, st, X, h, c, sx => by
    cases st with
    | Expr t72_expr pos =>
      cases t72_expr with
      | Call t73_call t74_call t75_call cpos =>
        cases t73_call with
        | Attribute q m apos =>
          cases t74_call with
          | cons y t76_cons =>
            cases t76_cons with
            | nil =>
              cases t75_call with
              | nil =>
                simp only [chkS, Bool.and_eq_true, decide_eq_true_eq, beq_iff_eq, Bool.not_eq_true'] at h
                obtain ⟨⟨⟨⟨⟨rfl, h2⟩, h3⟩, h4⟩, h5⟩, h6⟩ := h
                exact s_rem c h2 (beq_iff_eq.mpr h3) h4 (fun σ G => soundE o _ _ _ σ G h5 c) (fun σ G => soundE e _ _ _ σ G h6 c)
              | _ => exact absurd h (by simp [chkS])
            | _ => exact absurd h (by simp [chkS])
          | _ => exact absurd h (by simp [chkS])
        | _ => exact absurd h (by simp [chkS])
      | _ => exact absurd h (by simp [chkS])
    | _ => exact absurd h (by simp [chkS])
  | .ite e a b, sc, st, X, h, c, sx => by
    cases st with
    | If t x y pos =>
      simp only [chkS, Bool.and_eq_true, decide_eq_true_eq, beq_iff_eq, Bool.not_eq_true'] at h
      obtain ⟨⟨h1, h2⟩, h3⟩ := h
      exact s_ite (fun σ G => soundE e _ _ _ σ G h1 c) (soundSs a _ _ _ h2 c sx) (soundSs b _ _ _ h3 c sx)
    | _ => exact absurd h (by simp [chkS])
  | .whl e b, sc, st, X, h, c, sx => by
    cases st with
    | While t x t77_while pos =>
      cases t77_while with
      | nil =>
        simp only [chkS, Bool.and_eq_true, decide_eq_true_eq, beq_iff_eq, Bool.not_eq_true'] at h
        exact s_whl c sx (fun σ G => soundE e _ _ _ σ G h.1 c) (soundSs b _ _ _ h.2 c sx)
      | _ => exact absurd h (by simp [chkS])
    | _ => exact absurd h (by simp [chkS])
  | .forN i it b, sc, st, X, h, c, sx => by
    cases st with
    | For t78_for iter body t79_for pos =>
      cases t78_for with
      | Name x px =>
        cases t79_for with
        | nil =>
          simp only [chkS, Bool.and_eq_true, decide_eq_true_eq, beq_iff_eq, Bool.not_eq_true'] at h
          obtain ⟨⟨⟨⟨h1, h2⟩, h3⟩, h4⟩, h5⟩ := h
          exact s_forN c sx h1 h2 h3 (fun σ G => soundE it _ _ _ σ G h4 c) (soundSs b _ _ _ h5 c sx)
        | _ => exact absurd h (by simp [chkS])
      | _ => exact absurd h (by simp [chkS])
    | _ => exact absurd h (by simp [chkS])
  | .forR i e b, sc, st, X, h, c, sx => by
    cases st with
    | For t80_for t81_for body t82_for pos =>
      cases t80_for with
      | Name x px =>
        cases t81_for with
        | Call t83_call t84_call t85_call cpos =>
          cases t83_call with
          | Name z zp =>
            cases t84_call with
            | cons y t86_cons =>
              cases t86_cons with
              | nil =>
                cases t85_call with
                | nil =>
                  cases t82_for with
                  | nil =>
                    simp only [chkS, Bool.and_eq_true, decide_eq_true_eq, beq_iff_eq, Bool.not_eq_true'] at h
                    obtain ⟨⟨⟨⟨⟨⟨h1, h2⟩, rfl⟩, h4⟩, h5⟩, h6⟩, h7⟩ := h
                    exact s_forR c sx h1 h2 h4 h5 (fun σ G => soundE e _ _ _ σ G h6 c) (soundSs b _ _ _ h7 c sx)
                  | _ => exact absurd h (by simp [chkS])
                | _ => exact absurd h (by simp [chkS])
              | _ => exact absurd h (by simp [chkS])
            | _ => exact absurd h (by simp [chkS])
          | _ => exact absurd h (by simp [chkS])
        | _ => exact absurd h (by simp [chkS])
      | _ => exact absurd h (by simp [chkS])
    | _ => exact absurd h (by simp [chkS])
  | .forU is it b, sc, st, X, h, c, sx => by
    cases st with
    | For t87_for iter body t88_for pos =>
      cases t87_for with
      | Tuple ts kt tp =>
        cases t88_for with
        | nil =>
          simp only [chkS, Bool.and_eq_true, decide_eq_true_eq, beq_iff_eq, Bool.not_eq_true'] at h
          obtain ⟨⟨⟨⟨⟨h1, h2⟩, h3⟩, h4⟩, h5⟩, h6⟩ := h
          exact s_forU c sx h1 h3 h4 (fun σ G => soundE it _ _ _ σ G h5 c) (soundSs b _ _ _ h6 c sx)
        | _ => exact absurd h (by simp [chkS])
      | _ => exact absurd h (by simp [chkS])
    | _ => exact absurd h (by simp [chkS])
  | .ret e, sc, st, X, h, c, sx => by
    cases st with
    | Return t89_return pos =>
      cases t89_return with
      | some v =>
        simp only [chkS, Bool.and_eq_true, decide_eq_true_eq, beq_iff_eq, Bool.not_eq_true'] at h
        exact s_ret (fun σ G => soundE e _ _ _ σ G h c)
      | _ => exact absurd h (by simp [chkS])
    | _ => exact absurd h (by simp [chkS])
  | .retN es, sc, st, X, h, c, sx => by
    cases st with
    | Return t90_return pos =>
      cases t90_return with
      | some t91_some =>
        cases t91_some with
        | List xs lp =>
          simp only [chkS, Bool.and_eq_true, decide_eq_true_eq, beq_iff_eq, Bool.not_eq_true'] at h
          exact s_retN fun σ G => soundEs es _ _ _ σ G h.2 h.1 c
        | _ => exact absurd h (by simp [chkS])
      | _ => exact absurd h (by simp [chkS])
    | _ => exact absurd h (by simp [chkS])
  | .rai x, sc, st, X, h, c, sx => by
    cases st with
    | Raise t92_raise t93_raise pos =>
      cases t92_raise with
      | some t94_some =>
        cases t94_some with
        | Call t95_call t96_call t97_call cpos =>
          cases t95_call with
          | Name n px =>
            cases t96_call with
            | cons t98_cons t99_cons =>
              cases t98_cons with
              | Constant t100_constant jj py =>
                cases t100_constant with
                | str m =>
                  cases t99_cons with
                  | nil =>
                    cases t97_call with
                    | nil =>
                      cases t93_raise with
                      | none =>
                        simp only [chkS, Bool.and_eq_true, decide_eq_true_eq, beq_iff_eq, Bool.not_eq_true'] at h
                        obtain ⟨rfl, h2⟩ := h
                        exact s_rai c h2
                      | _ => exact absurd h (by simp [chkS])
                    | _ => exact absurd h (by simp [chkS])
                  | _ => exact absurd h (by simp [chkS])
                | _ => exact absurd h (by simp [chkS])
              | _ => exact absurd h (by simp [chkS])
            | _ => exact absurd h (by simp [chkS])
          | _ => exact absurd h (by simp [chkS])
        | _ => exact absurd h (by simp [chkS])
      | _ => exact absurd h (by simp [chkS])
    | _ => exact absurd h (by simp [chkS])
  | .try_ b [], sc, st, X, h, c, sx => by
    exact absurd h (by cases st <;> simp [chkS])
  | .try_ b (p0 :: hs), sc, st, X, h, c, sx => by
    cases st with
    | Try body t101_try t102_try t103_try pos =>
      cases t101_try with
      | cons h0 hds =>
        cases t102_try with
        | nil =>
          cases t103_try with
          | nil =>
            obtain ⟨xc, d⟩ := p0
            simp only [chkS, Bool.and_eq_true, decide_eq_true_eq, beq_iff_eq, Bool.not_eq_true'] at h
            exact s_try c sx h.2 fun pn xe pp => soundSs b _ _ _ h.1 c.tr (sx.tr pp)
          | _ => exact absurd h (by simp [chkS])
        | _ => exact absurd h (by simp [chkS])
      | _ => exact absurd h (by simp [chkS])
    | _ => exact absurd h (by simp [chkS])
theorem soundSs : ∀ (ss : Ss) (sc : Scope) (sts : List Stmt) (X : Cx), chkSs N ss sc sts = true → Cxt Φ fa fdo pso k N sc X → Stx X → GoodSs Φ X sts ss
  | .nil, sc, sts, X, h, c, sx => by
    cases sts with
    | nil => exact ss_nil
    | cons x r => exact absurd h (by simp [chkSs])
  | .cons s r, sc, sts, X, h, c, sx => by
    cases sts with
    | nil => exact absurd h (by simp [chkSs])
    | cons x xs =>
      simp only [chkSs, Bool.and_eq_true] at h
      exact ss_cons (soundS s _ _ _ h.1 c sx) (soundSs r _ _ _ h.2 c sx)
end
end
end K75

set_option Elab.async false
set_option linter.all false
set_option autoImplicit false
set_option maxRecDepth 100000
set_option maxHeartbeats 2000000
/-! Part 27: a def keeps its promise. -/
namespace K75
open PySem PySem.Spec PyProof.Rows L2
section
variable {K : PySem.W.Frag}
/-! ### what a def made is let go -/
theorem rv_trim {Hd Hd0 Hd' : Hp} {π π' : Pl} (sm : Same Hd' Hd) (p : ∃ r, π'.ad = π.ad ++ r) {v v0 : V} : ∀ {x : Val}, RV K Hd0 π v0 x → RV K Hd' π' v x → RV K Hd π v x
  | .d _, _, h => dpSame sm h
  | .o n, ⟨a0, h0, _⟩, ⟨a, h, e⟩ => ⟨a, by
    obtain ⟨r, z⟩ := p
    rw [z, List.getElem?_append_left (List.getElem?_eq_some_iff.mp h0).1] at h
    exact h, e⟩
theorem fr_trim {Hd Hd0 Hd' : Hp} {π π' : Pl} (sm : Same Hd' Hd) (p : ∃ r, π'.ad = π.ad ++ r) : ∀ {vs vs0 : List (Str × V)} {xs : List (Fd × Val)}, FR K Hd0 π vs0 xs → FR K Hd' π' vs xs → FR K Hd π vs xs
  | _, _, _, .nil, .nil => .nil
  | _, _, _, .cons a0 r0, .cons a r => .cons (rv_trim sm p a0 a) (fr_trim sm p r0 r)
theorem all_sub {H H' : Hp} {π π' : Pl} (g : Gr H π H' π') {b : Addr} (h : b ∈ π.all) : b ∈ π'.all := by
  obtain ⟨r, e⟩ := g.pre
  unfold Pl.all at h ⊢
  rw [e, g.exs]
  rcases List.mem_append.mp h with h | h
  · exact List.mem_append_left _ (List.mem_append_left _ h)
  · exact List.mem_append_right _ h
theorem trim_back {H H' : Hp} {π π' : Pl} {M M' : Sto} (w : Wd K H π M) (g : Gr H π H' π') (w' : Wd K H' π' M') (e : M'.take M.length = M) : Gr H π H' π ∧ Wd K H' π M ∧ Same (hid H' π') (hid H' π) := by
  have sm : Same (hid H' π') (hid H' π) := fun b o h => by
    obtain ⟨h1, h2⟩ := hid_some h
    rw [hid_out fun z => h1 (all_sub g z)]
    exact h2
  refine ⟨⟨⟨[], by simp⟩, rfl, g.ex.trans sm, g.st⟩, ⟨w.nd, w.len, fun n a o h1 h2 => ?_, fun b hb => ?_⟩, sm⟩
  · have h3 : M'[n]? = some o := by
      have hn := (List.getElem?_eq_some_iff.mp h2).1
      rw [← e, List.getElem?_take_of_lt hn] at h2
      exact h2
    have q := w'.ob n a o (g.at h1) h3
    have q0 := w.ob n a o h1 h2
    cases o with
    | lst xs => obtain ⟨vs, e1, e2⟩ := q; exact ⟨vs, e1, dpsSame sm e2⟩
    | ins c fs =>
      obtain ⟨dx, vs, e1, e2⟩ := q
      obtain ⟨dx0, vs0, e3, e4⟩ := q0
      exact ⟨dx, vs, e1, fr_trim sm g.pre e4 e2⟩
  · rw [g.st b hb]; exact w.lv b hb
end
/-! ### a def by its text -/
section
variable {P : Program} {w : World} {K : PySem.W.Frag} {mg : Str → Option Value} {base : Heap} {Φ : Env} {fa : Fn → Addr} {fdo : Fn → FuncData} {pso : Fn → List Str} {k : Nat}
/-- the body's outcome against the promise -/
theorem ok_body {X : Cx} {b : Body} {vs : List Val} {G1 : Loc} {M : Sto} {H : Hp} {π : Pl} {Q : VK} {E : XK} {N : List Str} {σ : L2.St} (hX : X.K = K) (w1 : Wd K H π M) (hl : vs.length = b.np) (s : sayR K H π (runB Φ b vs M) Q E) :
    OkF X H π (exSs Φ b.code (vs.map some ++ List.replicate b.nl none) M) { nx := fun _ H' => Q .non H', rt := Q } (fun cls d _ H' => E cls d H') := by
  subst hX
  unfold runB at s
  rw [if_pos hl] at s
  cases hE : exSs Φ b.code (vs.map some ++ List.replicate b.nl none) M with
  | no => rw [hE] at s; exact s
  | nx G2 M2 =>
    rw [hE] at s
    simp only at s
    intro σ' H' π' g' w' l'
    split at s
    · split at s
      · rename_i ht
        obtain ⟨g2, w2, sm⟩ := trim_back w1 g' w' ht
        exact s V.non H' π g2 w2 .non
      · exact s.elim
    · exact s V.non H' π' g' w' .non
  | ret v M2 =>
    rw [hE] at s
    simp only at s
    intro a H' π' g' w' r'
    split at s
    · split at s
      · split at s
        · rename_i ht
          obtain ⟨g2, w2, sm⟩ := trim_back w1 g' w' ht
          exact s a H' π g2 w2 (dpSame sm r')
        · exact s.elim
      · exact s.elim
    · exact s a H' π' g' w' r'
  | ex c G2 M2 =>
    rw [hE] at s
    simp only at s
    intro σ' H' π' g' w' l'
    split at s
    · exact s.elim
    · exact s H' π' g' w'
theorem say_len {H : Hp} {π : Pl} {Q : VK} {E : XK} {b : Body} {vs : List Val} {M : Sto} (s : sayR K H π (runB Φ b vs M) Q E) : vs.length = b.np := by
  unfold runB at s
  split at s
  · assumption
  · exact s.elim
theorem fnG_of {f : Addr} {name qual : Str} {params : Arguments} {body : List Stmt} {scope : Scope} {dV kV doc pm cdv ct oc : Value} {an od : Option Addr} {osl : Array (Option Value)} {N ps : List Str} {b : Body}
    (lk : K.lookup f = some ⟨oc, od, .func (PySem.W.fnOf name qual params body scope dV kV doc pm an cdv ct), osl⟩) (hcd : PySem.W.codeIn K cdv qual = true) (S : FnScope N ps scope) (hp : ps.length = b.np) (hn : N.length = b.np + b.nl) (chk : chkSs N b.code scope body = true)
    (fc : Facts K mg fa) (fns : ∀ g : Fn, FnG P w K mg base k (fa g) (fdo g) (pso g) (spOf K (Φ g))) (bnd : ∀ g : Fn, Binds K (fdo g) (pso g) []) :
    FnG P w K mg base (k + 2) f (PySem.W.fnOf name qual params body scope dV kV doc pm an cdv ct) ps (spOf K fun vs M => runB Φ b vs M) := by
  refine ⟨fun vs H Q E h => ?_, fun A outer s H args us vs Q E g0 hr e0 hb r h => ?_⟩
  · obtain ⟨π, M, xs, w1, rv, s⟩ := h
    rw [rvs_len rv, say_len s, hp]
  · obtain ⟨π, M, xs, w1, rv, say⟩ := h
    have len : xs.length = b.np := say_len say
    have lenV : vs.length = ps.length := by rw [rvs_len rv, len, hp]
    have inK : K.In s.heap := e0.mod.kin.keeps fun a o e => (e0.bs a o e).1
    have noL : s.heap.NoLimit := e0.mod.nolimit.keeps fun a o e => (e0.bs a o e).1
    have kinds : ∀ y ∈ ps.zip us, scope.names.lookup y.1 = some .local ∨ (scope.names.lookup y.1 = some .cell ∧ ((cellsFrom (s.heap.objs.size + 1) scope.names []).lookup y.1).isSome = true) := by
      rintro ⟨n, v⟩ hy
      rcases S.par n (List.of_mem_zip hy).1 with z | z
      · exact .inl z
      · exact .inr ⟨z, PySem.W.cellsFrom_some _ _ _ (.inl z)⟩
    refine codeAny_call_function hr.depth (inK _ _ lk) rfl S.co S.gen rfl (PySem.W.codeRec_of inK hcd) ?_
    refine hb _ _ _ _ ?_
    refine wpAny_newFunctionEnv_cells S.kind kinds fun env he s1 into => ?_
    subst he
    refine ⟨noL.keeps into.toInCall.keep, ?_⟩
    refine codeAny_func ?_
    let X : Cx := cxOf (L2.CX P w) P w K mg base N qual scope f cdv A outer s H E
    have I : Inv X [] (start N vs) H s1 := inv_start S hr.hd e0 lenV r into
    have c : Cxt Φ fa fdo pso k N scope X := ⟨rfl, S.nd, rfl, rfl, g0, hr.deeper _, fc, fns, bnd⟩
    have sx : Stx X := ⟨rfl, rfl, passes_of rfl, fun _ => rfl, S.kind⟩
    have tk : Takes X (fun cls d _ H' => E cls d H') := takes_of rfl rfl rfl rfl
    have lr : LocR X.K (hid H π) π (start N vs) (xs.map some ++ List.replicate b.nl none) := LocR.start rv N b.nl (by rw [hn, len])
    have run := (soundSs b.code scope body X chk c sx (start N vs) _ H π M lr w1).all tk (ok_body (N := N) (σ := start N vs) (G1 := []) rfl w1 len say)
    refine wpAny_mono (run [] s1 I) (fun fl s' hs => ?_) fun e s' hs => hs
    have fin : ∀ {σ' : L2.St} {H' : Hp} {v : V} {u : Value}, Inv X [] σ' H' s' → RelV v u → Q v H' → CE outer P w H s Q u s' := fun J rv' q => ⟨_, _, J.os, J.bare, J.base, J.hok, rv', q⟩
    match fl, hs with
    | .ret u, ⟨v, σ', H', J, rv', q⟩ => exact fin J rv' q
    | .next, ⟨σ', H', J, q⟩ => exact fin (v := V.non) (u := Value.none) J rfl q
    | .brk, ⟨_, _, _, z⟩ => exact z.elim
    | .cont, ⟨_, _, _, z⟩ => exact z.elim
end
end K75

set_option Elab.async false
set_option linter.all false
set_option autoImplicit false
set_option maxRecDepth 100000
set_option maxHeartbeats 4000000
/-! Part 28: the defs of the text, all of them. -/
namespace K75
open PySem PySem.Spec PyProof.Rows L2
def Fn.ns : Fn → List Str
  | .is_whole => [⟨#[118, 97, 108, 117, 101]⟩, ⟨#[108, 111, 119]⟩, ⟨#[104, 105, 103, 104]⟩]
  | .is_truth => [⟨#[118, 97, 108, 117, 101]⟩]
  | .is_tuple_of => [⟨#[118, 97, 108, 117, 101]⟩, ⟨#[108, 111, 119]⟩, ⟨#[104, 105, 103, 104]⟩]
  | .fits_word => [⟨#[118, 97, 108, 117, 101]⟩, ⟨#[115, 105, 103, 110]⟩]
  | .fits_words => [⟨#[118, 97, 108, 117, 101]⟩, ⟨#[108, 111, 119]⟩, ⟨#[104, 105, 103, 104]⟩, ⟨#[119, 111, 114, 100]⟩]
  | .is_ascending => [⟨#[118, 97, 108, 117, 101, 115]⟩, ⟨#[111, 110, 101]⟩, ⟨#[111, 116, 104, 101, 114]⟩]
  | .fits_lot => [⟨#[118, 97, 108, 117, 101]⟩, ⟨#[108, 111, 119]⟩, ⟨#[104, 105, 103, 104]⟩, ⟨#[119, 111, 114, 100, 115]⟩, ⟨#[111, 110, 101]⟩]
  | .fits_name => [⟨#[118, 97, 108, 117, 101]⟩]
  | .need_name => [⟨#[118, 97, 108, 117, 101]⟩]
  | .seal_by => [⟨#[107, 101, 121]⟩, ⟨#[114, 111, 119]⟩, ⟨#[102, 111, 117, 110, 100]⟩, ⟨#[111, 99, 116, 101, 116]⟩]
  | .number_row => [⟨#[110, 117, 109, 98, 101, 114]⟩, ⟨#[102, 111, 117, 110, 100]⟩]
  | .value_row => [⟨#[118, 97, 108, 117, 101]⟩, ⟨#[102, 111, 117, 110, 100]⟩, ⟨#[105, 116, 101, 109]⟩, ⟨#[115, 105, 103, 110]⟩]
  | .need_key => [⟨#[118, 97, 108, 117, 101]⟩]
  | .fits_entry => [⟨#[118, 97, 108, 117, 101]⟩]
  | .fits_scope => [⟨#[118, 97, 108, 117, 101]⟩]
  | .fits_within => [⟨#[118, 97, 108, 117, 101]⟩, ⟨#[105, 115, 115, 117, 101, 114]⟩, ⟨#[98, 97, 115, 101]⟩, ⟨#[115, 99, 111, 112, 101]⟩, ⟨#[111, 116, 104, 101, 114]⟩, ⟨#[115, 101, 114, 105, 97, 108]⟩, ⟨#[119, 104, 101, 110]⟩, ⟨#[114, 101, 97, 115, 111, 110]⟩]
  | .fits_list => [⟨#[118, 97, 108, 117, 101]⟩, ⟨#[101, 110, 116, 114, 121]⟩]
  | .need_list => [⟨#[118, 97, 108, 117, 101]⟩]
  | .can_reach => [⟨#[110, 117, 109, 98, 101, 114]⟩, ⟨#[108, 111, 119]⟩, ⟨#[104, 105, 103, 104]⟩, ⟨#[108, 101, 97, 115, 116]⟩, ⟨#[109, 111, 115, 116]⟩]
  | .list_text => [⟨#[116, 101, 120, 116, 115]⟩]
  | .number_text => [⟨#[110, 117, 109, 98, 101, 114]⟩]
  | .truth_text => [⟨#[118, 97, 108, 117, 101]⟩]
  | .name_text => [⟨#[119, 111, 114, 100, 115]⟩]
  | .list_of_text => [⟨#[118, 97, 108, 117, 101]⟩, ⟨#[105, 115, 115, 117, 101, 114]⟩, ⟨#[115, 101, 97, 108, 101, 114]⟩, ⟨#[110, 117, 109, 98, 101, 114]⟩, ⟨#[98, 97, 115, 101]⟩, ⟨#[115, 105, 110, 99, 101]⟩, ⟨#[117, 110, 116, 105, 108]⟩, ⟨#[115, 99, 111, 112, 101]⟩, ⟨#[101, 110, 116, 114, 105, 101, 115]⟩, ⟨#[115, 101, 97, 108]⟩, ⟨#[114, 111, 119, 115]⟩, ⟨#[98, 101, 103, 105, 110]⟩, ⟨#[111, 119, 110]⟩]
  | .thing_text => [⟨#[115, 111, 114, 116]⟩, ⟨#[118, 97, 108, 117, 101]⟩]
  | .truth_in => [⟨#[114, 101, 97, 100, 105, 110, 103]⟩]
  | .numbers_in => [⟨#[114, 101, 97, 100, 105, 110, 103]⟩, ⟨#[98, 111, 117, 110, 100, 115]⟩, ⟨#[102, 111, 117, 110, 100]⟩, ⟨#[104, 105, 103, 104]⟩]
  | .list_in => [⟨#[114, 101, 97, 100, 105, 110, 103]⟩, ⟨#[105, 115, 115, 117, 101, 114]⟩, ⟨#[110, 117, 109, 98, 101, 114, 115]⟩, ⟨#[98, 97, 115, 101]⟩, ⟨#[116, 105, 109, 101, 115]⟩, ⟨#[107, 105, 110, 100, 115]⟩, ⟨#[111, 116, 104, 101, 114, 115]⟩, ⟨#[114, 101, 97, 115, 111, 110, 115]⟩, ⟨#[101, 110, 116, 114, 105, 101, 115]⟩]
  | .with_thing => [⟨#[108, 111, 116]⟩, ⟨#[116, 104, 105, 110, 103]⟩]
  | .without_thing => [⟨#[108, 111, 116]⟩, ⟨#[116, 104, 105, 110, 103]⟩, ⟨#[111, 119, 110]⟩]
  | .stepped => [⟨#[115, 116, 111, 114, 101]⟩, ⟨#[100, 101, 101, 100]⟩, ⟨#[97, 116]⟩, ⟨#[116, 104, 105, 110, 103]⟩, ⟨#[108, 111, 116]⟩]
  | .can_step => [⟨#[115, 116, 111, 114, 101]⟩, ⟨#[100, 101, 101, 100]⟩, ⟨#[97, 116]⟩, ⟨#[116, 104, 105, 110, 103]⟩]
  | .own_seal => [⟨#[118, 97, 108, 117, 101]⟩, ⟨#[115, 101, 97, 108, 101, 114]⟩]
  | .need_text => [⟨#[118, 97, 108, 117, 101]⟩]
  | .read_in => [⟨#[115, 111, 114, 116]⟩, ⟨#[114, 101, 97, 100, 105, 110, 103]⟩]
  | .read_by => [⟨#[115, 111, 114, 116]⟩, ⟨#[116, 101, 120, 116]⟩, ⟨#[114, 101, 97, 100, 105, 110, 103]⟩, ⟨#[102, 111, 117, 110, 100]⟩]
  | .read_list => [⟨#[116, 101, 120, 116]⟩, ⟨#[102, 111, 117, 110, 100]⟩]
  | .need_times => [⟨#[115, 101, 114, 105, 97, 108]⟩, ⟨#[115, 105, 110, 99, 101]⟩, ⟨#[117, 110, 116, 105, 108]⟩]
  | .read_thing => [⟨#[116, 101, 120, 116]⟩, ⟨#[115, 111, 114, 116]⟩]
  | .newest_plain => [⟨#[115, 116, 111, 114, 101]⟩, ⟨#[105, 115, 115, 117, 101, 114]⟩, ⟨#[115, 101, 97, 108, 101, 114]⟩, ⟨#[102, 111, 117, 110, 100]⟩, ⟨#[111, 119, 110]⟩]
  | .r_init => [⟨#[115, 101, 108, 102]⟩, ⟨#[116, 101, 120, 116]⟩]
  | .r_sign => [⟨#[115, 101, 108, 102]⟩]
  | .r_goes_on => [⟨#[115, 101, 108, 102]⟩, ⟨#[105, 115, 95, 103, 111, 111, 100]⟩]
  | .r_marks => [⟨#[115, 101, 108, 102]⟩, ⟨#[115, 105, 103, 110, 115]⟩, ⟨#[111, 119, 110]⟩]
  | .r_ends => [⟨#[115, 101, 108, 102]⟩]
  | .r_one_of => [⟨#[115, 101, 108, 102]⟩, ⟨#[119, 111, 114, 100, 115]⟩, ⟨#[102, 111, 117, 110, 100]⟩, ⟨#[119, 111, 114, 100]⟩]
  | .r_word => [⟨#[115, 101, 108, 102]⟩, ⟨#[102, 111, 117, 110, 100]⟩]
  | .r_number => [⟨#[115, 101, 108, 102]⟩, ⟨#[108, 111, 119]⟩, ⟨#[104, 105, 103, 104]⟩, ⟨#[102, 111, 117, 110, 100]⟩, ⟨#[98, 101, 103, 105, 110]⟩, ⟨#[109, 111, 114, 101]⟩]
  | .r_number_or_none => [⟨#[115, 101, 108, 102]⟩, ⟨#[104, 105, 103, 104]⟩]
  | .r_words => [⟨#[115, 101, 108, 102]⟩, ⟨#[102, 111, 117, 110, 100]⟩]
  | .r_entry => [⟨#[115, 101, 108, 102]⟩, ⟨#[105, 115, 115, 117, 101, 114]⟩, ⟨#[115, 101, 114, 105, 97, 108]⟩, ⟨#[119, 104, 101, 110]⟩]
  | .r_item => [⟨#[115, 101, 108, 102]⟩, ⟨#[115, 111, 114, 116]⟩]
  | .r_several => [⟨#[115, 101, 108, 102]⟩, ⟨#[108, 111, 119]⟩, ⟨#[104, 105, 103, 104]⟩, ⟨#[115, 111, 114, 116]⟩, ⟨#[102, 111, 117, 110, 100]⟩]
  | .d_init => [⟨#[115, 101, 108, 102]⟩]
  | .d_store => [⟨#[115, 101, 108, 102]⟩]
  | .d_deeds => [⟨#[115, 101, 108, 102]⟩, ⟨#[100, 101, 101, 100]⟩, ⟨#[97, 116]⟩, ⟨#[116, 104, 105, 110, 103]⟩]
  | .d_does => [⟨#[115, 101, 108, 102]⟩, ⟨#[100, 101, 101, 100]⟩, ⟨#[97, 116]⟩, ⟨#[116, 104, 105, 110, 103]⟩]
  | .d_put => [⟨#[115, 101, 108, 102]⟩, ⟨#[116, 101, 120, 116]⟩, ⟨#[97, 116]⟩, ⟨#[116, 104, 105, 110, 103]⟩]
  | .d_puts_list => [⟨#[115, 101, 108, 102]⟩, ⟨#[105, 115, 115, 117, 101, 114]⟩, ⟨#[115, 101, 97, 108, 101, 114]⟩, ⟨#[101, 110, 116, 114, 105, 101, 115]⟩, ⟨#[115, 105, 110, 99, 101]⟩, ⟨#[117, 110, 116, 105, 108]⟩, ⟨#[111, 108, 100]⟩, ⟨#[110, 117, 109, 98, 101, 114]⟩, ⟨#[111, 119, 110]⟩]
  | .d_withdraw => [⟨#[115, 101, 108, 102]⟩, ⟨#[105, 115, 115, 117, 101, 114]⟩, ⟨#[115, 101, 97, 108, 101, 114]⟩, ⟨#[115, 101, 114, 105, 97, 108]⟩, ⟨#[119, 104, 101, 110]⟩, ⟨#[114, 101, 97, 115, 111, 110]⟩, ⟨#[115, 105, 110, 99, 101]⟩, ⟨#[117, 110, 116, 105, 108]⟩, ⟨#[111, 108, 100]⟩, ⟨#[101, 110, 116, 114, 105, 101, 115]⟩, ⟨#[101, 110, 116, 114, 121]⟩]
  | .d_give_back => [⟨#[115, 101, 108, 102]⟩, ⟨#[105, 115, 115, 117, 101, 114]⟩, ⟨#[115, 101, 97, 108, 101, 114]⟩, ⟨#[115, 101, 114, 105, 97, 108]⟩, ⟨#[115, 105, 110, 99, 101]⟩, ⟨#[117, 110, 116, 105, 108]⟩, ⟨#[111, 108, 100]⟩, ⟨#[101, 110, 116, 114, 105, 101, 115]⟩, ⟨#[114, 101, 115, 116]⟩, ⟨#[101, 110, 116, 114, 121]⟩]
  | .d_undo => [⟨#[115, 101, 108, 102]⟩, ⟨#[100, 101, 101, 100]⟩, ⟨#[97, 116]⟩, ⟨#[116, 104, 105, 110, 103]⟩]
  | .l_cup => [⟨#[95, 108, 97, 119, 95, 115, 99, 114, 105, 112, 116]⟩, ⟨#[95, 108, 97, 119, 95, 99, 101, 108, 108]⟩]
  | .l_roll => [⟨#[95, 108, 97, 119, 95, 99, 117, 112, 95, 104, 101, 114, 101]⟩, ⟨#[95, 108, 97, 119, 95, 109, 97, 110, 121]⟩, ⟨#[95, 108, 97, 119, 95, 102, 111, 117, 110, 100]⟩, ⟨#[95, 108, 97, 119, 95, 100, 101, 101, 112]⟩]
  | .l_some => [⟨#[95, 108, 97, 119, 95, 99, 117, 112, 95, 104, 101, 114, 101]⟩, ⟨#[95, 108, 97, 119, 95, 116, 104, 105, 110, 103, 115]⟩]
  | .l_groups => [⟨#[95, 108, 97, 119, 95, 110, 117, 109, 98, 101, 114]⟩, ⟨#[95, 108, 97, 119, 95, 102, 111, 117, 110, 100]⟩]
  | .l_row => [⟨#[95, 108, 97, 119, 95, 118, 97, 108, 117, 101]⟩, ⟨#[95, 108, 97, 119, 95, 102, 111, 117, 110, 100]⟩, ⟨#[95, 108, 97, 119, 95, 105, 116, 101, 109]⟩, ⟨#[95, 108, 97, 119, 95, 115, 105, 103, 110]⟩]
  | .l_seal => [⟨#[95, 108, 97, 119, 95, 107, 101, 121]⟩, ⟨#[95, 108, 97, 119, 95, 114, 111, 119, 95, 104, 101, 114, 101]⟩, ⟨#[95, 108, 97, 119, 95, 102, 111, 117, 110, 100]⟩, ⟨#[95, 108, 97, 119, 95, 111, 99, 116, 101, 116]⟩]
  | .l_sealed_list => [⟨#[95, 108, 97, 119, 95, 111, 119, 110]⟩]
  | .l_words => [⟨#[95, 108, 97, 119, 95, 119, 111, 114, 100, 115, 95, 104, 101, 114, 101]⟩]
  | .l_several => [⟨#[95, 108, 97, 119, 95, 116, 101, 120, 116, 115]⟩]
  | .l_integer => [⟨#[95, 108, 97, 119, 95, 110, 117, 109, 98, 101, 114]⟩]
  | .l_list_text => [⟨#[95, 108, 97, 119, 95, 111, 119, 110]⟩, ⟨#[95, 108, 97, 119, 95, 102, 111, 117, 110, 100]⟩, ⟨#[95, 108, 97, 119, 95, 101, 110, 116, 114, 105, 101, 115]⟩, ⟨#[95, 108, 97, 119, 95, 111, 110, 101]⟩]
  | .l_same => [⟨#[95, 108, 97, 119, 95, 111, 110, 101]⟩, ⟨#[95, 108, 97, 119, 95, 111, 116, 104, 101, 114]⟩]
  | .l_call => [⟨#[95, 108, 97, 119, 95, 100, 101, 115, 107]⟩, ⟨#[95, 108, 97, 119, 95, 119, 105, 116, 104, 100, 114, 97, 119, 115]⟩, ⟨#[95, 108, 97, 119, 95, 116, 111, 108, 100]⟩]
  | .l_is_number => [⟨#[95, 108, 97, 119, 95, 118, 97, 108, 117, 101]⟩, ⟨#[95, 108, 97, 119, 95, 108, 111, 119]⟩, ⟨#[95, 108, 97, 119, 95, 104, 105, 103, 104]⟩]
  | .l_flaw => [⟨#[95, 108, 97, 119, 95, 119, 105, 116, 104, 100, 114, 97, 119, 115]⟩, ⟨#[95, 108, 97, 119, 95, 116, 111, 108, 100]⟩, ⟨#[95, 108, 97, 119, 95, 105, 115, 115, 117, 101, 114]⟩, ⟨#[95, 108, 97, 119, 95, 115, 101, 97, 108, 101, 114]⟩, ⟨#[95, 108, 97, 119, 95, 115, 101, 114, 105, 97, 108]⟩, ⟨#[95, 108, 97, 119, 95, 119, 104, 101, 110]⟩, ⟨#[95, 108, 97, 119, 95, 114, 101, 97, 115, 111, 110]⟩, ⟨#[95, 108, 97, 119, 95, 115, 105, 110, 99, 101]⟩, ⟨#[95, 108, 97, 119, 95, 117, 110, 116, 105, 108]⟩]
  | .l_newest => [⟨#[95, 108, 97, 119, 95, 108, 105, 115, 116, 115]⟩, ⟨#[95, 108, 97, 119, 95, 105, 115, 115, 117, 101, 114]⟩, ⟨#[95, 108, 97, 119, 95, 115, 101, 97, 108, 101, 114]⟩, ⟨#[95, 108, 97, 119, 95, 115, 111, 109, 101, 95, 104, 101, 114, 101]⟩, ⟨#[95, 108, 97, 119, 95, 111, 119, 110]⟩]
  | .l_listed => [⟨#[95, 108, 97, 119, 95, 99, 117, 112, 95, 104, 101, 114, 101]⟩, ⟨#[95, 108, 97, 119, 95, 105, 115, 115, 117, 101, 114]⟩, ⟨#[95, 108, 97, 119, 95, 98, 97, 115, 101]⟩, ⟨#[95, 108, 97, 119, 95, 115, 99, 111, 112, 101]⟩, ⟨#[95, 108, 97, 119, 95, 101, 110, 116, 114, 105, 101, 115]⟩, ⟨#[95, 108, 97, 119, 95, 115, 101, 114, 105, 97, 108]⟩]
  | .law => [⟨#[95, 108, 97, 119, 95, 115, 99, 114, 105, 112, 116]⟩, ⟨#[95, 108, 97, 119, 95, 99, 117, 112, 95, 104, 101, 114, 101]⟩, ⟨#[95, 108, 97, 119, 95, 100, 101, 115, 107]⟩, ⟨#[95, 108, 97, 119, 95, 108, 105, 115, 116, 115]⟩, ⟨#[95, 108, 97, 119, 95, 116, 117, 114, 110]⟩, ⟨#[95, 108, 97, 119, 95, 111, 119, 110]⟩, ⟨#[95, 108, 97, 119, 95, 119, 105, 116, 104, 100, 114, 97, 119, 115]⟩, ⟨#[95, 108, 97, 119, 95, 115, 105, 110, 99, 101]⟩, ⟨#[95, 108, 97, 119, 95, 114, 101, 97, 115, 111, 110]⟩, ⟨#[95, 108, 97, 119, 95, 117, 110, 116, 105, 108]⟩, ⟨#[95, 108, 97, 119, 95, 116, 111, 108, 100]⟩, ⟨#[95, 108, 97, 119, 95, 97, 116]⟩, ⟨#[95, 108, 97, 119, 95, 111, 100, 100]⟩, ⟨#[95, 108, 97, 119, 95, 102, 108, 97, 119, 95, 104, 101, 114, 101]⟩, ⟨#[95, 108, 97, 119, 95, 100, 117, 101]⟩, ⟨#[95, 108, 97, 119, 95, 111, 108, 100]⟩, ⟨#[95, 108, 97, 119, 95, 97, 108, 105, 107, 101]⟩, ⟨#[95, 108, 97, 119, 95, 114, 101, 115, 116]⟩, ⟨#[95, 108, 97, 119, 95, 101, 110, 116, 114, 105, 101, 115]⟩, ⟨#[95, 108, 97, 119, 95, 101, 110, 116, 114, 121]⟩]
def Fn.ps (f : Fn) : List Str := f.ns.take (ir f).np
def okFn (f : Fn) : Bool := chkSs f.ns (ir f).code f.dd.scope f.dd.body && (C8.scC f.ns f.ps f.dd.scope && (f.ps.length == (ir f).np && f.ns.length == (ir f).np + (ir f).nl))
theorem okFn_all : ∀ f : Fn, okFn f = true := by
  intro f
  cases f <;> kernel_rfl
theorem Fn.no_dfl (f : Fn) : f.dd.dfl = [] ∧ f.dd.kwd = [] := by
  unfold Fn.dd
  split <;> exact ⟨rfl, rfl⟩
theorem Fn.dd_at (f : Fn) : f.dd.at_ = f.at := by
  unfold Fn.dd
  split <;> rfl
section
variable {P : Program} {w : World} {K : PySem.W.Frag} {mg : Str → Option Value} {base : Heap}
abbrev FD (K : PySem.W.Frag) (f : Fn) (fd : FuncData) : Prop := FunD K f.dd.name f.dd.qual f.dd.params f.dd.body f.dd.scope [] [] (He.fAd K f.at) fd
theorem fd_binds : ∀ {f : Fn} {fd : FuncData}, FD K f fd → Binds K fd f.ps []
  | .is_whole, _, h => FunD.bindsN h fun _ _ _ _ _ _ us hl => match us, hl with
    | [_, _, _], _ => rfl
  | .is_truth, _, h => FunD.bindsN h fun _ _ _ _ _ _ us hl => match us, hl with
    | [_], _ => rfl
  | .is_tuple_of, _, h => FunD.bindsN h fun _ _ _ _ _ _ us hl => match us, hl with
    | [_, _, _], _ => rfl
  | .fits_word, _, h => FunD.bindsN h fun _ _ _ _ _ _ us hl => match us, hl with
    | [_], _ => rfl
  | .fits_words, _, h => FunD.bindsN h fun _ _ _ _ _ _ us hl => match us, hl with
    | [_, _, _], _ => rfl
  | .is_ascending, _, h => FunD.bindsN h fun _ _ _ _ _ _ us hl => match us, hl with
    | [_], _ => rfl
  | .fits_lot, _, h => FunD.bindsN h fun _ _ _ _ _ _ us hl => match us, hl with
    | [_, _, _, _], _ => rfl
  | .fits_name, _, h => FunD.bindsN h fun _ _ _ _ _ _ us hl => match us, hl with
    | [_], _ => rfl
  | .need_name, _, h => FunD.bindsN h fun _ _ _ _ _ _ us hl => match us, hl with
    | [_], _ => rfl
  | .seal_by, _, h => FunD.bindsN h fun _ _ _ _ _ _ us hl => match us, hl with
    | [_, _], _ => rfl
  | .number_row, _, h => FunD.bindsN h fun _ _ _ _ _ _ us hl => match us, hl with
    | [_], _ => rfl
  | .value_row, _, h => FunD.bindsN h fun _ _ _ _ _ _ us hl => match us, hl with
    | [_], _ => rfl
  | .need_key, _, h => FunD.bindsN h fun _ _ _ _ _ _ us hl => match us, hl with
    | [_], _ => rfl
  | .fits_entry, _, h => FunD.bindsN h fun _ _ _ _ _ _ us hl => match us, hl with
    | [_], _ => rfl
  | .fits_scope, _, h => FunD.bindsN h fun _ _ _ _ _ _ us hl => match us, hl with
    | [_], _ => rfl
  | .fits_within, _, h => FunD.bindsN h fun _ _ _ _ _ _ us hl => match us, hl with
    | [_], _ => rfl
  | .fits_list, _, h => FunD.bindsN h fun _ _ _ _ _ _ us hl => match us, hl with
    | [_], _ => rfl
  | .need_list, _, h => FunD.bindsN h fun _ _ _ _ _ _ us hl => match us, hl with
    | [_], _ => rfl
  | .can_reach, _, h => FunD.bindsN h fun _ _ _ _ _ _ us hl => match us, hl with
    | [_, _, _], _ => rfl
  | .list_text, _, h => FunD.bindsN h fun _ _ _ _ _ _ us hl => match us, hl with
    | [_], _ => rfl
  | .number_text, _, h => FunD.bindsN h fun _ _ _ _ _ _ us hl => match us, hl with
    | [_], _ => rfl
  | .truth_text, _, h => FunD.bindsN h fun _ _ _ _ _ _ us hl => match us, hl with
    | [_], _ => rfl
  | .name_text, _, h => FunD.bindsN h fun _ _ _ _ _ _ us hl => match us, hl with
    | [_], _ => rfl
  | .list_of_text, _, h => FunD.bindsN h fun _ _ _ _ _ _ us hl => match us, hl with
    | [_], _ => rfl
  | .thing_text, _, h => FunD.bindsN h fun _ _ _ _ _ _ us hl => match us, hl with
    | [_, _], _ => rfl
  | .truth_in, _, h => FunD.bindsN h fun _ _ _ _ _ _ us hl => match us, hl with
    | [_], _ => rfl
  | .numbers_in, _, h => FunD.bindsN h fun _ _ _ _ _ _ us hl => match us, hl with
    | [_, _], _ => rfl
  | .list_in, _, h => FunD.bindsN h fun _ _ _ _ _ _ us hl => match us, hl with
    | [_], _ => rfl
  | .with_thing, _, h => FunD.bindsN h fun _ _ _ _ _ _ us hl => match us, hl with
    | [_, _], _ => rfl
  | .without_thing, _, h => FunD.bindsN h fun _ _ _ _ _ _ us hl => match us, hl with
    | [_, _], _ => rfl
  | .stepped, _, h => FunD.bindsN h fun _ _ _ _ _ _ us hl => match us, hl with
    | [_, _, _, _], _ => rfl
  | .can_step, _, h => FunD.bindsN h fun _ _ _ _ _ _ us hl => match us, hl with
    | [_, _, _, _], _ => rfl
  | .own_seal, _, h => FunD.bindsN h fun _ _ _ _ _ _ us hl => match us, hl with
    | [_, _], _ => rfl
  | .need_text, _, h => FunD.bindsN h fun _ _ _ _ _ _ us hl => match us, hl with
    | [_], _ => rfl
  | .read_in, _, h => FunD.bindsN h fun _ _ _ _ _ _ us hl => match us, hl with
    | [_, _], _ => rfl
  | .read_by, _, h => FunD.bindsN h fun _ _ _ _ _ _ us hl => match us, hl with
    | [_, _], _ => rfl
  | .read_list, _, h => FunD.bindsN h fun _ _ _ _ _ _ us hl => match us, hl with
    | [_], _ => rfl
  | .need_times, _, h => FunD.bindsN h fun _ _ _ _ _ _ us hl => match us, hl with
    | [_, _, _], _ => rfl
  | .read_thing, _, h => FunD.bindsN h fun _ _ _ _ _ _ us hl => match us, hl with
    | [_], _ => rfl
  | .newest_plain, _, h => FunD.bindsN h fun _ _ _ _ _ _ us hl => match us, hl with
    | [_, _, _], _ => rfl
  | .r_init, _, h => FunD.bindsN h fun _ _ _ _ _ _ us hl => match us, hl with
    | [_, _], _ => rfl
  | .r_sign, _, h => FunD.bindsN h fun _ _ _ _ _ _ us hl => match us, hl with
    | [_], _ => rfl
  | .r_goes_on, _, h => FunD.bindsN h fun _ _ _ _ _ _ us hl => match us, hl with
    | [_, _], _ => rfl
  | .r_marks, _, h => FunD.bindsN h fun _ _ _ _ _ _ us hl => match us, hl with
    | [_, _], _ => rfl
  | .r_ends, _, h => FunD.bindsN h fun _ _ _ _ _ _ us hl => match us, hl with
    | [_], _ => rfl
  | .r_one_of, _, h => FunD.bindsN h fun _ _ _ _ _ _ us hl => match us, hl with
    | [_, _], _ => rfl
  | .r_word, _, h => FunD.bindsN h fun _ _ _ _ _ _ us hl => match us, hl with
    | [_], _ => rfl
  | .r_number, _, h => FunD.bindsN h fun _ _ _ _ _ _ us hl => match us, hl with
    | [_, _, _], _ => rfl
  | .r_number_or_none, _, h => FunD.bindsN h fun _ _ _ _ _ _ us hl => match us, hl with
    | [_, _], _ => rfl
  | .r_words, _, h => FunD.bindsN h fun _ _ _ _ _ _ us hl => match us, hl with
    | [_], _ => rfl
  | .r_entry, _, h => FunD.bindsN h fun _ _ _ _ _ _ us hl => match us, hl with
    | [_], _ => rfl
  | .r_item, _, h => FunD.bindsN h fun _ _ _ _ _ _ us hl => match us, hl with
    | [_, _], _ => rfl
  | .r_several, _, h => FunD.bindsN h fun _ _ _ _ _ _ us hl => match us, hl with
    | [_, _, _, _], _ => rfl
  | .d_init, _, h => FunD.bindsN h fun _ _ _ _ _ _ us hl => match us, hl with
    | [_], _ => rfl
  | .d_store, _, h => FunD.bindsN h fun _ _ _ _ _ _ us hl => match us, hl with
    | [_], _ => rfl
  | .d_deeds, _, h => FunD.bindsN h fun _ _ _ _ _ _ us hl => match us, hl with
    | [_], _ => rfl
  | .d_does, _, h => FunD.bindsN h fun _ _ _ _ _ _ us hl => match us, hl with
    | [_, _, _, _], _ => rfl
  | .d_put, _, h => FunD.bindsN h fun _ _ _ _ _ _ us hl => match us, hl with
    | [_, _], _ => rfl
  | .d_puts_list, _, h => FunD.bindsN h fun _ _ _ _ _ _ us hl => match us, hl with
    | [_, _, _, _, _, _], _ => rfl
  | .d_withdraw, _, h => FunD.bindsN h fun _ _ _ _ _ _ us hl => match us, hl with
    | [_, _, _, _, _, _, _, _], _ => rfl
  | .d_give_back, _, h => FunD.bindsN h fun _ _ _ _ _ _ us hl => match us, hl with
    | [_, _, _, _, _, _], _ => rfl
  | .d_undo, _, h => FunD.bindsN h fun _ _ _ _ _ _ us hl => match us, hl with
    | [_], _ => rfl
  | .l_cup, _, h => FunD.bindsN h fun _ _ _ _ _ _ us hl => match us, hl with
    | [_], _ => rfl
  | .l_roll, _, h => FunD.bindsN h fun _ _ _ _ _ _ us hl => match us, hl with
    | [_, _], _ => rfl
  | .l_some, _, h => FunD.bindsN h fun _ _ _ _ _ _ us hl => match us, hl with
    | [_, _], _ => rfl
  | .l_groups, _, h => FunD.bindsN h fun _ _ _ _ _ _ us hl => match us, hl with
    | [_], _ => rfl
  | .l_row, _, h => FunD.bindsN h fun _ _ _ _ _ _ us hl => match us, hl with
    | [_], _ => rfl
  | .l_seal, _, h => FunD.bindsN h fun _ _ _ _ _ _ us hl => match us, hl with
    | [_, _], _ => rfl
  | .l_sealed_list, _, h => FunD.bindsN h fun _ _ _ _ _ _ us hl => match us, hl with
    | [_], _ => rfl
  | .l_words, _, h => FunD.bindsN h fun _ _ _ _ _ _ us hl => match us, hl with
    | [_], _ => rfl
  | .l_several, _, h => FunD.bindsN h fun _ _ _ _ _ _ us hl => match us, hl with
    | [_], _ => rfl
  | .l_integer, _, h => FunD.bindsN h fun _ _ _ _ _ _ us hl => match us, hl with
    | [_], _ => rfl
  | .l_list_text, _, h => FunD.bindsN h fun _ _ _ _ _ _ us hl => match us, hl with
    | [_], _ => rfl
  | .l_same, _, h => FunD.bindsN h fun _ _ _ _ _ _ us hl => match us, hl with
    | [_, _], _ => rfl
  | .l_call, _, h => FunD.bindsN h fun _ _ _ _ _ _ us hl => match us, hl with
    | [_, _, _], _ => rfl
  | .l_is_number, _, h => FunD.bindsN h fun _ _ _ _ _ _ us hl => match us, hl with
    | [_, _, _], _ => rfl
  | .l_flaw, _, h => FunD.bindsN h fun _ _ _ _ _ _ us hl => match us, hl with
    | [_, _], _ => rfl
  | .l_newest, _, h => FunD.bindsN h fun _ _ _ _ _ _ us hl => match us, hl with
    | [_, _, _], _ => rfl
  | .l_listed, _, h => FunD.bindsN h fun _ _ _ _ _ _ us hl => match us, hl with
    | [_], _ => rfl
  | .law, _, h => FunD.bindsN h fun _ _ _ _ _ _ us hl => match us, hl with
    | [_], _ => rfl
theorem all_fn {fdo : Fn → FuncData} (hd : ∀ f, FD K f (fdo f)) (fc : Facts K mg fun f => He.fAd K f.at) : ∀ (n : Nat) (f : Fn), FnG P w K mg base (2 * n) (He.fAd K f.at) (fdo f) f.ps (spOf K (call n f))
  | 0, f => by
    refine ⟨fun vs H Q E h => ?_, fun A outer s H args us vs Q E g0 hr e0 hb r h => ?_⟩
    all_goals
      obtain ⟨π, M, xs, w1, rv, s⟩ := h
      exact s.elim
  | n + 1, f => by
    obtain ⟨oc, od, dV, kV, doc, pm, an, cdv, ct, osl, e, lk, hcd, hD, _⟩ := (hd f).ex
    have ok := okFn_all f
    unfold okFn at ok
    simp only [Bool.and_eq_true, beq_iff_eq] at ok
    obtain ⟨c1, c2, c3, c4⟩ := ok
    have q := fnG_of (b := ir f) (P := P) (w := w) (base := base) (e ▸ lk) hcd (C8.fnScope_by c2) c3 c4 c1 fc (fun g => all_fn hd fc n g) fun g => fd_binds (hd g)
    rw [e]
    exact q
end
end K75

set_option Elab.async false
set_option linter.all false
set_option autoImplicit false
set_option maxRecDepth 100000
set_option maxHeartbeats 2000000
/-! Part 29: the law's own call, at the heap behind the top. -/
namespace K75
open PySem PySem.Spec PyProof.Rows L2
section
variable {P : Program} {w : World} {K : PySem.W.Frag} {mg mb : Str → Option Value} {k : Nat} {f a : Addr} {fd : FuncData} {x : Str} {sp : Sp} {st : Shared} {us : List Value} {ns : List Int}
/-- the script, nothing else, may be hidden -/
structure Bk (P : Program) (w : World) (K : PySem.W.Frag) (st : Shared) (a : Addr) (H : Hp) : Prop where
  one : ∀ b, H b = none ∨ (b = a ∧ ∃ o xs, H b = some (.frz o (.lst xs)))
  hok : HOk P w H st.heap
  out : ∀ o, K.lookup a = some o → H a = none
theorem Bk.see {H : Hp} (B : Bk P w K st a H) (ha : st.heap.get? a = some { cls := .type "list", data := .seq us.toArray }) {b : Addr} {o : Obj} (e : st.heap.get? b = some o) (h : b = a → (o.data ≠ .seq us.toArray) ∨ H a = none) : (hidT st.heap H).get? b = some o := by
  refine hidT_get e ?_
  rcases B.one b with z | ⟨z, _⟩
  · exact z
  · rcases h z with q | q
    · rw [z, ha] at e
      cases e
      exact absurd rfl q
    · rw [z]; exact q
theorem Bk.nss {H : Hp} (B : Bk P w K st a H) (ha : st.heap.get? a = some { cls := .type "list", data := .seq us.toArray }) {b : Addr} {m : Str → Option Value} : st.heap.Ns b m → (hidT st.heap H).Ns b m := by
  rintro ⟨o, es, ep, e, d, r⟩
  exact ⟨o, es, ep, B.see ha e fun _ => .inl (by rw [d]; exact nofun), d, r⟩
theorem Bk.run {H : Hp} (B : Bk P w K st a H) (ha : st.heap.get? a = some { cls := .type "list", data := .seq us.toArray }) (kin : K.In st.heap) (g : st.heap.Ns mainGlobals mg) (gb : st.heap.Ns builtinsNs mb) (bb : ∀ y : Str, y ≠ "__name__" → mb y = bootBuiltins y) (lim : st.heap.NoLimit) (gen : st.gens = #[]) (rm : Room k callerA)
    (F : ∀ base : Heap, K.In base → base.Ns mainGlobals mg → FnG P w K mg base k f fd [x] sp) (bnd : Binds K fd [x] []) (s : sp [.ref a] H (fun v _ => v = .bl true) fun _ _ _ => False) :
    codeAny (model P w) callerA (.call (.ref f) ⟨[.ref a], []⟩) (fun r t => r = .ok (.ret (.bool true)) ∧ OldK st.heap t.heap ∧ t.os = st.os ∧ AllBare t.gens) st := by
  have kin' : K.In (hidT st.heap H) := fun b o e => B.see ha (kin b o e) fun z => .inr (B.out o (by rw [← z]; exact e))
  have md : Mod K mg (hidT st.heap H) := by
    obtain ⟨mc, l1, l2⟩ := lim
    exact ⟨kin', B.nss ha g, ⟨mb, B.nss ha gb, bb⟩, mc, B.nss ha l1, l2⟩
  have en : Env0 P w K mg (hidT st.heap H) callerA [] st H :=
    { frames := rfl, mod := md, bs := fun b o e => of_hidT e, bsz := Nat.le_of_eq (hidT_size _ _), funs := trivial, frf := fun b hb => (nomatch (show b ∈ ([] : List Addr) from hb)), hok := B.hok, bare := .of_eq gen }
  refine codeAny_mono ((F _ kin' (B.nss ha g)).runs callerA [] st H ⟨[.ref a], []⟩ [.ref a] [.ref a] _ _ rfl rm en (by simpa using bnd st [.ref a] kin rfl) (.cons rfl .nil) s) ?_
  intro r t h
  match r, h with
  | .error e, h =>
    obtain ⟨_, _, _, _, _, _, _, _, _, _, _, _, z⟩ := h
    exact z.elim
  | .ok (.ret u), h =>
    obtain ⟨v, H', os, bare, un, hok', rv, q⟩ := h
    have q1 : v = .bl true := q
    rw [q1] at rv
    have ru : u = Value.bool true := rv
    refine ⟨by rw [ru], OldK.of_keep fun b o e => ?_, os, bare⟩
    rcases B.one b with z | ⟨_, o1, xs, z⟩
    · exact un.keep b o e z (fun y => nomatch (show b ∈ ([] : List Addr) from y)) (fun y => nomatch y)
    · have z2 := hok' b _ (un.frzs b o1 _ z)
      have z1 := B.hok b _ z
      rw [z1.1] at e
      cases e
      exact z2.1
theorem bk_law (ha : st.heap.get? a = some { cls := .type "list", data := .seq us.toArray }) (kin : K.In st.heap) (iv : IntsAre us ns) (hl : ns.length ≤ sizeLine) : ∃ H : Hp, Bk P w K st a H ∧ SqL K H a (ns.map V.int) := by
  have rv := vals_ints iv
  cases e : K.lookup a with
  | some o =>
    have z := kin a o e
    rw [ha] at z
    cases z
    refine ⟨fun _ => none, ⟨fun _ => .inl rfl, fun b o h => (nomatch (show none = some o from h)), fun _ _ => rfl⟩, .inr ⟨_, us.toArray, _, e, rfl, rfl, rfl, ?_, by simpa using rv⟩⟩
    rw [List.size_toArray, iv.length]
    exact hl
  | none =>
    let H : Hp := fun b => if b = a then some (.frz { cls := .type "list", data := .seq us.toArray } (.lst (ns.map V.int))) else none
    have at_a : H a = some (.frz { cls := .type "list", data := .seq us.toArray } (.lst (ns.map V.int))) := if_pos rfl
    have off : ∀ {b : Addr}, b ≠ a → H b = none := fun h => if_neg h
    refine ⟨H, ⟨fun b => ?_, fun b o h => ?_, fun o h => ?_⟩, .inl (.inr ⟨_, at_a⟩)⟩
    · by_cases q : b = a
      · exact .inr ⟨q, _, _, by rw [q]; exact at_a⟩
      · exact .inl (off q)
    · by_cases q : b = a
      · rw [q, at_a] at h
        cases h
        rw [q]
        exact ⟨ha, by rw [List.length_map]; exact hl, us, _, rv, ha⟩
      · rw [off q] at h; cases h
    · rw [e] at h; cases h
end
section
variable {q : Program} {loose : List Str} {XP : (Str → Option Value) → Heap → Prop} {YP : World → Heap → Prop} {d : DefRec} {l : PySem.W.OpenLaw}
/-- the script as the evaluator has it -/
def scr (ns : List Int) : Val := .d (.list (ns.map .int))
theorem dps_ints {K : PySem.W.Frag} {Hd : Hp} : ∀ ns : List Int, DpAll K Hd (ns.map V.int) (ns.map PyData.int)
  | [] => .nil
  | n :: r => .cons (.int n) (dps_ints r)
/-- THE END: the evaluator says true at every script, so the law holds behind the top -/
theorem walk_end {n : Nat} (hn : l.most = some n) (hs : n ≤ sizeLine) (hdf : d.params.defaults = []) (N : Nat) (rm : Room (2 * N) callerA)
    (say : ∀ ns : List Int, ns.length ≤ n → (∀ z ∈ ns, Builtin.Int.intBits z ≤ 1048576) → ∃ M, call N .law [scr ns] [] = .ok (.d (.bool true)) M)
    (fact : ∀ (w : World) (mg : Str → Option Value) (h : Heap), YP w h → h.Ns mainGlobals mg → ∃ (K : PySem.W.Frag) (fdo : Fn → FuncData), K.In h ∧ (∀ f, FD K f (fdo f)) ∧ Facts K mg (fun f => He.fAd K f.at) ∧ mg d.name = some (.ref (He.fAd K Fn.law.at))) :
    PySem.W.WalkO q loose XP YP l.row.toRowW d [] (fun f vs => PySem.call f vs) := by
  refine Att.attach_callB hn hdf ?_
  intro w s₀ st mg mb f o pm cd doc a us ns G Y ho hd hcd hmg hobj iv hlen bits hg
  obtain ⟨K, fdo, kin, fds, fc, mf⟩ := fact w mg st.heap Y G.T.g
  rw [hmg] at mf
  cases mf
  obtain ⟨H, B, sq⟩ := bk_law (P := l.prog) (w := w) hobj kin iv (Nat.le_trans hlen hs)
  obtain ⟨M, hM⟩ := say ns hlen bits
  refine B.run (x := Fn.law.ps.head!) hobj kin G.T.g G.T.b G.T.builtins G.T.nolimit hg rm (fun base kb gb => all_fn (base := base) fds fc N .law) (fd_binds (fds .law)) ?_
  refine ⟨⟨[], []⟩, [], [scr ns], ⟨.nil, rfl, fun i b o h => ?_, fun b hb => ?_⟩, .cons (.lst ?_ (dps_ints ns)) .nil, ?_⟩
  · cases i <;> cases h
  · exact nomatch (show b ∈ ([] : List Addr) from hb)
  · have e : hid H ⟨[], []⟩ = H := by
      funext b
      exact hid_out fun z => nomatch (show b ∈ ([] : List Addr) from z)
    rw [e]
    exact sq
  · show sayR K H ⟨[], []⟩ (call N .law [scr ns] []) _ _
    rw [hM]
    intro v H' π' g w' r
    exact dp_bool r
end
end K75

set_option Elab.async false
set_option linter.all false
set_option autoImplicit false
set_option maxRecDepth 100000
set_option maxHeartbeats 2000000
/-! Part 30: the facts of the module, looked at behind the top. -/
namespace K75
open PySem PySem.Spec PyProof.Rows L2
/-! ### the module's data -/
def seenV : Value → V
  | .none => .non
  | .bool b => .bl b
  | .int i _ => .int i
  | .str x _ => .str x
  | .bytes b _ => .byt b
  | .float b _ => .flt b
  | .type n => .ty n
  | .ref a => .ref a
  | _ => .non
section
variable {K : PySem.W.Frag}
mutual
theorem dat_ok (H : Hp) : ∀ {u : Value} {d : PyData}, datB K u d = true → RelV (seenV u) u ∧ Dp K H (seenV u) d ∧ ∀ a o, seenV u = .ref a → K.lookup a = some o → o.dict = none
  | u, .none, h => by
    cases u <;> simp only [datB] at h <;> first | exact absurd h (by decide) | skip
    exact ⟨rfl, .non, fun a o z => nomatch z⟩
  | u, .bool c, h => by
    cases u <;> simp only [datB] at h <;> first | exact absurd h (by decide) | skip
    rename_i b
    have e : b = c := eq_of_beq h
    subst e
    exact ⟨rfl, .bl b, fun a o z => nomatch z⟩
  | u, .int c, h => by
    cases u <;> simp only [datB] at h <;> first | exact absurd h (by decide) | skip
    rename_i b t
    have e : b = c := of_decide_eq_true h
    subst e
    exact ⟨⟨t, rfl⟩, .int b, fun a o z => nomatch z⟩
  | u, .str c, h => by
    cases u <;> simp only [datB] at h <;> first | exact absurd h (by decide) | skip
    rename_i b t
    have e : b = c := of_decide_eq_true h
    subst e
    exact ⟨⟨t, rfl⟩, .str b, fun a o z => nomatch z⟩
  | u, .tuple ds, h => by
    cases u <;> simp only [datB] at h <;> first | exact absurd h (by decide) | skip
    rename_i a
    cases e : K.lookup a with
    | none => rw [e] at h; cases h
    | some o =>
      obtain ⟨oc, od, dt, sl⟩ := o
      rw [e] at h
      cases oc <;> first | cases h | skip
      cases od <;> first | cases h | skip
      cases dt <;> first | cases h | skip
      rename_i c its n
      simp only [Bool.and_eq_true, decide_eq_true_eq] at h
      obtain ⟨⟨h1, h2⟩, h3⟩ := h
      obtain ⟨r1, r2⟩ := dats_ok H h3
      refine ⟨rfl, .tup (.inr ⟨_, its, n, e, congrArg Value.type h1, rfl, h2, r1⟩) r2, fun b o z q => ?_⟩
      cases z
      rw [e] at q
      cases q
      rfl
  | u, .list ds, h => by cases u <;> simp only [datB] at h <;> exact absurd h (by decide)
  | u, .dict ds, h => by cases u <;> simp only [datB] at h <;> exact absurd h (by decide)
theorem dats_ok (H : Hp) : ∀ {us : List Value} {ds : List PyData}, datsB K us ds = true → Vals (us.map seenV) us ∧ DpAll K H (us.map seenV) ds
  | [], [], _ => ⟨.nil, .nil⟩
  | [], _ :: _, h => nomatch h
  | _ :: _, [], h => nomatch h
  | u :: us, d :: ds, h => by
    simp only [datsB, Bool.and_eq_true] at h
    obtain ⟨r1, r2⟩ := dats_ok H h.2
    obtain ⟨q1, q2, _⟩ := dat_ok H h.1
    exact ⟨.cons q1 r1, .cons q2 r2⟩
end
end
/-! ### what is looked at -/
theorem Fd.mem (f : Fd) : f ∈ Fd.all := by cases f <;> decide
theorem Xc.mem (f : Xc) : f ∈ Xc.all := by cases f <;> decide
theorem Cl.mem (f : Cl) : f ∈ Cl.all := by cases f <;> decide
theorem Fn.mem (f : Fn) : f ∈ allFn := by cases f <;> decide +kernel
section
variable {K : PySem.W.Frag} {h : Heap} {mg : Str → Option Value}
theorem lookup_mem {x : Str} {d : PyData} : ∀ {l : List (Str × PyData)}, l.lookup x = some d → (x, d) ∈ l
  | [], h => nomatch h
  | (y, e) :: r, h => by
    rw [List.lookup_cons] at h
    split at h
    · rename_i q
      cases h
      rw [beq_iff_eq.mp q]
      exact List.mem_cons_self
    · exact List.mem_cons_of_mem _ (lookup_mem h)
theorem facts_of (kin : K.In h) (g : h.Ns mainGlobals mg) (ok : okAll K = true) : Facts K mg fun f => He.fAd K f.at := by
  unfold okAll at ok
  simp only [Bool.and_eq_true, List.all_eq_true] at ok
  obtain ⟨o1, o2, o3, o4, o5, o6⟩ := ok
  refine ⟨fun f e => ?_, fun c => ?_, fun x d e => ?_, fun x hx => ?_, fun c => ?_, fun c f => ?_, fun f c e n1 n2 => ?_, fun c => ?_, fun x => ?_, fun x y => ?_⟩
  · have z := o1 f f.mem
    have ea : f.at = (f.nm, none) := by unfold Fn.at; rw [e]
    unfold okF at z
    rw [e] at z
    simp only [Bool.and_eq_true] at z
    rw [ea]
    exact ⟨He.glo_ok kin g z.1, He.keep_ok z.2⟩
  · have z := o2 c c.mem
    unfold okC at z
    exact He.glo_ok kin g (He.ba z).1
  · have z := o4 _ (lookup_mem e)
    unfold glDat at z
    split at z
    · rename_i u eu
      obtain ⟨r, p, q⟩ := dat_ok (fun _ => none) z
      exact ⟨_, u, PySem.W.mg_of kin g eu, r, p, q⟩
    · cases z
  · exact He.free_ok kin g (o5 x hx)
  · have z := o2 c c.mem
    unfold okC at z
    exact He.cls_ok (He.ba (He.ba z).2).1
  · have z := o2 c c.mem
    unfold okC at z
    have z2 := (He.ba (He.ba (He.ba z).2).2).2
    rw [List.all_eq_true] at z2
    exact He.noat_ok (z2 f f.mem)
  · have z := o1 f f.mem
    have ea : f.at = (c.nm, some f.nm) := by unfold Fn.at; rw [e]
    unfold okF at z
    rw [e] at z
    simp only [Bool.or_eq_true, decide_eq_true_eq] at z
    rcases z with z | z
    · cases c
      · exact absurd z n1
      · exact absurd z n2
    · rw [ea]
      exact He.meth_ok z
  · have z := o2 c c.mem
    unfold okC at z
    have z2 := He.mkr_ok (He.ba (He.ba (He.ba z).2).2).1
    cases c <;> exact z2
  · have z := o3 x x.mem
    unfold okX at z
    obtain ⟨z1, z2⟩ := He.ba z
    obtain ⟨q1, q2, q3, q4⟩ := He.exc_ok (He.ba z2).1
    exact ⟨He.glo_ok kin g z1, q2, ⟨_, _, _, _, PySem.F.excBase_ValueError, q1⟩, q3, q4⟩
  · have z := o3 x x.mem
    unfold okX at z
    have z2 := (He.ba (He.ba z).2).2
    rw [List.all_eq_true] at z2
    exact He.exm_ok (z2 y y.mem)
end
/-! ### the look -/
theorem saw_facts {h : Heap} {mg : Str → Option Value} (g : h.Ns mainGlobals mg) {K : PySem.W.Frag} (kin : K.In h) (e : seeK K = sawAll) :
    (∃ fdo : Fn → FuncData, ∀ f, FD K f (fdo f)) ∧ Facts K mg (fun f => He.fAd K f.at) ∧ mg "law" = some (.ref (He.fAd K Fn.law.at)) := by
  have ok : okAll K = true := congrArg Prod.fst e
  have es : (allFn.map fun f => He.fnW K f.dd.at_) = allFn.map fun f => f.dd.val := congrArg Prod.snd e
  have fc := facts_of kin g ok
  have one : ∀ f : Fn, ∃ fd, FD K f fd := fun f => by
    have e1 : He.fnW K f.dd.at_ = f.dd.val := List.map_inj_left.mp es f f.mem
    have c1 : f.dd.ok K = true := by
      unfold okAll at ok
      simp only [Bool.and_eq_true, List.all_eq_true] at ok
      exact ok.2.2.2.2.2 f f.mem
    obtain ⟨fd, z⟩ := He.DefD.funD e1 c1
    unfold He.DefD.dvs He.DefD.kws at z
    rw [f.no_dfl.1, f.no_dfl.2, f.dd_at] at z
    exact ⟨fd, z⟩
  refine ⟨⟨fun f => (one f).choose, fun f => (one f).choose_spec⟩, fc, ?_⟩
  exact (fc.fn .law rfl).1
end K75

set_option Elab.async false
set_option linter.all false
set_option autoImplicit false
set_option maxRecDepth 100000
set_option maxHeartbeats 1000000
/-! Mathematics, part 1: loops of the evaluator; the small checks. -/
namespace K75
open PySem
theorem fdb (f g : Fd) : (f == g) = decide (f = g) := rfl
theorem sh_int (i : Int) : SeqAt.shaped (.int i) = true := by simp [SeqAt.shaped, PyData.canLay0, PyData.depth]
theorem sh_bool (i : Bool) : SeqAt.shaped (.bool i) = true := by simp [SeqAt.shaped, PyData.canLay0, PyData.depth]
theorem sh_none : SeqAt.shaped .none = true := by simp [SeqAt.shaped, PyData.canLay0, PyData.depth]
theorem eqv_int (i j : Int) : PyData.eqv (.int i) (.int j) = decide (i = j) := by rw [PyData.eqv]; rfl
theorem eqv_str (x y : Str) : PyData.eqv (.str x) (.str y) = decide (x = y) := by rw [PyData.eqv]; rfl
theorem lim1 : (1 ≤ lim) = True := by simp [lim]
theorem lim2 : (2 ≤ lim) = True := by simp [lim]
theorem lim3 : (3 ≤ lim) = True := by simp [lim]
theorem lim4 : (4 ≤ lim) = True := by simp [lim]
theorem lim5 : (5 ≤ lim) = True := by simp [lim]
theorem lim6 : (6 ≤ lim) = True := by simp [lim]
theorem lim7 : (7 ≤ lim) = True := by simp [lim]
theorem lim8 : (8 ≤ lim) = True := by simp [lim]
theorem lim9 : (9 ≤ lim) = True := by simp [lim]
theorem lim10 : (10 ≤ lim) = True := by simp [lim]
theorem lim11 : (11 ≤ lim) = True := by simp [lim]
theorem lim12 : (12 ≤ lim) = True := by simp [lim]
/-! ### loops -/
section
variable {n : Nat} {M : Sto}
theorem compL_map {put : PyData → Option Loc} {c elt : Loc → Sto → R Val} {f : PyData → PyData} : ∀ {xs acc : List PyData}, (∀ x ∈ xs, ∃ G, put x = some G ∧ c G M = .ok (.d (.bool true)) M ∧ elt G M = .ok (.d (f x)) M) → acc.length + xs.length ≤ lim → compL put c elt xs M acc = .ok (acc ++ xs.map f) M
  | [], acc, _, _ => by simp [compL]
  | x :: r, acc, h, l => by
    obtain ⟨G, h1, h2, h3⟩ := h x List.mem_cons_self
    have l2 : acc.length < lim := by rw [List.length_cons] at l; omega
    have ih := compL_map (put := put) (c := c) (elt := elt) (f := f) (xs := r) (acc := acc ++ [f x]) (fun y hy => h y (List.mem_cons_of_mem _ hy)) (by rw [List.length_append, List.length_cons] at *; simp at *; omega)
    simp [compL, h1, h2, h3, R.bind, l2, ih]
theorem compL_filter {put : PyData → Option Loc} {c elt : Loc → Sto → R Val} {p : PyData → Bool} {f : PyData → PyData} : ∀ {xs acc : List PyData}, (∀ x ∈ xs, ∃ G, put x = some G ∧ c G M = .ok (.d (.bool (p x))) M ∧ (p x = true → elt G M = .ok (.d (f x)) M)) → acc.length + xs.length ≤ lim → compL put c elt xs M acc = .ok (acc ++ (xs.filter p).map f) M
  | [], acc, _, _ => by simp [compL]
  | x :: r, acc, h, l => by
    obtain ⟨G, h1, h2, h3⟩ := h x List.mem_cons_self
    have l2 : acc.length < lim := by rw [List.length_cons] at l; omega
    cases e : p x with
    | true =>
      have ih := compL_filter (put := put) (c := c) (elt := elt) (p := p) (f := f) (xs := r) (acc := acc ++ [f x]) (fun y hy => h y (List.mem_cons_of_mem _ hy)) (by rw [List.length_append, List.length_cons] at *; simp at *; omega)
      simp [compL, h1, h2, h3 e, e, R.bind, l2, ih]
    | false =>
      have ih := compL_filter (put := put) (c := c) (elt := elt) (p := p) (f := f) (xs := r) (acc := acc) (fun y hy => h y (List.mem_cons_of_mem _ hy)) (by rw [List.length_cons] at l; omega)
      simp [compL, h1, h2, e, R.bind, ih]
theorem boolsD_map {f : PyData → Bool} : ∀ xs : List PyData, boolsD (xs.map fun x => .bool (f x)) = some (xs.map f)
  | [] => rfl
  | x :: r => by simp [boolsD, boolsD_map r]
theorem strsD_map {f : PyData → Str} : ∀ xs : List PyData, strsD (xs.map fun x => .str (f x)) = some (xs.map f)
  | [] => rfl
  | x :: r => by simp [strsD, strsD_map r]
theorem strsD_map' {α : Type} {f : α → Str} : ∀ xs : List α, strsD (xs.map fun x => .str (f x)) = some (xs.map f)
  | [] => rfl
  | x :: r => by simp [strsD, strsD_map' r]
theorem loopW_end {c : Loc → Sto → R Val} {b : Loc → Sto → F} {k : Nat} {G : Loc} {M1 : Sto} (h : c G M = .ok (.d (.bool false)) M1) : loopW c b (k + 1) G M = .nx G M1 := by simp [loopW, h, R.to]
theorem loopW_nx {c : Loc → Sto → R Val} {b : Loc → Sto → F} {k : Nat} {G G2 : Loc} {M1 M2 : Sto} (h : c G M = .ok (.d (.bool true)) M1) (h2 : b G M1 = .nx G2 M2) : loopW c b (k + 1) G M = loopW c b k G2 M2 := by simp [loopW, h, h2, R.to, F.bind]
theorem loopW_ret {c : Loc → Sto → R Val} {b : Loc → Sto → F} {k : Nat} {G : Loc} {M1 M2 : Sto} {v : Val} (h : c G M = .ok (.d (.bool true)) M1) (h2 : b G M1 = .ret v M2) : loopW c b (k + 1) G M = .ret v M2 := by simp [loopW, h, h2, R.to, F.bind]
/-- a for statement that never leaves -/
theorem forL_inv {put : PyData → Loc → Option Loc} {b : Loc → Sto → F} {P : List PyData → Loc → Sto → Prop} (step : ∀ x r G M, P (x :: r) G M → ∃ G1 G2 M2, put x G = some G1 ∧ b G1 M = .nx G2 M2 ∧ P r G2 M2) : ∀ {xs : List PyData} {G : Loc} {M : Sto}, P xs G M → ∃ G2 M2, forL put b xs G M = .nx G2 M2 ∧ P [] G2 M2
  | [], G, M, h => ⟨G, M, rfl, h⟩
  | x :: r, G, M, h => by
    obtain ⟨G1, G2, M2, h1, h2, h3⟩ := step x r G M h
    obtain ⟨G3, M3, h4, h5⟩ := forL_inv step h3
    exact ⟨G3, M3, by simp [forL, h1, h2, F.bind, h4], h5⟩
end
/-! ### comprehensions, as expressions -/
section
variable {Φ : Env} {G : Loc} {M : Sto} {it elt c : E} {i : Nat} {d : PyData} {xs : List PyData} {f : PyData → PyData} {p : PyData → Bool}
theorem ev_comp (h1 : evE Φ it G M = .ok (.d d) M) (h2 : seqD d = some xs) (hl : xs.length ≤ lim) (h : ∀ x ∈ xs, evE Φ elt ((wipeG G [i]).set i (some (.d x))) M = .ok (.d (f x)) M) : evE Φ (.comp i it elt) G M = .ok (.d (.list (xs.map f))) M := by
  have go := compL_map (M := M) (put := fun x => some ((wipeG G [i]).set i (some (.d x)))) (c := fun _ M => .ok (.d (.bool true)) M) (elt := stillE (.d d) fun G M => evE Φ elt G M) (f := f) (xs := xs) (acc := []) (fun x hx => ⟨_, rfl, rfl, h x hx⟩) (by simpa using hl)
  have w : walked M (.d d) = some xs := h2
  unfold evE
  simp only [h1, R.bind, w, go, noX, List.nil_append]
theorem ev_compIf (h1 : evE Φ it G M = .ok (.d d) M) (h2 : seqD d = some xs) (hl : xs.length ≤ lim) (hc : ∀ x ∈ xs, evE Φ c ((wipeG G [i]).set i (some (.d x))) M = .ok (.d (.bool (p x))) M) (h : ∀ x ∈ xs, p x = true → evE Φ elt ((wipeG G [i]).set i (some (.d x))) M = .ok (.d (f x)) M) :
    evE Φ (.compIf i it c elt) G M = .ok (.d (.list ((xs.filter p).map f))) M := by
  have go := compL_filter (M := M) (put := fun x => some ((wipeG G [i]).set i (some (.d x)))) (c := stillE (.d d) fun G M => evE Φ c G M) (elt := stillE (.d d) fun G M => evE Φ elt G M) (p := p) (f := f) (xs := xs) (acc := []) (fun x hx => ⟨_, rfl, hc x hx, fun hp => h x hx hp⟩) (by simpa using hl)
  have w : walked M (.d d) = some xs := h2
  unfold evE
  simp only [h1, R.bind, w, go, noX, List.nil_append]
theorem ev_any (h1 : evE Φ it G M = .ok (.d d) M) (h2 : seqD d = some xs) (hl : xs.length ≤ lim) (h : ∀ x ∈ xs, evE Φ elt ((wipeG G [i]).set i (some (.d x))) M = .ok (.d (.bool (p x))) M) : evE Φ (.bi .any (.cons (.comp i it elt) .nil)) G M = .ok (.d (.bool (xs.any p))) M := by
  have e := ev_comp (f := fun x => .bool (p x)) h1 h2 hl h
  rw [evE, evEs, e]
  simp [R.bind, evEs, toDs, toD, biD, boolsD_map, R.of, List.any_map, Function.comp_def]
theorem ev_all (h1 : evE Φ it G M = .ok (.d d) M) (h2 : seqD d = some xs) (hl : xs.length ≤ lim) (h : ∀ x ∈ xs, evE Φ elt ((wipeG G [i]).set i (some (.d x))) M = .ok (.d (.bool (p x))) M) : evE Φ (.bi .all (.cons (.comp i it elt) .nil)) G M = .ok (.d (.bool (xs.all p))) M := by
  have e := ev_comp (f := fun x => .bool (p x)) h1 h2 hl h
  rw [evE, evEs, e]
  simp [R.bind, evEs, toDs, toD, biD, boolsD_map, R.of, List.all_map, Function.comp_def]
end
/-! ### whole numbers -/
def wholeB : PyData → Int → Int → Bool
  | .int i, a, b => decide (a ≤ i) && decide (i ≤ b)
  | _, _, _ => false
section
variable {n : Nat} {M : Sto}
theorem c_is_whole (d : PyData) (a b : Int) : call (n + 1) .is_whole [.d d, .d (.int a), .d (.int b)] M = .ok (.d (.bool (wholeB d a b))) M := by
  show runB (call n) ir_is_whole _ _ = _
  cases d with
  | int i => by_cases h1 : a ≤ i <;> by_cases h2 : i ≤ b <;> simp [ir_is_whole, runB, exSs, exS, evE, evEs, R.bind, R.to, R.of, F.bind, toD, toDs, asDs, binD, cmpD, ixD, toSlD, fromSlD, biD, isiD, dmD, tixD, noX, walked, seqD, boolsD, strsD, unpD, setAll, wipeG, pickD, stillE, List.lookup, fdb, Fn.cls, sh_int, sh_bool, sh_none, eqv_int, eqv_str, lim1, lim2, lim3, lim4, lim5, lim6, lim7, lim8, lim9, lim10, lim11, lim12, wholeB, h1, h2]
  | _ => simp [ir_is_whole, runB, exSs, exS, evE, evEs, R.bind, R.to, R.of, F.bind, toD, toDs, asDs, binD, cmpD, ixD, toSlD, fromSlD, biD, isiD, dmD, tixD, noX, walked, seqD, boolsD, strsD, unpD, setAll, wipeG, pickD, stillE, List.lookup, fdb, Fn.cls, sh_int, sh_bool, sh_none, eqv_int, eqv_str, lim1, lim2, lim3, lim4, lim5, lim6, lim7, lim8, lim9, lim10, lim11, lim12, wholeB]
theorem c_l_is_number (d : PyData) (a b : Int) : call (n + 1) .l_is_number [.d d, .d (.int a), .d (.int b)] M = .ok (.d (.bool (wholeB d a b))) M := by
  show runB (call n) ir_l_is_number _ _ = _
  cases d with
  | int i => by_cases h1 : a ≤ i <;> by_cases h2 : i ≤ b <;> simp [ir_l_is_number, runB, exSs, exS, evE, evEs, R.bind, R.to, R.of, F.bind, toD, toDs, asDs, binD, cmpD, ixD, toSlD, fromSlD, biD, isiD, dmD, tixD, noX, walked, seqD, boolsD, strsD, unpD, setAll, wipeG, pickD, stillE, List.lookup, fdb, Fn.cls, sh_int, sh_bool, sh_none, eqv_int, eqv_str, lim1, lim2, lim3, lim4, lim5, lim6, lim7, lim8, lim9, lim10, lim11, lim12, wholeB, h1, h2]
  | _ => simp [ir_l_is_number, runB, exSs, exS, evE, evEs, R.bind, R.to, R.of, F.bind, toD, toDs, asDs, binD, cmpD, ixD, toSlD, fromSlD, biD, isiD, dmD, tixD, noX, walked, seqD, boolsD, strsD, unpD, setAll, wipeG, pickD, stillE, List.lookup, fdb, Fn.cls, sh_int, sh_bool, sh_none, eqv_int, eqv_str, lim1, lim2, lim3, lim4, lim5, lim6, lim7, lim8, lim9, lim10, lim11, lim12, wholeB]
theorem c_need_key (d : PyData) : call (n + 2) .need_key [.d d] M = if wholeB d 0 4294967295 then .ok (.d .none) M else .ex .number M := by
  show runB (call (n+1)) ir_need_key _ _ = _
  cases h : wholeB d 0 4294967295 <;> simp [ir_need_key, runB, exSs, exS, evE, evEs, R.bind, R.to, R.of, F.bind, toD, toDs, asDs, binD, cmpD, ixD, toSlD, fromSlD, biD, isiD, dmD, tixD, noX, walked, seqD, boolsD, strsD, unpD, setAll, wipeG, pickD, stillE, List.lookup, fdb, Fn.cls, sh_int, sh_bool, sh_none, eqv_int, eqv_str, lim1, lim2, lim3, lim4, lim5, lim6, lim7, lim8, lim9, lim10, lim11, lim12, c_is_whole, h]
theorem wholeB_true {d : PyData} {a b : Int} (h : wholeB d a b = true) : ∃ i, d = .int i ∧ a ≤ i ∧ i ≤ b := by
  cases d with
  | int i =>
    simp only [wholeB, Bool.and_eq_true, decide_eq_true_eq] at h
    exact ⟨i, rfl, h⟩
  | _ => exact absurd h (by simp [wholeB])
def asI : PyData → Int
  | .int i => i
  | _ => 0
theorem c_need_times (a b c : PyData) : call (n + 2) .need_times [.d a, .d b, .d c] M = if wholeB a 0 1000000 && (wholeB b 0 1000000000 && wholeB c (asI b) 1000000000) then .ok (.d .none) M else .ex .number M := by
  show runB (call (n+1)) ir_need_times _ _ = _
  cases h : wholeB a 0 1000000
  · simp [ir_need_times, runB, exSs, exS, evE, evEs, R.bind, R.to, R.of, F.bind, toD, toDs, asDs, binD, cmpD, ixD, toSlD, fromSlD, biD, isiD, dmD, tixD, noX, walked, seqD, boolsD, strsD, unpD, setAll, wipeG, pickD, stillE, List.lookup, fdb, Fn.cls, sh_int, sh_bool, sh_none, eqv_int, eqv_str, lim1, lim2, lim3, lim4, lim5, lim6, lim7, lim8, lim9, lim10, lim11, lim12, c_is_whole, h]
  · cases h2 : wholeB b 0 1000000000
    · simp [ir_need_times, runB, exSs, exS, evE, evEs, R.bind, R.to, R.of, F.bind, toD, toDs, asDs, binD, cmpD, ixD, toSlD, fromSlD, biD, isiD, dmD, tixD, noX, walked, seqD, boolsD, strsD, unpD, setAll, wipeG, pickD, stillE, List.lookup, fdb, Fn.cls, sh_int, sh_bool, sh_none, eqv_int, eqv_str, lim1, lim2, lim3, lim4, lim5, lim6, lim7, lim8, lim9, lim10, lim11, lim12, c_is_whole, h, h2]
    · obtain ⟨t, rfl, _⟩ := wholeB_true h2
      cases h3 : wholeB c t 1000000000 <;> simp [ir_need_times, runB, exSs, exS, evE, evEs, R.bind, R.to, R.of, F.bind, toD, toDs, asDs, binD, cmpD, ixD, toSlD, fromSlD, biD, isiD, dmD, tixD, noX, walked, seqD, boolsD, strsD, unpD, setAll, wipeG, pickD, stillE, List.lookup, fdb, Fn.cls, sh_int, sh_bool, sh_none, eqv_int, eqv_str, lim1, lim2, lim3, lim4, lim5, lim6, lim7, lim8, lim9, lim10, lim11, lim12, c_is_whole, h, h2, h3, asI]
end
end K75

set_option Elab.async false
set_option linter.all false
set_option autoImplicit false
set_option maxRecDepth 100000
set_option maxHeartbeats 1000000
/-! Mathematics, part 2: a Reading walks over a text. -/
namespace K75
open PySem
/-- a Reading at place p of T -/
def rdO (T : Str) (p : Nat) : MO := .ins .reading [(.text, .d (.str T)), (.place, .d (.int p))]
def adv (M : Sto) (r : Nat) (T : Str) (p : Nat) : Sto := M.set r (rdO T p)
/-- the sign that is next -/
def hd : List Nat → Nat
  | c :: _ => c
  | [] => 126
abbrev rst (T : Str) (p : Nat) : List Nat := T.cps.toList.drop p
section
variable {n r p : Nat} {M : Sto} {T : Str}
theorem adv_at (h : r < M.length) : (adv M r T p)[r]? = some (rdO T p) := by simp [adv, h]
theorem adv_set {q : Nat} : (adv M r T p).set r (rdO T q) = adv M r T q := by simp [adv]
theorem rst_add (a : Nat) {x y : List Nat} (h : rst T p = x ++ y) (e : x.length = a) : rst T (p + a) = y := by
  unfold rst at *
  rw [← List.drop_drop, h, ← e, List.drop_left]
theorem rst_suc {c : Nat} {y : List Nat} (h : rst T p = c :: y) : rst T (p + 1) = y := rst_add 1 (x := [c]) h rfl
theorem c_sign (h : r < M.length) (hl : T.length ≤ lim) : call (n + 1) .r_sign [.o r] (adv M r T p) = .ok (.d (.str ⟨#[hd (rst T p)]⟩)) (adv M r T p) := by
  show runB (call n) ir_r_sign _ _ = _
  have el : T.length = T.cps.toList.length := by simp [Str.length]
  by_cases q : p < T.length
  · have q2 : p < T.cps.toList.length := by rw [← el]; exact q
    have e : rst T p = T.cps.toList[p] :: rst T (p + 1) := List.drop_eq_getElem_cons q2
    have e2 : T.cps[p]? = some T.cps.toList[p] := by rw [← Array.getElem?_toList, List.getElem?_eq_getElem q2]
    simp [ir_r_sign, runB, exSs, exS, evE, evEs, R.bind, R.to, R.of, F.bind, toD, toDs, asDs, binD, cmpD, ixD, toSlD, fromSlD, biD, isiD, dmD, tixD, noX, walked, seqD, boolsD, strsD, unpD, setAll, wipeG, pickD, stillE, List.lookup, fdb, Fn.cls, sh_int, sh_bool, sh_none, eqv_int, eqv_str, lim1, lim2, lim3, lim4, lim5, lim6, lim7, lim8, lim9, lim10, lim11, lim12, adv_at h, rdO, q, hl, e, hd, e2]
  · have e : rst T p = [] := List.drop_eq_nil_of_le (by rw [← el]; omega)
    simp [ir_r_sign, runB, exSs, exS, evE, evEs, R.bind, R.to, R.of, F.bind, toD, toDs, asDs, binD, cmpD, ixD, toSlD, fromSlD, biD, isiD, dmD, tixD, noX, walked, seqD, boolsD, strsD, unpD, setAll, wipeG, pickD, stillE, List.lookup, fdb, Fn.cls, sh_int, sh_bool, sh_none, eqv_int, eqv_str, lim1, lim2, lim3, lim4, lim5, lim6, lim7, lim8, lim9, lim10, lim11, lim12, adv_at h, rdO, q, hl, e, hd]
theorem c_goes (h : r < M.length) : call (n + 1) .r_goes_on [.o r, .d (.bool true)] (adv M r T p) = .ok (.d .none) (adv M r T (p + 1)) := by
  show runB (call n) ir_r_goes_on _ _ = _
  have e : ((p : Int) + 1) = ((p + 1 : Nat) : Int) := rfl
  simp [ir_r_goes_on, runB, exSs, exS, evE, evEs, R.bind, R.to, R.of, F.bind, toD, toDs, asDs, binD, cmpD, ixD, toSlD, fromSlD, biD, isiD, dmD, tixD, noX, walked, seqD, boolsD, strsD, unpD, setAll, wipeG, pickD, stillE, List.lookup, fdb, Fn.cls, sh_int, sh_bool, sh_none, eqv_int, eqv_str, lim1, lim2, lim3, lim4, lim5, lim6, lim7, lim8, lim9, lim10, lim11, lim12, adv_at h, rdO, putFd]
  exact adv_set (T := T) (q := p + 1)
/-- a text as it is read -/
structure OkT (T : Str) : Prop where
  len : T.length ≤ 20000
  ch : ∀ c ∈ T.cps.toList, c < 256
theorem OkT.lim (h : OkT T) : T.length ≤ lim := Nat.le_trans h.len (by decide)
theorem OkT.hd (h : OkT T) : hd (rst T p) < 256 := by
  cases e : rst T p with
  | nil => decide
  | cons c r => exact h.ch c (List.mem_of_mem_drop (by show c ∈ rst T p; rw [e]; exact List.mem_cons_self))
theorem sh1 {c : Nat} (h : c < 256) : SeqAt.shaped (.str ⟨#[c]⟩) = true := by
  simp [SeqAt.shaped, PyData.canLay0, PyData.strOk, PyData.depth]
  omega
def ch1 (c : Nat) : PyData := .str ⟨#[c]⟩
def B_marks : Ss := .cons (.ex (.meth .r_goes_on (.v 0) (.cons (.cmp .eq (.meth .r_sign (.v 0) .nil) (.v 2)) .nil))) .nil
theorem ir_marks : ir_r_marks = ⟨2, 1, .cons (.forN 2 (.v 1) B_marks) .nil, false⟩ := rfl
theorem marks_loop (h : r < M.length) (ok : OkT T) {s : Val} : ∀ (cs : List Nat) (p : Nat) (x : Option Val) (y : List Nat), rst T p = cs ++ y → (∀ c ∈ cs, c < 256) →
    ∃ x', forL (fun x G => some (G.set 2 (some (.d x)))) (fun G M => exSs (call (n + 1)) B_marks G M) (cs.map ch1) [some (.o r), some s, x] (adv M r T p) = .nx [some (.o r), some s, x'] (adv M r T (p + cs.length))
  | [], p, x, y, _, _ => ⟨x, by simp [forL]⟩
  | c :: cs, p, x, y, e, hc => by
    obtain ⟨x', ih⟩ := marks_loop h ok cs (p + 1) (some (.d (ch1 c))) y (rst_suc e) fun d hd => hc d (List.mem_cons_of_mem _ hd)
    refine ⟨x', ?_⟩
    have e1 : hd (rst T p) = c := by rw [e]; rfl
    have l : p + (c :: cs).length = p + 1 + cs.length := by rw [List.length_cons]; omega
    rw [l, ← ih]
    have one : exSs (call (n + 1)) B_marks [some (.o r), some s, some (.d (ch1 c))] (adv M r T p) = .nx [some (.o r), some s, some (.d (ch1 c))] (adv M r T (p + 1)) := by
      simp [B_marks, runB, exSs, exS, evE, evEs, R.bind, R.to, R.of, F.bind, toD, toDs, asDs, binD, cmpD, ixD, toSlD, fromSlD, biD, isiD, dmD, tixD, noX, walked, seqD, boolsD, strsD, unpD, setAll, wipeG, pickD, stillE, List.lookup, fdb, Fn.cls, sh_int, sh_bool, sh_none, eqv_int, eqv_str, lim1, lim2, lim3, lim4, lim5, lim6, lim7, lim8, lim9, lim10, lim11, lim12, adv_at h, rdO, c_sign h ok.lim, e1, ch1, sh1 (hc c List.mem_cons_self), c_goes h]
    simp [forL, one, F.bind]
theorem c_marks (h : r < M.length) (ok : OkT T) {s : Str} {y : List Nat} (e : rst T p = s.cps.toList ++ y) (hc : ∀ c ∈ s.cps.toList, c < 256) : call (n + 2) .r_marks [.o r, .d (.str s)] (adv M r T p) = .ok (.d .none) (adv M r T (p + s.length)) := by
  show runB (call (n + 1)) ir_r_marks _ _ = _
  obtain ⟨x', ih⟩ := marks_loop (n := n) h ok (s := .d (.str s)) s.cps.toList p none y e hc
  have el : s.length = s.cps.toList.length := by simp [Str.length]
  have f : (s.cps.toList.map fun c => PyData.str ⟨#[c]⟩) = s.cps.toList.map ch1 := rfl
  rw [el, ir_marks]
  simp only [runB, exSs, exS, evE, evEs, R.bind, R.to, R.of, F.bind, toD, toDs, asDs, binD, cmpD, ixD, toSlD, fromSlD, biD, isiD, dmD, tixD, noX, walked, seqD, boolsD, strsD, unpD, setAll, wipeG, pickD, stillE, List.lookup, fdb, Fn.cls, sh_int, sh_bool, sh_none, eqv_int, eqv_str, lim1, lim2, lim3, lim4, lim5, lim6, lim7, lim8, lim9, lim10, lim11, lim12, List.length_cons, List.length_nil, List.map_cons, List.map_nil, List.replicate_succ, List.replicate_zero, List.cons_append, List.nil_append, List.getElem?_cons_succ, List.getElem?_cons_zero, if_true, f, ih, Bool.false_eq_true, if_false]
theorem c_ends (h : r < M.length) (hl : T.length ≤ lim) (e : rst T p = []) : call (n + 1) .r_ends [.o r] (adv M r T p) = .ok (.d .none) (adv M r T p) := by
  show runB (call n) ir_r_ends _ _ = _
  have el : T.length = T.cps.toList.length := by simp [Str.length]
  have q : ¬ p < T.length := by
    have := List.drop_eq_nil_iff.mp e
    omega
  simp [ir_r_ends, runB, exSs, exS, evE, evEs, R.bind, R.to, R.of, F.bind, toD, toDs, asDs, binD, cmpD, ixD, toSlD, fromSlD, biD, isiD, dmD, tixD, noX, walked, seqD, boolsD, strsD, unpD, setAll, wipeG, pickD, stillE, List.lookup, fdb, Fn.cls, sh_int, sh_bool, sh_none, eqv_int, eqv_str, lim1, lim2, lim3, lim4, lim5, lim6, lim7, lim8, lim9, lim10, lim11, lim12, adv_at h, rdO, q, hl]
end
end K75

set_option Elab.async false
set_option linter.all false
set_option autoImplicit false
set_option maxRecDepth 100000
set_option maxHeartbeats 1000000
/-! Mathematics, part 3: words and numbers read. -/
namespace K75
open PySem
section
variable {n r p : Nat} {M : Sto} {T : Str}
/-- a text of these signs -/
abbrev tx (l : List Nat) : Str := ⟨l.toArray⟩
theorem tx_len (l : List Nat) : (tx l).length = l.length := by simp [Str.length]
theorem tx_add (a b : List Nat) : tx a ++ tx b = tx (a ++ b) := by
  show (⟨(tx a).cps ++ (tx b).cps⟩ : Str) = _
  simp
theorem tx_one (a : List Nat) (c : Nat) : tx a ++ (⟨#[c]⟩ : Str) = tx (a ++ [c]) := tx_add a [c]
/-! ### one of several words -/
def C_one : E := .bi .any (.cons (.comp 3 (.v 1) (.dm .startswith (.v 3) (.bin .add (.v 2) (.meth .r_sign (.v 0) .nil)))) .nil)
def B_one : Ss := .cons (.set 2 (.bin .add (.v 2) (.meth .r_sign (.v 0) .nil))) (.cons (.ex (.meth .r_goes_on (.v 0) (.cons (.k (.bool true)) .nil))) .nil)
theorem ir_one : ir_r_one_of = ⟨2, 2, .cons (.set 2 (.k (.str ⟨#[]⟩))) (.cons (.whl C_one B_one) (.cons (.ite (.cmp .notIn (.v 2) (.v 1)) (.cons .never .nil) .nil) (.cons (.ret (.v 2)) .nil))), false⟩ := rfl
theorem one_cond (h : r < M.length) (ok : OkT T) {W : List Str} {f : List Nat} {x : Option Val} (hW : W.length ≤ lim) (hf : f.length < 1000) :
    evE (call (n + 1)) C_one [some (.o r), some (.d (.tuple (W.map .str))), some (.d (.str (tx f))), x] (adv M r T p) = .ok (.d (.bool (W.any fun w => Txt.startswith w (tx (f ++ [hd (rst T p)]))))) (adv M r T p) := by
  have l : (tx f).length + 1 ≤ lim := by rw [tx_len]; unfold lim; omega
  have l1 : (⟨#[hd (rst T p)]⟩ : Str).length = 1 := rfl
  have q := ev_any (Φ := call (n + 1)) (M := adv M r T p) (G := [some (.o r), some (.d (.tuple (W.map .str))), some (.d (.str (tx f))), x]) (it := .v 1) (i := 3) (elt := .dm .startswith (.v 3) (.bin .add (.v 2) (.meth .r_sign (.v 0) .nil))) (d := .tuple (W.map .str))
    (p := fun d => match d with | .str w => Txt.startswith w (tx (f ++ [hd (rst T p)])) | _ => false) (by simp [evE]) rfl (by simpa using hW) fun d hd' => by
      obtain ⟨w, _, rfl⟩ := List.mem_map.mp hd'
      simp [runB, exSs, exS, evE, evEs, R.bind, R.to, R.of, F.bind, toD, toDs, asDs, binD, cmpD, ixD, toSlD, fromSlD, biD, isiD, dmD, tixD, noX, walked, seqD, boolsD, strsD, unpD, setAll, wipeG, pickD, stillE, List.lookup, fdb, Fn.cls, sh_int, sh_bool, sh_none, eqv_int, eqv_str, lim1, lim2, lim3, lim4, lim5, lim6, lim7, lim8, lim9, lim10, lim11, lim12, adv_at h, rdO, c_sign h ok.lim, l, l1, tx_one]
  unfold C_one
  rw [q, List.any_map]
  rfl
theorem one_step (h : r < M.length) (ok : OkT T) {a : Val} {f : List Nat} {x : Option Val} (hf : f.length < 1000) :
    exSs (call (n + 1)) B_one [some (.o r), some a, some (.d (.str (tx f))), x] (adv M r T p) = .nx [some (.o r), some a, some (.d (.str (tx (f ++ [hd (rst T p)])))), x] (adv M r T (p + 1)) := by
  have l : (tx f).length + 1 ≤ lim := by rw [tx_len]; unfold lim; omega
  have l1 : (⟨#[hd (rst T p)]⟩ : Str).length = 1 := rfl
  simp [B_one, runB, exSs, exS, evE, evEs, R.bind, R.to, R.of, F.bind, toD, toDs, asDs, binD, cmpD, ixD, toSlD, fromSlD, biD, isiD, dmD, tixD, noX, walked, seqD, boolsD, strsD, unpD, setAll, wipeG, pickD, stillE, List.lookup, fdb, Fn.cls, sh_int, sh_bool, sh_none, eqv_int, eqv_str, lim1, lim2, lim3, lim4, lim5, lim6, lim7, lim8, lim9, lim10, lim11, lim12, adv_at h, rdO, c_sign h ok.lim, l, l1, tx_one, c_goes h]
theorem one_loop (h : r < M.length) (ok : OkT T) {W : List Str} (hW : W.length ≤ lim) {y : List Nat} : ∀ (rem f : List Nat) (p k : Nat), rem.length < k → rst T p = rem ++ y → (f ++ rem).length < 1000 →
    (∀ i, i < rem.length → W.any (fun w => Txt.startswith w (tx (f ++ rem.take (i + 1)))) = true) → W.any (fun w => Txt.startswith w (tx (f ++ rem ++ [hd y]))) = false →
    loopW (fun G M => evE (call (n + 1)) C_one G M) (fun G M => exSs (call (n + 1)) B_one G M) k [some (.o r), some (.d (.tuple (W.map .str))), some (.d (.str (tx f))), none] (adv M r T p) =
      .nx [some (.o r), some (.d (.tuple (W.map .str))), some (.d (.str (tx (f ++ rem)))), none] (adv M r T (p + rem.length))
  | [], f, p, k + 1, _, e, l, _, hs => by
    have e1 : rst T p = y := e
    rw [List.append_nil] at hs l
    simp [loopW, one_cond h ok hW l, e1, hs, R.to]
  | c :: rem, f, p, k + 1, lk, e, l, hg, hs => by
    have e1 : hd (rst T p) = c := by rw [e]; rfl
    have l0 : f.length < 1000 := by rw [List.length_append] at l; omega
    have g0 := hg 0 (by simp)
    simp only [List.take_succ_cons, List.take_zero] at g0
    have ih := one_loop h ok hW (y := y) rem (f ++ [c]) (p + 1) k (by rw [List.length_cons] at lk; omega) (rst_suc e) (by simpa using l) (fun i hi => by
      have z := hg (i + 1) (by rw [List.length_cons]; omega)
      simpa [List.append_assoc] using z) (by simpa [List.append_assoc] using hs)
    have l2 : p + (c :: rem).length = p + 1 + rem.length := by rw [List.length_cons]; omega
    have e2 : f ++ c :: rem = f ++ [c] ++ rem := by simp
    rw [l2, e2, ← ih]
    simp [loopW, one_cond h ok hW l0, e1, g0, R.to, one_step h ok l0, F.bind]
theorem hasIn_str {w : Str} {W : List Str} : hasIn (.str w) (W.map .str) = decide (w ∈ W) := by
  unfold hasIn
  rw [List.any_map]
  induction W with
  | nil => rfl
  | cons a r ih =>
    rw [List.any_cons, ih]
    by_cases e : a = w
    · subst e; simp [PyData.eqv]
    · have e2 : ¬ w = a := fun z => e z.symm
      simp [PyData.eqv, e, e2]
/-- a word of several, read -/
theorem c_one_of (h : r < M.length) (ok : OkT T) {W : List Str} {w y : List Nat} (e : rst T p = w ++ y) (hl : W.length ≤ 1000 ∧ w.length < 900) (hs : SeqAt.shaped (.tuple (W.map .str)) = true ∧ SeqAt.shaped (.str (tx w)) = true) (hm : tx w ∈ W)
    (hg : ∀ i, i < w.length → W.any (fun v => Txt.startswith v (tx (w.take (i + 1)))) = true) (hy : W.any (fun v => Txt.startswith v (tx (w ++ [hd y]))) = false) :
    call (n + 2) .r_one_of [.o r, .d (.tuple (W.map .str))] (adv M r T p) = .ok (.d (.str (tx w))) (adv M r T (p + w.length)) := by
  show runB (call (n + 1)) ir_r_one_of _ _ = _
  have go := one_loop (n := n) h ok (W := W) (Nat.le_trans hl.1 (by decide)) (y := y) w [] p turns (by unfold turns; omega) e (by simpa using (by omega : w.length < 1000)) (by simpa using hg) (by simpa using hy)
  rw [List.nil_append] at go
  have e0 : (⟨#[]⟩ : Str) = tx [] := rfl
  rw [ir_one]
  simp [runB, exSs, exS, evE, evEs, R.bind, R.to, R.of, F.bind, toD, toDs, asDs, binD, cmpD, ixD, toSlD, fromSlD, biD, isiD, dmD, tixD, noX, walked, seqD, boolsD, strsD, unpD, setAll, wipeG, pickD, stillE, List.lookup, fdb, Fn.cls, sh_int, sh_bool, sh_none, eqv_int, eqv_str, lim1, lim2, lim3, lim4, lim5, lim6, lim7, lim8, lim9, lim10, lim11, lim12, e0, go, hs.1, hs.2, hasIn_str, hm]
end
end K75

set_option Elab.async false
set_option linter.all false
set_option autoImplicit false
set_option maxRecDepth 100000
set_option maxHeartbeats 1000000
/-! Mathematics, part 4: words and numbers read. -/
namespace K75
open PySem
section
variable {n r p : Nat} {M : Sto} {T : Str}
def signs : List Nat := ([97, 98, 99, 100, 101, 102, 103, 104, 105, 106, 107, 108, 109, 110, 111, 112, 113, 114, 115, 116, 117, 118, 119, 120, 121, 122, 48, 49, 50, 51, 52, 53, 54, 55, 56, 57] : List Nat)
def digits : List Nat := ([48, 49, 50, 51, 52, 53, 54, 55, 56, 57] : List Nat)
/-! ### a word -/
def C_word : E := .and (.cmp .isIn (.meth .r_sign (.v 0) .nil) (.g (⟨#[83, 73, 71, 78, 83, 95, 118, 97, 108, 117, 101, 115]⟩ : Str) (.str (tx signs)))) (.cmp .lt (.bi .len (.cons (.v 1) .nil)) (.g (⟨#[76, 79, 78, 71, 69, 83, 84]⟩ : Str) (.int 12)))
def B_word : Ss := .cons (.set 1 (.bin .add (.v 1) (.meth .r_sign (.v 0) .nil))) (.cons (.ex (.meth .r_goes_on (.v 0) (.cons (.k (.bool true)) .nil))) .nil)
theorem ir_word : ir_r_word = ⟨1, 1, .cons (.set 1 (.k (.str ⟨#[]⟩))) (.cons (.whl C_word B_word) (.cons (.ite (.cmp .eq (.v 1) (.k (.str ⟨#[]⟩))) (.cons .never .nil) .nil) (.cons (.ret (.v 1)) .nil))), false⟩ := rfl
theorem word_cond (h : r < M.length) (ok : OkT T) {f : List Nat} (hf : f.length < 1000) : evE (call (n + 1)) C_word [some (.o r), some (.d (.str (tx f)))] (adv M r T p) = .ok (.d (.bool (decide (hd (rst T p) ∈ signs) && decide (f.length < 12)))) (adv M r T p) := by
  have l : f.length ≤ lim := by unfold lim; omega
  by_cases q : hd (rst T p) ∈ signs
  · by_cases z : f.length < 12 <;> simp [C_word, runB, exSs, exS, evE, evEs, R.bind, R.to, R.of, F.bind, toD, toDs, asDs, binD, cmpD, ixD, toSlD, fromSlD, biD, isiD, dmD, tixD, noX, walked, seqD, boolsD, strsD, unpD, setAll, wipeG, pickD, stillE, List.lookup, fdb, Fn.cls, sh_int, sh_bool, sh_none, eqv_int, eqv_str, lim1, lim2, lim3, lim4, lim5, lim6, lim7, lim8, lim9, lim10, lim11, lim12, adv_at h, rdO, c_sign h ok.lim, l, q, tx_len, z] <;> omega
  · simp [C_word, runB, exSs, exS, evE, evEs, R.bind, R.to, R.of, F.bind, toD, toDs, asDs, binD, cmpD, ixD, toSlD, fromSlD, biD, isiD, dmD, tixD, noX, walked, seqD, boolsD, strsD, unpD, setAll, wipeG, pickD, stillE, List.lookup, fdb, Fn.cls, sh_int, sh_bool, sh_none, eqv_int, eqv_str, lim1, lim2, lim3, lim4, lim5, lim6, lim7, lim8, lim9, lim10, lim11, lim12, adv_at h, rdO, c_sign h ok.lim, l, q]
theorem word_step (h : r < M.length) (ok : OkT T) {f : List Nat} (hf : f.length < 1000) : exSs (call (n + 1)) B_word [some (.o r), some (.d (.str (tx f)))] (adv M r T p) = .nx [some (.o r), some (.d (.str (tx (f ++ [hd (rst T p)]))))] (adv M r T (p + 1)) := by
  have l : (tx f).length + 1 ≤ lim := by rw [tx_len]; unfold lim; omega
  have l1 : (⟨#[hd (rst T p)]⟩ : Str).length = 1 := rfl
  simp [B_word, runB, exSs, exS, evE, evEs, R.bind, R.to, R.of, F.bind, toD, toDs, asDs, binD, cmpD, ixD, toSlD, fromSlD, biD, isiD, dmD, tixD, noX, walked, seqD, boolsD, strsD, unpD, setAll, wipeG, pickD, stillE, List.lookup, fdb, Fn.cls, sh_int, sh_bool, sh_none, eqv_int, eqv_str, lim1, lim2, lim3, lim4, lim5, lim6, lim7, lim8, lim9, lim10, lim11, lim12, adv_at h, rdO, c_sign h ok.lim, l, l1, tx_one, c_goes h]
theorem word_loop (h : r < M.length) (ok : OkT T) {y : List Nat} (hy : hd y ∉ signs) : ∀ (rem f : List Nat) (p k : Nat), rem.length < k → rst T p = rem ++ y → (f ++ rem).length ≤ 12 → (∀ c ∈ rem, c ∈ signs) →
    loopW (fun G M => evE (call (n + 1)) C_word G M) (fun G M => exSs (call (n + 1)) B_word G M) k [some (.o r), some (.d (.str (tx f)))] (adv M r T p) = .nx [some (.o r), some (.d (.str (tx (f ++ rem))))] (adv M r T (p + rem.length))
  | [], f, p, k + 1, _, e, l, _ => by
    have e1 : rst T p = y := e
    rw [List.append_nil] at l
    simp [loopW, word_cond h ok (f := f) (by omega), e1, hy, R.to]
  | c :: rem, f, p, k + 1, lk, e, l, hs => by
    have e1 : hd (rst T p) = c := by rw [e]; rfl
    have l0 : f.length < 12 := by simp at l; omega
    have ih := word_loop h ok (y := y) hy rem (f ++ [c]) (p + 1) k (by rw [List.length_cons] at lk; omega) (rst_suc e) (by simpa using l) fun d hd' => hs d (List.mem_cons_of_mem _ hd')
    have l2 : p + (c :: rem).length = p + 1 + rem.length := by rw [List.length_cons]; omega
    have e2 : f ++ c :: rem = f ++ [c] ++ rem := by simp
    rw [l2, e2, ← ih]
    simp [loopW, word_cond h ok (f := f) (by omega), e1, hs c List.mem_cons_self, l0, R.to, word_step h ok (f := f) (by omega), F.bind]
theorem c_word (h : r < M.length) (ok : OkT T) {w y : List Nat} (e : rst T p = w ++ y) (hl : w.length ≤ 12) (hn : w ≠ []) (hs : ∀ c ∈ w, c ∈ signs) (hy : hd y ∉ signs) : call (n + 2) .r_word [.o r] (adv M r T p) = .ok (.d (.str (tx w))) (adv M r T (p + w.length)) := by
  show runB (call (n + 1)) ir_r_word _ _ = _
  have go := word_loop (n := n) h ok hy w [] p turns (by unfold turns; omega) e (by simpa using hl) hs
  rw [List.nil_append] at go
  have e0 : (⟨#[]⟩ : Str) = tx [] := rfl
  have s0 : SeqAt.shaped (.str (tx [])) = true := by decide +kernel
  have small : ∀ c ∈ signs, c < 256 := by decide
  have s1 : SeqAt.shaped (.str (tx w)) = true := by
    simp [SeqAt.shaped, PyData.canLay0, PyData.strOk, PyData.depth]
    intro c hc
    have := small _ (hs c hc)
    omega
  rw [ir_word]
  simp only [e0]
  simp [runB, exSs, exS, evE, evEs, R.bind, R.to, R.of, F.bind, toD, toDs, asDs, binD, cmpD, ixD, toSlD, fromSlD, biD, isiD, dmD, tixD, noX, walked, seqD, boolsD, strsD, unpD, setAll, wipeG, pickD, stillE, List.lookup, fdb, Fn.cls, sh_int, sh_bool, sh_none, eqv_int, eqv_str, lim1, lim2, lim3, lim4, lim5, lim6, lim7, lim8, lim9, lim10, lim11, lim12, go, s0, s1, hn]
/-! ### a number -/
def B_reach : Ss := .cons (.ite (.cmp .ge (.v 4) (.v 1)) (.cons (.ret (.k (.bool true))) .nil) .nil) (.cons (.par 3 4 (.bin .mul (.k (.int 10)) (.v 3)) (.bin .add (.bin .mul (.k (.int 10)) (.v 4)) (.k (.int 9)))) .nil)
def C_reach : E := .cmp .le (.v 3) (.v 2)
theorem ir_reach : ir_can_reach = ⟨3, 2, .cons (.ite (.cmp .eq (.v 0) (.k (.int 0))) (.cons (.ret (.cmp .le (.v 1) (.k (.int 0)))) .nil) .nil) (.cons (.par 3 4 (.v 0) (.v 0)) (.cons (.whl C_reach B_reach) (.cons (.ret (.k (.bool false))) .nil))), false⟩ := rfl
theorem c_can_reach (i b : Int) (h0 : 0 ≤ i) (h1 : i ≤ b) : call (n + 1) .can_reach [.d (.int i), .d (.int 0), .d (.int b)] M = .ok (.d (.bool true)) M := by
  show runB (call n) ir_can_reach _ _ = _
  rw [ir_reach]
  by_cases q : i = 0
  · subst q
    simp [runB, exSs, exS, evE, evEs, R.bind, R.to, R.of, F.bind, toD, toDs, asDs, binD, cmpD, ixD, toSlD, fromSlD, biD, isiD, dmD, tixD, noX, walked, seqD, boolsD, strsD, unpD, setAll, wipeG, pickD, stillE, List.lookup, fdb, Fn.cls, sh_int, sh_bool, sh_none, eqv_int, eqv_str, lim1, lim2, lim3, lim4, lim5, lim6, lim7, lim8, lim9, lim10, lim11, lim12]
  · have go : loopW (fun G M => evE (call n) C_reach G M) (fun G M => exSs (call n) B_reach G M) turns [some (.d (.int i)), some (.d (.int 0)), some (.d (.int b)), some (.d (.int i)), some (.d (.int i))] M = .ret (.d (.bool true)) M := by
      refine loopW_ret (k := 999) (M1 := M) ?_ ?_
      · simp [C_reach, runB, exSs, exS, evE, evEs, R.bind, R.to, R.of, F.bind, toD, toDs, asDs, binD, cmpD, ixD, toSlD, fromSlD, biD, isiD, dmD, tixD, noX, walked, seqD, boolsD, strsD, unpD, setAll, wipeG, pickD, stillE, List.lookup, fdb, Fn.cls, sh_int, sh_bool, sh_none, eqv_int, eqv_str, lim1, lim2, lim3, lim4, lim5, lim6, lim7, lim8, lim9, lim10, lim11, lim12, h1]
      · simp [B_reach, runB, exSs, exS, evE, evEs, R.bind, R.to, R.of, F.bind, toD, toDs, asDs, binD, cmpD, ixD, toSlD, fromSlD, biD, isiD, dmD, tixD, noX, walked, seqD, boolsD, strsD, unpD, setAll, wipeG, pickD, stillE, List.lookup, fdb, Fn.cls, sh_int, sh_bool, sh_none, eqv_int, eqv_str, lim1, lim2, lim3, lim4, lim5, lim6, lim7, lim8, lim9, lim10, lim11, lim12, h0]
    simp [runB, exSs, exS, evE, evEs, R.bind, R.to, R.of, F.bind, toD, toDs, asDs, binD, cmpD, ixD, toSlD, fromSlD, biD, isiD, dmD, tixD, noX, walked, seqD, boolsD, strsD, unpD, setAll, wipeG, pickD, stillE, List.lookup, fdb, Fn.cls, sh_int, sh_bool, sh_none, eqv_int, eqv_str, lim1, lim2, lim3, lim4, lim5, lim6, lim7, lim8, lim9, lim10, lim11, lim12, q, go]
/-- the value of signs -/
def valL (l : List Nat) : Int := l.foldl (fun (a : Int) (c : Nat) => 10 * a + ((c : Int) - 48)) 0
theorem valL_add (l : List Nat) (c : Nat) : valL (l ++ [c]) = 10 * valL l + ((c : Int) - 48) := by simp [valL]
theorem valL_nil : valL [] = 0 := rfl
def C_num : E := .cmp .isIn (.meth .r_sign (.v 0) .nil) (.g (⟨#[68, 73, 71, 73, 84, 83]⟩ : Str) (.str (tx digits)))
def B_num : Ss := .cons (.set 5 (.bin .add (.bin .mul (.k (.int 10)) (.v 3)) (.bi .int (.cons (.meth .r_sign (.v 0) .nil) .nil)))) (.cons (.ex (.meth .r_goes_on (.v 0) (.cons (.and (.or (.cmp .gt (.v 3) (.k (.int 0))) (.cmp .eq (.fld (.v 0) .place) (.v 4))) (.call .can_reach (.cons (.v 5) (.cons (.v 1) (.cons (.v 2) .nil))))) .nil))) (.cons (.set 3 (.v 5)) .nil))
theorem ir_number : ir_r_number = ⟨3, 3, .cons (.set 3 (.k (.int 0))) (.cons (.set 4 (.fld (.v 0) .place)) (.cons (.whl C_num B_num) (.cons (.ite (.or (.cmp .eq (.fld (.v 0) .place) (.v 4)) (.cmp .lt (.v 3) (.v 1))) (.cons .never .nil) .nil) (.cons (.ret (.v 3)) .nil)))), false⟩ := rfl
theorem num_cond (h : r < M.length) (ok : OkT T) {a b c d e : Option Val} : evE (call (n + 1)) C_num [some (.o r), a, b, c, d, e] (adv M r T p) = .ok (.d (.bool (decide (hd (rst T p) ∈ digits)))) (adv M r T p) := by
  by_cases q : hd (rst T p) ∈ digits <;> simp [C_num, runB, exSs, exS, evE, evEs, R.bind, R.to, R.of, F.bind, toD, toDs, asDs, binD, cmpD, ixD, toSlD, fromSlD, biD, isiD, dmD, tixD, noX, walked, seqD, boolsD, strsD, unpD, setAll, wipeG, pickD, stillE, List.lookup, fdb, Fn.cls, sh_int, sh_bool, sh_none, eqv_int, eqv_str, lim1, lim2, lim3, lim4, lim5, lim6, lim7, lim8, lim9, lim10, lim11, lim12, adv_at h, rdO, c_sign h ok.lim, q]
theorem num_step (h : r < M.length) (ok : OkT T) {i b : Int} {q : Nat} {x : Option Val} (hc : 48 ≤ hd (rst T p) ∧ hd (rst T p) ≤ 57) (hi : 0 < i ∨ p = q) (h0 : 0 ≤ i) (hb : 10 * i + ((hd (rst T p) : Int) - 48) ≤ b) :
    exSs (call (n + 1)) B_num [some (.o r), some (.d (.int 0)), some (.d (.int b)), some (.d (.int i)), some (.d (.int q)), x] (adv M r T p) =
      .nx [some (.o r), some (.d (.int 0)), some (.d (.int b)), some (.d (.int (10 * i + ((hd (rst T p) : Int) - 48)))), some (.d (.int q)), some (.d (.int (10 * i + ((hd (rst T p) : Int) - 48))))] (adv M r T (p + 1)) := by
  have cr := c_can_reach (n := n) (M := adv M r T p) (10 * i + ((hd (rst T p) : Int) - 48)) b (by omega) hb
  by_cases z : 0 < i
  · simp [B_num, runB, exSs, exS, evE, evEs, R.bind, R.to, R.of, F.bind, toD, toDs, asDs, binD, cmpD, ixD, toSlD, fromSlD, biD, isiD, dmD, tixD, noX, walked, seqD, boolsD, strsD, unpD, setAll, wipeG, pickD, stillE, List.lookup, fdb, Fn.cls, sh_int, sh_bool, sh_none, eqv_int, eqv_str, lim1, lim2, lim3, lim4, lim5, lim6, lim7, lim8, lim9, lim10, lim11, lim12, adv_at h, rdO, c_sign h ok.lim, hc, c_goes h, z, cr]
  · have e : p = q := hi.resolve_left z
    subst e
    simp [B_num, runB, exSs, exS, evE, evEs, R.bind, R.to, R.of, F.bind, toD, toDs, asDs, binD, cmpD, ixD, toSlD, fromSlD, biD, isiD, dmD, tixD, noX, walked, seqD, boolsD, strsD, unpD, setAll, wipeG, pickD, stillE, List.lookup, fdb, Fn.cls, sh_int, sh_bool, sh_none, eqv_int, eqv_str, lim1, lim2, lim3, lim4, lim5, lim6, lim7, lim8, lim9, lim10, lim11, lim12, adv_at h, rdO, c_sign h ok.lim, hc, c_goes h, z, cr]
theorem num_loop (h : r < M.length) (ok : OkT T) {b : Int} {q : Nat} {y : List Nat} (hy : hd y ∉ digits) : ∀ (rem f : List Nat) (p k : Nat) (x : Option Val), rem.length < k → rst T p = rem ++ y → p = q + f.length → (∀ c ∈ rem, 48 ≤ c ∧ c ≤ 57) → 0 ≤ valL f →
    (∀ i, i < rem.length → (0 < valL (f ++ rem.take i) ∨ (f = [] ∧ i = 0)) ∧ valL (f ++ rem.take (i + 1)) ≤ b) →
    ∃ x', loopW (fun G M => evE (call (n + 1)) C_num G M) (fun G M => exSs (call (n + 1)) B_num G M) k [some (.o r), some (.d (.int 0)), some (.d (.int b)), some (.d (.int (valL f))), some (.d (.int q)), x] (adv M r T p) =
      .nx [some (.o r), some (.d (.int 0)), some (.d (.int b)), some (.d (.int (valL (f ++ rem)))), some (.d (.int q)), x'] (adv M r T (p + rem.length))
  | [], f, p, k + 1, x, _, e, _, _, _, _ => by
    have e1 : rst T p = y := e
    refine ⟨x, ?_⟩
    rw [loopW_end (M1 := adv M r T p) (by rw [num_cond h ok, e1]; simp [hy])]
    simp
  | c :: rem, f, p, k + 1, x, lk, e, ep, hs, h0, hg => by
    have e1 : hd (rst T p) = c := by rw [e]; rfl
    have dg : ∀ c, 48 ≤ c ∧ c ≤ 57 → c ∈ digits := by
      intro c hc
      have : c = 48 ∨ c = 49 ∨ c = 50 ∨ c = 51 ∨ c = 52 ∨ c = 53 ∨ c = 54 ∨ c = 55 ∨ c = 56 ∨ c = 57 := by omega
      rcases this with z | z | z | z | z | z | z | z | z | z <;> subst z <;> decide
    have hc := hs c List.mem_cons_self
    have g0 := hg 0 (by simp)
    simp only [List.take_succ_cons, List.take_zero, List.append_nil, valL_add, Nat.zero_add] at g0
    have st := num_step (n := n) h ok (p := p) (i := valL f) (b := b) (q := q) (x := x) (by rw [e1]; exact hc) (by
      rcases g0.1 with z | ⟨z, _⟩
      · exact .inl z
      · right; rw [ep, z]; rfl) h0 (by rw [e1]; exact g0.2)
    rw [e1, ← valL_add] at st
    obtain ⟨x', ih⟩ := num_loop h ok (b := b) (q := q) (y := y) hy rem (f ++ [c]) (p + 1) k (some (.d (.int (valL (f ++ [c]))))) (by rw [List.length_cons] at lk; omega) (rst_suc e) (by rw [ep, List.length_append]; rfl) (fun d hd' => hs d (List.mem_cons_of_mem _ hd'))
      (by rw [valL_add]; omega) (fun i hi => by
        have z := hg (i + 1) (by rw [List.length_cons]; omega)
        refine ⟨.inl ?_, by simpa [List.append_assoc] using z.2⟩
        rcases z.1 with z | ⟨_, z⟩
        · simpa [List.append_assoc] using z
        · omega)
    refine ⟨x', ?_⟩
    have l2 : p + (c :: rem).length = p + 1 + rem.length := by rw [List.length_cons]; omega
    have e2 : f ++ c :: rem = f ++ [c] ++ rem := by simp
    rw [l2, e2, ← ih]
    exact loopW_nx (M1 := adv M r T p) (by rw [num_cond h ok, e1]; simp [dg c hc]) st
theorem c_number (h : r < M.length) (ok : OkT T) {b : Int} {w y : List Nat} (e : rst T p = w ++ y) (hl : w.length < 900) (hn : w ≠ []) (hs : ∀ c ∈ w, 48 ≤ c ∧ c ≤ 57) (hy : hd y ∉ digits)
    (hg : ∀ i, i < w.length → (0 < valL (w.take i) ∨ i = 0) ∧ valL (w.take (i + 1)) ≤ b) (h0 : 0 ≤ valL w) :
    call (n + 2) .r_number [.o r, .d (.int 0), .d (.int b)] (adv M r T p) = .ok (.d (.int (valL w))) (adv M r T (p + w.length)) := by
  show runB (call (n + 1)) ir_r_number _ _ = _
  obtain ⟨x', go⟩ := num_loop (n := n) h ok (b := b) (q := p) (y := y) hy w [] p turns none (by unfold turns; omega) e (by simp) hs (by decide) (by simpa using hg)
  rw [List.nil_append, valL_nil] at go
  have h00 : ¬ valL w < 0 := by omega
  have ne : ¬ (p : Int) + (w.length : Int) = (p : Int) := by
    have : 0 < w.length := List.length_pos_iff.mpr hn
    omega
  rw [ir_number]
  simp [runB, exSs, exS, evE, evEs, R.bind, R.to, R.of, F.bind, toD, toDs, asDs, binD, cmpD, ixD, toSlD, fromSlD, biD, isiD, dmD, tixD, noX, walked, seqD, boolsD, strsD, unpD, setAll, wipeG, pickD, stillE, List.lookup, fdb, Fn.cls, sh_int, sh_bool, sh_none, eqv_int, eqv_str, lim1, lim2, lim3, lim4, lim5, lim6, lim7, lim8, lim9, lim10, lim11, lim12, adv_at h, rdO, go, ne, h00]
end
end K75

set_option Elab.async false
set_option linter.all false
set_option autoImplicit false
set_option maxRecDepth 100000
set_option maxHeartbeats 1000000
/-! Mathematics, part 5: names, several things, a list read. -/
namespace K75
open PySem
section
variable {n r p : Nat} {M : Sto} {T : Str}
theorem c_number_or (h : r < M.length) (ok : OkT T) {b : Int} {w y : List Nat} (e : rst T p = w ++ y) (hl : w.length < 900) (hn : w ≠ []) (hs : ∀ c ∈ w, 48 ≤ c ∧ c ≤ 57) (hy : hd y ∉ digits)
    (hg : ∀ i, i < w.length → (0 < valL (w.take i) ∨ i = 0) ∧ valL (w.take (i + 1)) ≤ b) (h0 : 0 ≤ valL w) :
    call (n + 3) .r_number_or_none [.o r, .d (.int b)] (adv M r T p) = .ok (.d (.int (valL w))) (adv M r T (p + w.length)) := by
  show runB (call (n + 2)) ir_r_number_or_none _ _ = _
  have hc : hd (rst T p) ≠ 45 := by
    rw [e]
    cases w with
    | nil => exact absurd rfl hn
    | cons c r =>
      have := hs c List.mem_cons_self
      show c ≠ 45
      omega
  have s := sh1 (ok.hd (p := p))
  simp [ir_r_number_or_none, runB, exSs, exS, evE, evEs, R.bind, R.to, R.of, F.bind, toD, toDs, asDs, binD, cmpD, ixD, toSlD, fromSlD, biD, isiD, dmD, tixD, noX, walked, seqD, boolsD, strsD, unpD, setAll, wipeG, pickD, stillE, List.lookup, fdb, Fn.cls, sh_int, sh_bool, sh_none, eqv_int, eqv_str, lim1, lim2, lim3, lim4, lim5, lim6, lim7, lim8, lim9, lim10, lim11, lim12, adv_at h, rdO, c_sign h ok.lim, hc, s, sh1, c_number h ok e hl hn hs hy hg h0]
theorem c_number_none (h : r < M.length) (ok : OkT T) {b : Int} {y : List Nat} (e : rst T p = 45 :: y) : call (n + 3) .r_number_or_none [.o r, .d (.int b)] (adv M r T p) = .ok (.d (.int (-1))) (adv M r T (p + 1)) := by
  show runB (call (n + 2)) ir_r_number_or_none _ _ = _
  have hc : hd (rst T p) = 45 := by rw [e]; rfl
  simp [ir_r_number_or_none, runB, exSs, exS, evE, evEs, R.bind, R.to, R.of, F.bind, toD, toDs, asDs, binD, cmpD, ixD, toSlD, fromSlD, biD, isiD, dmD, tixD, noX, walked, seqD, boolsD, strsD, unpD, setAll, wipeG, pickD, stillE, List.lookup, fdb, Fn.cls, sh_int, sh_bool, sh_none, eqv_int, eqv_str, lim1, lim2, lim3, lim4, lim5, lim6, lim7, lim8, lim9, lim10, lim11, lim12, adv_at h, rdO, c_sign h ok.lim, hc, sh1, c_goes h]
/-! ### a name -/
def C_words : E := .and (.cmp .eq (.meth .r_sign (.v 0) .nil) (.k (.str (⟨#[47]⟩ : Str)))) (.cmp .lt (.bi .len (.cons (.v 1) .nil)) (.g (⟨#[68, 69, 69, 80]⟩ : Str) (.int 4)))
def B_words : Ss := .cons (.ex (.meth .r_goes_on (.v 0) (.cons (.k (.bool true)) .nil))) (.cons (.set 1 (.bin .add (.v 1) (.tup (.cons (.meth .r_word (.v 0) .nil) .nil)))) .nil)
theorem ir_words : ir_r_words = ⟨1, 1, .cons (.set 1 (.tup (.cons (.meth .r_word (.v 0) .nil) .nil))) (.cons (.whl C_words B_words) (.cons (.ret (.v 1)) .nil)), false⟩ := rfl
/-- a word's signs -/
structure Wo (w : List Nat) : Prop where
  len : w.length ≤ 12
  ne : w ≠ []
  ch : ∀ c ∈ w, c ∈ signs
/-- what follows the first word of a name -/
def tailL : List (List Nat) → List Nat
  | [] => []
  | w :: r => 47 :: (w ++ tailL r)
theorem tail_hd {ws : List (List Nat)} {y : List Nat} (hy : hd y ∉ signs) : hd (tailL ws ++ y) ∉ signs := by
  cases ws with
  | nil => exact hy
  | cons w r => show 47 ∉ signs; decide
theorem words_loop (h : r < M.length) (ok : OkT T) {y : List Nat} (hy : hd y ∉ signs) (hy2 : hd y ≠ 47) : ∀ (ws : List (List Nat)) (f : List Str) (p k : Nat), ws.length < k → rst T p = tailL ws ++ y → f.length + ws.length ≤ 4 → (∀ w ∈ ws, Wo w) →
    loopW (fun G M => evE (call (n + 2)) C_words G M) (fun G M => exSs (call (n + 2)) B_words G M) k [some (.o r), some (.d (.tuple (f.map .str)))] (adv M r T p) = .nx [some (.o r), some (.d (.tuple ((f ++ ws.map tx).map .str)))] (adv M r T (p + (tailL ws).length))
  | [], f, p, k + 1, _, e, l, _ => by
    have e1 : rst T p = y := e
    have s := sh1 (ok.hd (p := p))
    rw [e1] at s
    rw [loopW_end (M1 := adv M r T p) (by simp [C_words, runB, exSs, exS, evE, evEs, R.bind, R.to, R.of, F.bind, toD, toDs, asDs, binD, cmpD, ixD, toSlD, fromSlD, biD, isiD, dmD, tixD, noX, walked, seqD, boolsD, strsD, unpD, setAll, wipeG, pickD, stillE, List.lookup, fdb, Fn.cls, sh_int, sh_bool, sh_none, eqv_int, eqv_str, lim1, lim2, lim3, lim4, lim5, lim6, lim7, lim8, lim9, lim10, lim11, lim12, adv_at h, rdO, c_sign h ok.lim, e1, hy2, s, sh1])]
    simp [tailL]
  | w :: ws, f, p, k + 1, lk, e, l, hw => by
    have e1 : hd (rst T p) = 47 := by rw [e]; rfl
    have e2 : rst T p = 47 :: (w ++ (tailL ws ++ y)) := by rw [e, tailL]; simp
    have w0 := hw w List.mem_cons_self
    have l0 : f.length < 4 := by rw [List.length_cons] at l; omega
    have l3 : f.length + 1 ≤ lim := by unfold lim; omega
    have cw := c_word (n := n) h ok (p := p + 1) (rst_suc e2) w0.len w0.ne w0.ch (tail_hd hy)
    have ih := words_loop h ok hy hy2 ws (f ++ [tx w]) (p + 1 + w.length) k (by rw [List.length_cons] at lk; omega) (rst_add _ (rst_suc e2) rfl) (by rw [List.length_append, List.length_cons, List.length_nil]; rw [List.length_cons] at l; omega) fun v hv => hw v (List.mem_cons_of_mem _ hv)
    have l2 : p + (tailL (w :: ws)).length = p + 1 + w.length + (tailL ws).length := by simp [tailL]; omega
    have e3 : f ++ (w :: ws).map tx = f ++ [tx w] ++ ws.map tx := by simp
    rw [l2, e3, ← ih]
    refine loopW_nx (M1 := adv M r T p) ?_ ?_
    · simp [C_words, runB, exSs, exS, evE, evEs, R.bind, R.to, R.of, F.bind, toD, toDs, asDs, binD, cmpD, ixD, toSlD, fromSlD, biD, isiD, dmD, tixD, noX, walked, seqD, boolsD, strsD, unpD, setAll, wipeG, pickD, stillE, List.lookup, fdb, Fn.cls, sh_int, sh_bool, sh_none, eqv_int, eqv_str, lim1, lim2, lim3, lim4, lim5, lim6, lim7, lim8, lim9, lim10, lim11, lim12, adv_at h, rdO, c_sign h ok.lim, e1, sh1]
      omega
    · simp [B_words, runB, exSs, exS, evE, evEs, R.bind, R.to, R.of, F.bind, toD, toDs, asDs, binD, cmpD, ixD, toSlD, fromSlD, biD, isiD, dmD, tixD, noX, walked, seqD, boolsD, strsD, unpD, setAll, wipeG, pickD, stillE, List.lookup, fdb, Fn.cls, sh_int, sh_bool, sh_none, eqv_int, eqv_str, lim1, lim2, lim3, lim4, lim5, lim6, lim7, lim8, lim9, lim10, lim11, lim12, adv_at h, rdO, c_goes h, cw, l3]
theorem c_words (h : r < M.length) (ok : OkT T) {w y : List Nat} {ws : List (List Nat)} (e : rst T p = w ++ (tailL ws ++ y)) (hy : hd y ∉ signs) (hy2 : hd y ≠ 47) (hl : ws.length ≤ 3) (hw : ∀ v ∈ w :: ws, Wo v) :
    call (n + 3) .r_words [.o r] (adv M r T p) = .ok (.d (.tuple ((w :: ws).map fun v => .str (tx v)))) (adv M r T (p + (w ++ tailL ws).length)) := by
  show runB (call (n + 2)) ir_r_words _ _ = _
  have w0 := hw w List.mem_cons_self
  have cw := c_word (n := n) h ok e w0.len w0.ne w0.ch (tail_hd hy)
  have go := words_loop (n := n) h ok hy hy2 ws [tx w] (p + w.length) turns (by unfold turns; omega) (rst_add _ e rfl) (by rw [List.length_singleton]; omega) fun v hv => hw v (List.mem_cons_of_mem _ hv)
  rw [ir_words]
  simp only [List.map_cons, List.map_nil] at go
  simp [runB, exSs, exS, evE, evEs, R.bind, R.to, R.of, F.bind, toD, toDs, asDs, binD, cmpD, ixD, toSlD, fromSlD, biD, isiD, dmD, tixD, noX, walked, seqD, boolsD, strsD, unpD, setAll, wipeG, pickD, stillE, List.lookup, fdb, Fn.cls, sh_int, sh_bool, sh_none, eqv_int, eqv_str, lim1, lim2, lim3, lim4, lim5, lim6, lim7, lim8, lim9, lim10, lim11, lim12, adv_at h, rdO, cw, go, List.map_map, Function.comp_def, Nat.add_assoc]
end
end K75

set_option Elab.async false
set_option linter.all false
set_option autoImplicit false
set_option maxRecDepth 100000
set_option maxHeartbeats 1000000
/-! Mathematics, part 6: numbers by their digits; entries; several things. -/
namespace K75
open PySem
/-! ### digits -/
theorem numL_val (i : Nat) : valL (TL.numL i) = (i : Int) ∧ (∀ c ∈ TL.numL i, 48 ≤ c ∧ c ≤ 57) ∧ TL.numL i ≠ [] ∧ ∀ j, j < (TL.numL i).length → (0 < valL ((TL.numL i).take j) ∨ j = 0) ∧ valL ((TL.numL i).take (j + 1)) ≤ (i : Int) := by
  induction i using Nat.strongRecOn with
  | ind i ih =>
    by_cases q : i < 10
    · rw [TL.numL_lt q]
      refine ⟨by simp [valL]; omega, fun c hc => ?_, by simp, fun j hj => ?_⟩
      · have : c = 48 + i := by simpa using hc
        omega
      · have : j = 0 := by simpa using hj
        subst this
        simp [valL]
        omega
    · have hi : 10 ≤ i := by omega
      obtain ⟨h1, h2, h3, h4⟩ := ih (i / 10) (by omega)
      have e := TL.numL_step hi
      have v : valL (TL.numL i) = (i : Int) := by rw [e, valL_add, h1]; omega
      refine ⟨v, fun c hc => ?_, ?_, fun j hj => ?_⟩
      · rw [e] at hc
        rcases List.mem_append.mp hc with z | z
        · exact h2 c z
        · have : c = 48 + i % 10 := by simpa using z
          omega
      · rw [e]; simp
      · by_cases z : j < (TL.numL (i / 10)).length
        · have w := h4 j z
          rw [e, List.take_append_of_le_length (by omega), List.take_append_of_le_length (by omega)]
          refine ⟨w.1, Int.le_trans w.2 (by omega)⟩
        · have lj : j = (TL.numL (i / 10)).length := by
            rw [e, List.length_append, List.length_singleton] at hj
            omega
          refine ⟨.inl ?_, ?_⟩
          · rw [e, List.take_append_of_le_length (by omega), List.take_of_length_le (by omega), h1]
            omega
          · rw [List.take_of_length_le (by rw [e, List.length_append, List.length_singleton]; omega), v]
            exact Int.le_refl _
theorem numL_len (i : Nat) : ∀ k, i < 10 ^ (k + 1) → (TL.numL i).length ≤ k + 1 := by
  intro k
  induction k generalizing i with
  | zero => intro h; rw [TL.numL_lt (by simpa using h)]; simp
  | succ k ih =>
    intro h
    by_cases q : i < 10
    · rw [TL.numL_lt q]; simp
    · rw [TL.numL_step (by omega), List.length_append, List.length_singleton]
      have := ih (i / 10) (by rw [Nat.pow_succ] at h; omega)
      omega
section
variable {n r p : Nat} {M : Sto} {T : Str}
theorem c_num (h : r < M.length) (ok : OkT T) {i b : Nat} {y : List Nat} (e : rst T p = TL.numL i ++ y) (hb : i ≤ b) (hk : i < 10 ^ 20) (hy : hd y ∉ digits) : call (n + 2) .r_number [.o r, .d (.int 0), .d (.int b)] (adv M r T p) = .ok (.d (.int i)) (adv M r T (p + (TL.numL i).length)) := by
  obtain ⟨h1, h2, h3, h4⟩ := numL_val i
  have z := c_number (n := n) h ok (b := (b : Int)) e (by have := numL_len i 19 hk; omega) h3 h2 hy (fun j hj => ⟨(h4 j hj).1, Int.le_trans (h4 j hj).2 (by omega)⟩) (by omega)
  rw [h1] at z
  exact z
theorem c_num_or (h : r < M.length) (ok : OkT T) {i b : Nat} {y : List Nat} (e : rst T p = TL.numL i ++ y) (hb : i ≤ b) (hk : i < 10 ^ 20) (hy : hd y ∉ digits) : call (n + 3) .r_number_or_none [.o r, .d (.int b)] (adv M r T p) = .ok (.d (.int i)) (adv M r T (p + (TL.numL i).length)) := by
  obtain ⟨h1, h2, h3, h4⟩ := numL_val i
  have z := c_number_or (n := n) h ok (b := (b : Int)) e (by have := numL_len i 19 hk; omega) h3 h2 hy (fun j hj => ⟨(h4 j hj).1, Int.le_trans (h4 j hj).2 (by omega)⟩) (by omega)
  rw [h1] at z
  exact z
theorem c_mark1 (h : r < M.length) (ok : OkT T) {c : Nat} {y : List Nat} (e : rst T p = c :: y) (hc : c < 256) : call (n + 2) .r_marks [.o r, .d (.str ⟨#[c]⟩)] (adv M r T p) = .ok (.d .none) (adv M r T (p + 1)) :=
  c_marks h ok (s := ⟨#[c]⟩) (y := y) e fun d hd => by
    have : d = c := by simpa using hd
    omega
/-! ### an entry -/
def reasons8 : List Str := [(⟨#[99, 101, 97, 115, 101, 100]⟩ : Str), (⟨#[99, 104, 97, 110, 103, 101, 100]⟩ : Str), (⟨#[104, 101, 97, 100]⟩ : Str), (⟨#[104, 111, 108, 100]⟩ : Str), (⟨#[107, 101, 121]⟩ : Str), (⟨#[114, 101, 112, 108, 97, 99, 101, 100]⟩ : Str), (⟨#[114, 105, 103, 104, 116, 115]⟩ : Str), (⟨#[98, 97, 99, 107]⟩ : Str)]
def whys : List (List Nat) := [([104, 111, 108, 100] : List Nat), ([107, 101, 121] : List Nat), ([104, 101, 97, 100] : List Nat), ([99, 101, 97, 115, 101, 100] : List Nat)]
/-- what stands behind an item -/
abbrev Aft (y : List Nat) : Prop := hd y = 44 ∨ hd y = 93
theorem c_why (h : r < M.length) (ok : OkT T) {w y : List Nat} (e : rst T p = w ++ y) (hw : w ∈ whys) (hy : Aft y) : call (n + 2) .r_one_of [.o r, .d (.tuple (reasons8.map .str))] (adv M r T p) = .ok (.d (.str (tx w))) (adv M r T (p + w.length)) := by
  have one : ∀ w ∈ whys, w.length < 900 ∧ SeqAt.shaped (.str (tx w)) = true ∧ tx w ∈ reasons8 ∧ (∀ i, i < w.length → reasons8.any (fun v => Txt.startswith v (tx (w.take (i + 1)))) = true) ∧ reasons8.any (fun v => Txt.startswith v (tx (w ++ [44]))) = false ∧ reasons8.any (fun v => Txt.startswith v (tx (w ++ [93]))) = false := by
    decide +kernel
  obtain ⟨h1, h2, h3, h4, h5, h6⟩ := one w hw
  refine c_one_of h ok e ⟨by decide, h1⟩ ⟨by decide +kernel, h2⟩ h3 h4 ?_
  rcases hy with z | z <;> rw [z] <;> assumption
/-- a name: its first word, the others -/
structure Nm where
  w : List Nat
  ws : List (List Nat)
def Nm.L (a : Nm) : List Nat := a.w ++ tailL a.ws
def Nm.D (a : Nm) : PyData := .tuple ((a.w :: a.ws).map fun v => .str (tx v))
structure Nm.Ok (a : Nm) : Prop where
  len : a.ws.length ≤ 3
  wo : ∀ v ∈ a.w :: a.ws, Wo v
theorem c_name (h : r < M.length) (ok : OkT T) {a : Nm} {y : List Nat} (o : a.Ok) (e : rst T p = a.L ++ y) (hy : hd y ∉ signs) (hy2 : hd y ≠ 47) : call (n + 3) .r_words [.o r] (adv M r T p) = .ok (.d a.D) (adv M r T (p + a.L.length)) :=
  c_words h ok (by rw [e, Nm.L, List.append_assoc]) hy hy2 o.len o.wo
/-- an entry: serial, reason -/
structure En where
  ser : Nat
  why : List Nat
def En.L (a : Nm) (e : En) : List Nat := a.L ++ (58 :: (TL.numL e.ser ++ (58 :: (TL.numL 5 ++ (58 :: e.why)))))
def En.D (a : Nm) (e : En) : PyData := .tuple [a.D, .int e.ser, .int 5, .str (tx e.why)]
theorem c_entry (h : r < M.length) (ok : OkT T) {a : Nm} {x : En} {y : List Nat} (o : a.Ok) (hs : x.ser ≤ 1000000) (hw : x.why ∈ whys) (e : rst T p = x.L a ++ y) (hy : Aft y) : call (n + 4) .r_entry [.o r] (adv M r T p) = .ok (.d (x.D a)) (adv M r T (p + (x.L a).length)) := by
  show runB (call (n + 3)) ir_r_entry _ _ = _
  have e0 : rst T p = a.L ++ (58 :: (TL.numL x.ser ++ (58 :: (TL.numL 5 ++ (58 :: (x.why ++ y)))))) := by rw [e, En.L]; simp
  have s1 := c_name (n := n) h ok o e0 (by show 58 ∉ signs; decide) (by show 58 ≠ 47; decide)
  have e1 := rst_add _ e0 rfl
  have s2 := c_mark1 (n := n + 1) h ok e1 (by decide)
  have e2 := rst_suc e1
  have s3 := c_num (n := n + 1) (b := 1000000) h ok e2 hs (by omega) (by show 58 ∉ digits; decide)
  have e3 := rst_add _ e2 rfl
  have s4 := c_mark1 (n := n + 1) h ok e3 (by decide)
  have e4 := rst_suc e3
  have s5 := c_num (n := n + 1) (b := 1000000000) h ok e4 (by decide) (by decide) (by show 58 ∉ digits; decide)
  have e5 := rst_add _ e4 rfl
  have s6 := c_mark1 (n := n + 1) h ok e5 (by decide)
  have e6 := rst_suc e5
  have s7 := c_why (n := n + 1) h ok e6 hw hy
  have el : p + (x.L a).length = p + a.L.length + 1 + (TL.numL x.ser).length + 1 + (TL.numL 5).length + 1 + x.why.length := by simp [En.L]; omega
  simp only [reasons8, List.map_cons, List.map_nil] at s7
  simp at s3 s5
  rw [el]
  simp [ir_r_entry, runB, exSs, exS, evE, evEs, R.bind, R.to, R.of, F.bind, toD, toDs, asDs, binD, cmpD, ixD, toSlD, fromSlD, biD, isiD, dmD, tixD, noX, walked, seqD, boolsD, strsD, unpD, setAll, wipeG, pickD, stillE, List.lookup, fdb, Fn.cls, sh_int, sh_bool, sh_none, eqv_int, eqv_str, lim1, lim2, lim3, lim4, lim5, lim6, lim7, lim8, lim9, lim10, lim11, lim12, adv_at h, rdO, s1, s2, s3, s4, s5, s6, s7, En.D]
end
end K75

set_option Elab.async false
set_option linter.all false
set_option autoImplicit false
set_option maxRecDepth 100000
set_option maxHeartbeats 1000000
/-! Mathematics, part 7: several things; a list read. -/
namespace K75
open PySem
section
variable {n r p : Nat} {M : Sto} {T : Str}
/-! ### items -/
def reasons7 : List Str := [(⟨#[99, 101, 97, 115, 101, 100]⟩ : Str), (⟨#[99, 104, 97, 110, 103, 101, 100]⟩ : Str), (⟨#[104, 101, 97, 100]⟩ : Str), (⟨#[104, 111, 108, 100]⟩ : Str), (⟨#[107, 101, 121]⟩ : Str), (⟨#[114, 101, 112, 108, 97, 99, 101, 100]⟩ : Str), (⟨#[114, 105, 103, 104, 116, 115]⟩ : Str)]
theorem c_reason (h : r < M.length) (ok : OkT T) {w y : List Nat} (e : rst T p = w ++ y) (hw : w ∈ whys) (hy : Aft y) : call (n + 2) .r_one_of [.o r, .d (.tuple (reasons7.map .str))] (adv M r T p) = .ok (.d (.str (tx w))) (adv M r T (p + w.length)) := by
  have one : ∀ w ∈ whys, w.length < 900 ∧ SeqAt.shaped (.str (tx w)) = true ∧ tx w ∈ reasons7 ∧ (∀ i, i < w.length → reasons7.any (fun v => Txt.startswith v (tx (w.take (i + 1)))) = true) ∧ reasons7.any (fun v => Txt.startswith v (tx (w ++ [44]))) = false ∧ reasons7.any (fun v => Txt.startswith v (tx (w ++ [93]))) = false := by
    decide +kernel
  obtain ⟨h1, h2, h3, h4, h5, h6⟩ := one w hw
  refine c_one_of h ok e ⟨by decide, h1⟩ ⟨by decide +kernel, h2⟩ h3 h4 ?_
  rcases hy with z | z <;> rw [z] <;> assumption
theorem sh_of (s : Str) (h : s.cps.toList.all (fun c => decide (c < 256)) = true) : SeqAt.shaped (.str s) = true := by
  simp only [SeqAt.shaped, PyData.canLay0, PyData.strOk, PyData.depth, Bool.and_eq_true, Array.all_eq_true_iff_forall_mem, decide_eq_true_eq]
  refine ⟨fun c hc => ?_, rfl⟩
  have := of_decide_eq_true (List.all_eq_true.mp h c (by simpa using hc))
  omega
theorem c_item_reason (h : r < M.length) (ok : OkT T) {w y : List Nat} (e : rst T p = w ++ y) (hw : w ∈ whys) (hy : Aft y) : call (n + 5) .r_item [.o r, .d (.str (⟨#[114, 101, 97, 115, 111, 110]⟩ : Str))] (adv M r T p) = .ok (.d (.str (tx w))) (adv M r T (p + w.length)) := by
  show runB (call (n + 4)) ir_r_item _ _ = _
  have s7 := c_reason (n := n + 2) h ok e hw hy
  simp only [reasons7, List.map_cons, List.map_nil] at s7
  have s0 := sh_of (⟨#[114, 101, 97, 115, 111, 110]⟩ : Str) rfl
  have s1 := sh_of (⟨#[115, 117, 98, 116, 114, 101, 101]⟩ : Str) rfl
  have s2 := sh_of (⟨#[111, 116, 104, 101, 114]⟩ : Str) rfl
  have s3 := sh_of (⟨#[110, 97, 109, 101]⟩ : Str) rfl
  have s4 := sh_of (⟨#[119, 111, 114, 100]⟩ : Str) rfl
  have s5 := sh_of (⟨#[101, 110, 116, 114, 121]⟩ : Str) rfl
  have s6 : SeqAt.shaped (.tuple [.str (⟨#[109, 97, 112, 112, 105, 110, 103]⟩ : Str), .str (⟨#[115, 101, 97, 108, 101, 114]⟩ : Str)]) = true := by decide +kernel
  have b1 : ((⟨#[114, 101, 97, 115, 111, 110]⟩ : Str) == (⟨#[112, 117, 114, 112, 111, 115, 101]⟩ : Str)) = false := by decide +kernel
  have b2 : ((⟨#[114, 101, 97, 115, 111, 110]⟩ : Str) == (⟨#[117, 115, 101]⟩ : Str)) = false := by decide +kernel
  simp [ir_r_item, runB, exSs, exS, evE, evEs, R.bind, R.to, R.of, F.bind, toD, toDs, asDs, binD, cmpD, ixD, toSlD, fromSlD, biD, isiD, dmD, tixD, noX, walked, seqD, boolsD, strsD, unpD, setAll, wipeG, pickD, stillE, List.lookup, fdb, Fn.cls, sh_int, sh_bool, sh_none, eqv_int, eqv_str, lim1, lim2, lim3, lim4, lim5, lim6, lim7, lim8, lim9, lim10, lim11, lim12, adv_at h, rdO, s0, s1, s2, s3, s4, s5, s6, hasIn, s7, b1, b2]
theorem c_item_entry (h : r < M.length) (ok : OkT T) {a : Nm} {x : En} {y : List Nat} (o : a.Ok) (hs : x.ser ≤ 1000000) (hw : x.why ∈ whys) (e : rst T p = x.L a ++ y) (hy : Aft y) : call (n + 5) .r_item [.o r, .d (.str (⟨#[101, 110, 116, 114, 121]⟩ : Str))] (adv M r T p) = .ok (.d (x.D a)) (adv M r T (p + (x.L a).length)) := by
  show runB (call (n + 4)) ir_r_item _ _ = _
  have s7 := c_entry (n := n) h ok o hs hw e hy
  have s1 := sh_of (⟨#[115, 117, 98, 116, 114, 101, 101]⟩ : Str) rfl
  have s2 := sh_of (⟨#[111, 116, 104, 101, 114]⟩ : Str) rfl
  have s3 := sh_of (⟨#[110, 97, 109, 101]⟩ : Str) rfl
  have s4 := sh_of (⟨#[119, 111, 114, 100]⟩ : Str) rfl
  have s5 := sh_of (⟨#[101, 110, 116, 114, 121]⟩ : Str) rfl
  simp [ir_r_item, runB, exSs, exS, evE, evEs, R.bind, R.to, R.of, F.bind, toD, toDs, asDs, binD, cmpD, ixD, toSlD, fromSlD, biD, isiD, dmD, tixD, noX, walked, seqD, boolsD, strsD, unpD, setAll, wipeG, pickD, stillE, List.lookup, fdb, Fn.cls, sh_int, sh_bool, sh_none, eqv_int, eqv_str, lim1, lim2, lim3, lim4, lim5, lim6, lim7, lim8, lim9, lim10, lim11, lim12, adv_at h, rdO, s1, s2, s3, s4, s5, s7]
/-! ### several -/
def C_sev : E := .and (.cmp .eq (.meth .r_sign (.v 0) .nil) (.k (.str (⟨#[44]⟩ : Str)))) (.cmp .lt (.bi .len (.cons (.v 4) .nil)) (.v 2))
def B_sev : Ss := .cons (.ex (.meth .r_goes_on (.v 0) (.cons (.k (.bool true)) .nil))) (.cons (.set 4 (.bin .add (.v 4) (.tup (.cons (.meth .r_item (.v 0) (.cons (.v 3) .nil)) .nil)))) .nil)
theorem ir_several : ir_r_several = ⟨4, 1, .cons (.ex (.meth .r_marks (.v 0) (.cons (.k (.str (⟨#[91]⟩ : Str))) .nil))) (.cons (.ite (.and (.cmp .eq (.v 1) (.k (.int 0))) (.cmp .eq (.meth .r_sign (.v 0) .nil) (.k (.str (⟨#[93]⟩ : Str))))) (.cons (.ex (.meth .r_goes_on (.v 0) (.cons (.k (.bool true)) .nil))) (.cons (.ret (.tup .nil)) .nil)) .nil)
    (.cons (.set 4 (.tup (.cons (.meth .r_item (.v 0) (.cons (.v 3) .nil)) .nil))) (.cons (.whl C_sev B_sev) (.cons (.ex (.meth .r_marks (.v 0) (.cons (.k (.str (⟨#[93]⟩ : Str))) .nil))) (.cons (.ret (.v 4)) .nil))))), false⟩ := rfl
/-- things behind the first -/
def sevL {α : Type} (tL : α → List Nat) : List α → List Nat
  | [] => []
  | x :: r => 44 :: (tL x ++ sevL tL r)
/-- an item is read -/
def ItemOk (n r : Nat) (M : Sto) (T : Str) (s : Str) (t : List Nat) (d : PyData) : Prop := ∀ (p : Nat) (y : List Nat), rst T p = t ++ y → Aft y → call (n + 5) .r_item [.o r, .d (.str s)] (adv M r T p) = .ok (.d d) (adv M r T (p + t.length))
theorem sev_aft {α : Type} {tL : α → List Nat} {xs : List α} {y : List Nat} (hy : hd y = 93) : Aft (sevL tL xs ++ y) := by
  cases xs with
  | nil => exact .inr hy
  | cons x r => exact .inl rfl
theorem sev_loop {α : Type} {tL : α → List Nat} {vD : α → PyData} (h : r < M.length) (ok : OkT T) {s : Str} {b : Nat} {x1 : Val} {y : List Nat} (hy : hd y = 93) : ∀ (xs : List α) (f : List PyData) (p k : Nat), xs.length < k → rst T p = sevL tL xs ++ y → f.length + xs.length ≤ b → b < 1000 → (∀ x ∈ xs, ItemOk n r M T s (tL x) (vD x)) →
    loopW (fun G M => evE (call (n + 5)) C_sev G M) (fun G M => exSs (call (n + 5)) B_sev G M) k [some (.o r), some x1, some (.d (.int b)), some (.d (.str s)), some (.d (.tuple f))] (adv M r T p) =
      .nx [some (.o r), some x1, some (.d (.int b)), some (.d (.str s)), some (.d (.tuple (f ++ xs.map vD)))] (adv M r T (p + (sevL tL xs).length))
  | [], f, p, k + 1, _, e, l, lb, _ => by
    have e1 : rst T p = y := e
    rw [loopW_end (M1 := adv M r T p) (by simp [C_sev, runB, exSs, exS, evE, evEs, R.bind, R.to, R.of, F.bind, toD, toDs, asDs, binD, cmpD, ixD, toSlD, fromSlD, biD, isiD, dmD, tixD, noX, walked, seqD, boolsD, strsD, unpD, setAll, wipeG, pickD, stillE, List.lookup, fdb, Fn.cls, sh_int, sh_bool, sh_none, eqv_int, eqv_str, lim1, lim2, lim3, lim4, lim5, lim6, lim7, lim8, lim9, lim10, lim11, lim12, adv_at h, rdO, c_sign h ok.lim, e1, hy, sh1])]
    simp [sevL]
  | x :: xs, f, p, k + 1, lk, e, l, lb, hx => by
    have e1 : hd (rst T p) = 44 := by rw [e]; rfl
    have e2 : rst T p = 44 :: (tL x ++ (sevL tL xs ++ y)) := by rw [e, sevL]; simp
    rw [List.length_cons] at l lk
    have l0 : f.length < b := by omega
    have l3 : f.length + 1 ≤ lim := by unfold lim; omega
    have it := hx x List.mem_cons_self (p + 1) _ (rst_suc e2) (sev_aft hy)
    have ih := sev_loop (b := b) (x1 := x1) h ok hy xs (f ++ [vD x]) (p + 1 + (tL x).length) k (by omega) (rst_add _ (rst_suc e2) rfl) (by rw [List.length_append, List.length_singleton]; omega) lb fun v hv => hx v (List.mem_cons_of_mem _ hv)
    have l2 : p + (sevL tL (x :: xs)).length = p + 1 + (tL x).length + (sevL tL xs).length := by simp [sevL]; omega
    have e3 : f ++ (x :: xs).map vD = f ++ [vD x] ++ xs.map vD := by simp
    rw [l2, e3, ← ih]
    refine loopW_nx (M1 := adv M r T p) ?_ ?_
    · simp [C_sev, runB, exSs, exS, evE, evEs, R.bind, R.to, R.of, F.bind, toD, toDs, asDs, binD, cmpD, ixD, toSlD, fromSlD, biD, isiD, dmD, tixD, noX, walked, seqD, boolsD, strsD, unpD, setAll, wipeG, pickD, stillE, List.lookup, fdb, Fn.cls, sh_int, sh_bool, sh_none, eqv_int, eqv_str, lim1, lim2, lim3, lim4, lim5, lim6, lim7, lim8, lim9, lim10, lim11, lim12, adv_at h, rdO, c_sign h ok.lim, e1, sh1]
      omega
    · simp [B_sev, runB, exSs, exS, evE, evEs, R.bind, R.to, R.of, F.bind, toD, toDs, asDs, binD, cmpD, ixD, toSlD, fromSlD, biD, isiD, dmD, tixD, noX, walked, seqD, boolsD, strsD, unpD, setAll, wipeG, pickD, stillE, List.lookup, fdb, Fn.cls, sh_int, sh_bool, sh_none, eqv_int, eqv_str, lim1, lim2, lim3, lim4, lim5, lim6, lim7, lim8, lim9, lim10, lim11, lim12, adv_at h, rdO, c_goes h, it, l3]
theorem c_sev0 (h : r < M.length) (ok : OkT T) {s : Str} {b : Nat} {y : List Nat} (e : rst T p = 91 :: 93 :: y) : call (n + 6) .r_several [.o r, .d (.int 0), .d (.int b), .d (.str s)] (adv M r T p) = .ok (.d (.tuple [])) (adv M r T (p + 2)) := by
  show runB (call (n + 5)) ir_r_several _ _ = _
  have s1 := c_mark1 (n := n + 3) h ok e (by decide)
  have e1 := rst_suc e
  have e2 : hd (rst T (p + 1)) = 93 := by rw [e1]; rfl
  rw [ir_several]
  simp [runB, exSs, exS, evE, evEs, R.bind, R.to, R.of, F.bind, toD, toDs, asDs, binD, cmpD, ixD, toSlD, fromSlD, biD, isiD, dmD, tixD, noX, walked, seqD, boolsD, strsD, unpD, setAll, wipeG, pickD, stillE, List.lookup, fdb, Fn.cls, sh_int, sh_bool, sh_none, eqv_int, eqv_str, lim1, lim2, lim3, lim4, lim5, lim6, lim7, lim8, lim9, lim10, lim11, lim12, adv_at h, rdO, s1, c_sign h ok.lim, e2, sh1, c_goes h]
theorem c_sev (h : r < M.length) (ok : OkT T) {α : Type} {tL : α → List Nat} {vD : α → PyData} {s : Str} {b : Nat} {x : α} {xs : List α} {y : List Nat} (e : rst T p = 91 :: (tL x ++ (sevL tL xs ++ (93 :: y)))) (h0 : hd (tL x ++ (sevL tL xs ++ (93 :: y))) ≠ 93) (hl : 1 + xs.length ≤ b) (hb : b < 1000) (hx : ∀ v ∈ x :: xs, ItemOk n r M T s (tL v) (vD v)) :
    call (n + 6) .r_several [.o r, .d (.int 0), .d (.int b), .d (.str s)] (adv M r T p) = .ok (.d (.tuple ((x :: xs).map vD))) (adv M r T (p + (91 :: (tL x ++ (sevL tL xs ++ [93]))).length)) := by
  show runB (call (n + 5)) ir_r_several _ _ = _
  have s1 := c_mark1 (n := n + 3) h ok e (by decide)
  have e1 := rst_suc e
  have h1 : hd (rst T (p + 1)) ≠ 93 := by rw [e1]; exact h0
  have s2 := sh1 (ok.hd (p := p + 1))
  have it := hx x List.mem_cons_self (p + 1) _ e1 (sev_aft rfl)
  have e2 := rst_add _ e1 rfl
  have go := sev_loop (n := n) (b := b) (x1 := .d (.int 0)) (tL := tL) (vD := vD) h ok (y := 93 :: y) rfl xs [vD x] (p + 1 + (tL x).length) turns (by unfold turns; omega) e2 (by rw [List.length_singleton]; omega) hb fun v hv => hx v (List.mem_cons_of_mem _ hv)
  have e3 := rst_add _ e2 rfl
  have s3 := c_mark1 (n := n + 3) h ok e3 (by decide)
  have el : p + (91 :: (tL x ++ (sevL tL xs ++ [93]))).length = p + 1 + (tL x).length + (sevL tL xs).length + 1 := by simp; omega
  rw [ir_several, el]
  simp [runB, exSs, exS, evE, evEs, R.bind, R.to, R.of, F.bind, toD, toDs, asDs, binD, cmpD, ixD, toSlD, fromSlD, biD, isiD, dmD, tixD, noX, walked, seqD, boolsD, strsD, unpD, setAll, wipeG, pickD, stillE, List.lookup, fdb, Fn.cls, sh_int, sh_bool, sh_none, eqv_int, eqv_str, lim1, lim2, lim3, lim4, lim5, lim6, lim7, lim8, lim9, lim10, lim11, lim12, adv_at h, rdO, s1, c_sign h ok.lim, h1, s2, sh1, it, go, s3]
end
end K75

set_option Elab.async false
set_option linter.all false
set_option autoImplicit false
set_option maxRecDepth 100000
set_option maxHeartbeats 2000000
/-! Mathematics, part 8: a list's text; it is read. -/
namespace K75
open PySem
section
variable {n r p : Nat} {M : Sto} {T : Str}
def scopes3 : List Str := [(⟨#[97, 108, 108]⟩ : Str), (⟨#[104, 101, 97, 100, 115]⟩ : Str), (⟨#[117, 115, 101, 114, 115]⟩ : Str)]
def kinds : List (List Nat) := [([97, 108, 108] : List Nat), ([104, 101, 97, 100, 115] : List Nat)]
def yn (b : Bool) : List Nat := if b then ([121, 101, 115] : List Nat) else ([110, 111] : List Nat)
theorem c_kind (h : r < M.length) (ok : OkT T) {w y : List Nat} (e : rst T p = w ++ y) (hw : w ∈ kinds) (hy : hd y = 32) : call (n + 2) .r_one_of [.o r, .d (.tuple (scopes3.map .str))] (adv M r T p) = .ok (.d (.str (tx w))) (adv M r T (p + w.length)) := by
  have one : ∀ w ∈ kinds, w.length < 900 ∧ SeqAt.shaped (.str (tx w)) = true ∧ tx w ∈ scopes3 ∧ (∀ i, i < w.length → scopes3.any (fun v => Txt.startswith v (tx (w.take (i + 1)))) = true) ∧ scopes3.any (fun v => Txt.startswith v (tx (w ++ [32]))) = false := by
    decide +kernel
  obtain ⟨h1, h2, h3, h4, h5⟩ := one w hw
  exact c_one_of h ok e ⟨by decide, h1⟩ ⟨by decide +kernel, h2⟩ h3 h4 (by rw [hy]; exact h5)
theorem c_truth (h : r < M.length) (ok : OkT T) {b : Bool} {y : List Nat} (e : rst T p = yn b ++ y) (hy : hd y = 32) : call (n + 3) .truth_in [.o r] (adv M r T p) = .ok (.d (.bool b)) (adv M r T (p + (yn b).length)) := by
  show runB (call (n + 2)) ir_truth_in _ _ = _
  have one : ∀ b, (yn b).length < 900 ∧ SeqAt.shaped (.str (tx (yn b))) = true ∧ tx (yn b) ∈ [(⟨#[110, 111]⟩ : Str), (⟨#[121, 101, 115]⟩ : Str)] ∧ (∀ i, i < (yn b).length → [(⟨#[110, 111]⟩ : Str), (⟨#[121, 101, 115]⟩ : Str)].any (fun v => Txt.startswith v (tx ((yn b).take (i + 1)))) = true) ∧ [(⟨#[110, 111]⟩ : Str), (⟨#[121, 101, 115]⟩ : Str)].any (fun v => Txt.startswith v (tx (yn b ++ [32]))) = false ∧ decide (yn b = ([121, 101, 115] : List Nat)) = b := by
    intro b
    cases b <;> decide +kernel
  obtain ⟨h1, h2, h3, h4, h5, h6⟩ := one b
  have s := c_one_of (n := n) h ok (W := [(⟨#[110, 111]⟩ : Str), (⟨#[121, 101, 115]⟩ : Str)]) e ⟨by decide, h1⟩ ⟨by decide +kernel, h2⟩ h3 h4 (by rw [hy]; exact h5)
  simp only [List.map_cons, List.map_nil] at s
  have sy := sh_of (⟨#[121, 101, 115]⟩ : Str) rfl
  simp only [ir_truth_in]
  simp [runB, exSs, exS, evE, evEs, R.bind, R.to, R.of, F.bind, toD, toDs, asDs, binD, cmpD, ixD, toSlD, fromSlD, biD, isiD, dmD, tixD, noX, walked, seqD, boolsD, strsD, unpD, setAll, wipeG, pickD, stillE, List.lookup, fdb, Fn.cls, sh_int, sh_bool, sh_none, eqv_int, eqv_str, lim1, lim2, lim3, lim4, lim5, lim6, lim7, lim8, lim9, lim10, lim11, lim12, adv_at h, rdO, s, h2, sy] 
  exact h6
theorem c_numbers (h : r < M.length) (ok : OkT T) {i j b c : Nat} {y : List Nat} (e : rst T p = TL.numL i ++ (32 :: (TL.numL j ++ (32 :: y)))) (hi : i ≤ b) (hj : j ≤ c) (ki : i < 10 ^ 20) (kj : j < 10 ^ 20) :
    call (n + 3) .numbers_in [.o r, .d (.tuple [.int b, .int c])] (adv M r T p) = .ok (.d (.tuple [.int i, .int j])) (adv M r T (p + (TL.numL i ++ (32 :: (TL.numL j ++ [32]))).length)) := by
  show runB (call (n + 2)) ir_numbers_in _ _ = _
  have s1 := c_num (n := n) h ok e hi ki (by show 32 ∉ digits; decide)
  have e1 := rst_add _ e rfl
  have s2 := c_mark1 (n := n) h ok e1 (by decide)
  have e2 := rst_suc e1
  have s3 := c_num (n := n) h ok e2 hj kj (by show 32 ∉ digits; decide)
  have e3 := rst_add _ e2 rfl
  have s4 := c_mark1 (n := n) h ok e3 (by decide)
  have el : p + (TL.numL i ++ (32 :: (TL.numL j ++ [32]))).length = p + (TL.numL i).length + 1 + (TL.numL j).length + 1 := by simp; omega
  rw [el]
  simp [ir_numbers_in, runB, exSs, exS, evE, evEs, R.bind, R.to, R.of, F.bind, toD, toDs, asDs, binD, cmpD, ixD, toSlD, fromSlD, biD, isiD, dmD, tixD, noX, walked, seqD, boolsD, strsD, unpD, setAll, wipeG, pickD, stillE, List.lookup, fdb, Fn.cls, sh_int, sh_bool, sh_none, eqv_int, eqv_str, lim1, lim2, lim3, lim4, lim5, lim6, lim7, lim8, lim9, lim10, lim11, lim12, forL, adv_at h, rdO, s1, s2, s3, s4]
/-- a lot of things in brackets -/
def lotL {α : Type} (tL : α → List Nat) : List α → List Nat
  | [] => [91, 93]
  | x :: r => 91 :: (tL x ++ (sevL tL r ++ [93]))
theorem c_lot (h : r < M.length) (ok : OkT T) {α : Type} {tL : α → List Nat} {vD : α → PyData} {s : Str} {b : Nat} {xs : List α} {y : List Nat} (e : rst T p = lotL tL xs ++ y) (h0 : ∀ x ∈ xs, ∀ z, hd (tL x ++ z) ≠ 93) (hl : xs.length ≤ b) (hb : b < 1000) (hx : ∀ v ∈ xs, ItemOk n r M T s (tL v) (vD v)) :
    call (n + 6) .r_several [.o r, .d (.int 0), .d (.int b), .d (.str s)] (adv M r T p) = .ok (.d (.tuple (xs.map vD))) (adv M r T (p + (lotL tL xs).length)) := by
  cases xs with
  | nil => exact c_sev0 h ok e
  | cons x xs => exact c_sev (y := y) h ok (by rw [e, lotL]; simp) (h0 x List.mem_cons_self _) (by rw [List.length_cons] at hl; omega) hb hx
/-! ### a list -/
structure Sc where
  kind : List Nat
  oth : Bool
  lot : List (List Nat)
def Sc.D (s : Sc) : PyData := .tuple [.str (tx s.kind), .bool s.oth, .tuple (s.lot.map fun w => .str (tx w))]
structure Ow where
  a : Nm
  key : Nat
  num : Nat
  whole : Bool
  since : Nat
  til : Nat
  sc : Sc
  ents : List En
  sg : Nat
def Ow.base (o : Ow) : Int := if o.whole then -1 else 0
def Ow.baseL (o : Ow) : List Nat := if o.whole then [45] else TL.numL 0
def Ow.D8 (o : Ow) : List PyData := [o.a.D, .int o.key, .int o.num, .int o.base, .int o.since, .int o.til, o.sc.D, .tuple (o.ents.map (En.D o.a))]
def Ow.D (o : Ow) : PyData := .tuple (o.D8 ++ [.int o.sg])
def sepL : List (List Nat) → List Nat
  | [] => []
  | x :: r => 32 :: (x ++ sepL r)
/-- behind the word -/
def Ow.parts (o : Ow) : List (List Nat) := [o.a.L, TL.numL o.key, TL.numL o.num, o.baseL, TL.numL o.since, TL.numL o.til, o.sc.kind, yn o.sc.oth, lotL id o.sc.lot, lotL (En.L o.a) o.ents, TL.numL o.sg]
structure Ow.Rd (o : Ow) : Prop where
  a : o.a.Ok
  key : o.key ≤ 4294967295
  num : o.num ≤ 1000000
  since : o.since ≤ 1000000000
  til : o.til ≤ 1000000000
  kind : o.sc.kind ∈ kinds
  lot : o.sc.lot.length ≤ 6
  why : ∀ w ∈ o.sc.lot, w ∈ whys
  many : o.ents.length ≤ 30
  ents : ∀ x ∈ o.ents, x.ser ≤ 1000000 ∧ x.why ∈ whys
  sg : o.sg ≤ 4294967295
theorem c_base (h : r < M.length) (ok : OkT T) {o : Ow} {y : List Nat} (e : rst T p = o.baseL ++ (32 :: y)) : call (n + 3) .r_number_or_none [.o r, .d (.int 1000000)] (adv M r T p) = .ok (.d (.int o.base)) (adv M r T (p + o.baseL.length)) := by
  cases q : o.whole with
  | true =>
    have e1 : o.baseL = [45] := by unfold Ow.baseL; rw [q]; rfl
    have e2 : o.base = -1 := by unfold Ow.base; rw [q]; rfl
    rw [e1] at e ⊢
    rw [e2]
    exact c_number_none h ok e
  | false =>
    have e1 : o.baseL = TL.numL 0 := by unfold Ow.baseL; rw [q]; rfl
    have e2 : o.base = 0 := by unfold Ow.base; rw [q]; rfl
    rw [e1] at e ⊢
    rw [e2]
    exact c_num_or (i := 0) (b := 1000000) h ok e (by decide) (by decide) (by show 32 ∉ digits; decide)
end
end K75

set_option Elab.async false
set_option linter.all false
set_option autoImplicit false
set_option maxRecDepth 100000
set_option maxHeartbeats 2000000
/-! Mathematics, part 9: a list is read. -/
namespace K75
open PySem
section
variable {n r p : Nat} {M : Sto} {T : Str}
theorem why_hd : ∀ w ∈ whys, w ≠ [] ∧ hd w ≠ 93 := by decide
theorem hd_app {w z : List Nat} (h : w ≠ []) : hd (w ++ z) = hd w := by
  cases w with
  | nil => exact absurd rfl h
  | cons c r => rfl
theorem name_hd {a : Nm} (o : a.Ok) (z : List Nat) : hd (a.L ++ z) ∈ signs := by
  have w := o.wo a.w List.mem_cons_self
  unfold Nm.L
  rw [List.append_assoc, hd_app w.ne]
  cases q : a.w with
  | nil => exact absurd q w.ne
  | cons c r => exact w.ch c (by rw [q]; exact List.mem_cons_self)
theorem rst_two {a b y : List Nat} (e : rst T p = a ++ (32 :: (b ++ (32 :: y)))) : rst T (p + (a ++ (32 :: (b ++ [32]))).length) = y := rst_add (x := a ++ (32 :: (b ++ [32]))) _ (by rw [e]; simp) rfl
theorem c_list_in (h : r < M.length) (ok : OkT T) {o : Ow} (g : o.Rd) (e : rst T p = sepL o.parts) : call (n + 7) .list_in [.o r] (adv M r T p) = .ok (.d o.D) (adv M r T (p + (sepL o.parts).length)) := by
  show runB (call (n + 6)) ir_list_in _ _ = _
  simp only [Ow.parts, sepL, List.append_nil] at e
  have s0 := c_mark1 (n := n + 4) h ok e (by decide)
  have e0 := rst_suc e
  have s1 := c_name (n := n + 3) h ok g.a e0 (by show 32 ∉ signs; decide) (by show 32 ≠ 47; decide)
  have e1 := rst_add _ e0 rfl
  have s2 := c_mark1 (n := n + 4) h ok e1 (by decide)
  have e2 := rst_suc e1
  have s3 := c_numbers (n := n + 3) (b := 4294967295) (c := 1000000) h ok e2 g.key g.num (by have := g.key; omega) (by have := g.num; omega)
  have e3 := rst_two e2
  have s4 := c_base (n := n + 3) h ok e3
  have e4 := rst_add _ e3 rfl
  have s5 := c_mark1 (n := n + 4) h ok e4 (by decide)
  have e5 := rst_suc e4
  have s6 := c_numbers (n := n + 3) (b := 1000000000) (c := 1000000000) h ok e5 g.since g.til (by have := g.since; omega) (by have := g.til; omega)
  have e6 := rst_two e5
  have s7 := c_kind (n := n + 4) h ok e6 g.kind rfl
  have e7 := rst_add _ e6 rfl
  have s8 := c_mark1 (n := n + 4) h ok e7 (by decide)
  have e8 := rst_suc e7
  have s9 := c_truth (n := n + 3) h ok e8 rfl
  have e9 := rst_add _ e8 rfl
  have s10 := c_mark1 (n := n + 4) h ok e9 (by decide)
  have e10 := rst_suc e9
  have s11 := c_lot (n := n) (s := (⟨#[114, 101, 97, 115, 111, 110]⟩ : Str)) (b := 6) (vD := fun w => .str (tx w)) h ok e10 (fun w hw z => by
    obtain ⟨h1, h2⟩ := why_hd w (g.why w hw)
    show hd (w ++ z) ≠ 93
    rw [hd_app h1]; exact h2) g.lot (by decide) fun w hw p y e hy => c_item_reason h ok e (g.why w hw) hy
  have e11 := rst_add _ e10 rfl
  have s12 := c_mark1 (n := n + 4) h ok e11 (by decide)
  have e12 := rst_suc e11
  have s13 := c_lot (n := n) (s := (⟨#[101, 110, 116, 114, 121]⟩ : Str)) (b := 30) (vD := En.D o.a) h ok e12 (fun x hx z => by
    unfold En.L
    rw [List.append_assoc]
    intro q
    have := name_hd g.a ((58 :: (TL.numL x.ser ++ (58 :: (TL.numL 5 ++ (58 :: x.why))))) ++ z)
    rw [q] at this
    exact absurd this (by decide)) g.many (by decide) fun x hx p y e hy => c_item_entry h ok g.a (g.ents x hx).1 (g.ents x hx).2 e hy
  have e13 := rst_add _ e12 rfl
  have s14 := c_mark1 (n := n + 4) h ok e13 (by decide)
  have e14 := rst_suc e13
  have s15 := c_num (n := n + 4) (y := []) (b := 4294967295) h ok (by rw [List.append_nil]; exact e14) g.sg (by have := g.sg; omega) (by decide)
  have k1 : ((4294967295 : Nat) : Int) = 4294967295 := rfl
  have k2 : ((1000000 : Nat) : Int) = 1000000 := rfl
  have k3 : ((1000000000 : Nat) : Int) = 1000000000 := rfl
  have k4 : ((6 : Nat) : Int) = 6 := rfl
  have k5 : ((30 : Nat) : Int) = 30 := rfl
  rw [k1, k2] at s3
  rw [k3] at s6
  rw [k4] at s11
  rw [k5] at s13
  rw [k1] at s15
  have el : p + (sepL o.parts).length = p + 1 + o.a.L.length + 1 + (TL.numL o.key ++ (32 :: (TL.numL o.num ++ [32]))).length + o.baseL.length + 1 + (TL.numL o.since ++ (32 :: (TL.numL o.til ++ [32]))).length + o.sc.kind.length + 1 + (yn o.sc.oth).length + 1 + (lotL id o.sc.lot).length + 1 + (lotL (En.L o.a) o.ents).length + 1 + (TL.numL o.sg).length := by
    simp [Ow.parts, sepL]; omega
  rw [el]
  generalize (TL.numL o.key ++ (32 :: (TL.numL o.num ++ [32]))).length = A at *
  generalize (TL.numL o.since ++ (32 :: (TL.numL o.til ++ [32]))).length = B at *
  simp only [scopes3, List.map_cons, List.map_nil] at s7
  simp [ir_list_in, runB, exSs, exS, evE, evEs, R.bind, R.to, R.of, F.bind, toD, toDs, asDs, binD, cmpD, ixD, toSlD, fromSlD, biD, isiD, dmD, tixD, noX, walked, seqD, boolsD, strsD, unpD, setAll, wipeG, pickD, stillE, List.lookup, fdb, Fn.cls, sh_int, sh_bool, sh_none, eqv_int, eqv_str, lim1, lim2, lim3, lim4, lim5, lim6, lim7, lim8, lim9, lim10, lim11, lim12, adv_at h, rdO, s0, s1, s2, s3, s4, s5, s6, s7, s8, s9, s10, s11, s12, s13, s14, s15, Ow.D, Ow.D8, Sc.D]
end
end K75

set_option Elab.async false
set_option linter.all false
set_option autoImplicit false
set_option maxRecDepth 100000
set_option maxHeartbeats 2000000
/-! Mathematics, part 10: a list's text is read. -/
namespace K75
open PySem
section
variable {n r p : Nat} {M : Sto} {T : Str}
theorem c_read_in (h : r < M.length) (ok : OkT T) {o : Ow} (g : o.Rd) (e : rst T p = ([108, 105, 115, 116] : List Nat) ++ sepL o.parts) : call (n + 8) .read_in [.d (.str (⟨#[108, 105, 115, 116]⟩ : Str)), .o r] (adv M r T p) = .ok (.d o.D) (adv M r T (p + (([108, 105, 115, 116] : List Nat) ++ sepL o.parts).length)) := by
  show runB (call (n + 7)) ir_read_in _ _ = _
  have s1 := c_marks (n := n + 5) (s := (⟨#[108, 105, 115, 116]⟩ : Str)) h ok e (by decide)
  have l1 : ((⟨#[108, 105, 115, 116]⟩ : Str) : Str).length = 4 := rfl
  rw [l1] at s1
  have s2 := c_list_in (n := n) h ok g (rst_add 4 e rfl)
  have el : p + (([108, 105, 115, 116] : List Nat) ++ sepL o.parts).length = p + 4 + (sepL o.parts).length := by simp; omega
  have q0 := sh_of (⟨#[108, 105, 115, 116]⟩ : Str) rfl
  have q1 := sh_of (⟨#[110, 97, 109, 101]⟩ : Str) rfl
  have q2 := sh_of (⟨#[111, 116, 104, 101, 114]⟩ : Str) rfl
  have q3 := sh_of (⟨#[115, 117, 98, 116, 114, 101, 101]⟩ : Str) rfl
  have q4 := sh_of (⟨#[113, 117, 101, 115, 116, 105, 111, 110]⟩ : Str) rfl
  have q5 := sh_of (⟨#[115, 116, 111, 114, 101]⟩ : Str) rfl
  have q6 := sh_of (⟨#[99, 101, 114, 116, 105, 102, 105, 99, 97, 116, 101]⟩ : Str) rfl
  rw [el]
  simp [ir_read_in, runB, exSs, exS, evE, evEs, R.bind, R.to, R.of, F.bind, toD, toDs, asDs, binD, cmpD, ixD, toSlD, fromSlD, biD, isiD, dmD, tixD, noX, walked, seqD, boolsD, strsD, unpD, setAll, wipeG, pickD, stillE, List.lookup, fdb, Fn.cls, sh_int, sh_bool, sh_none, eqv_int, eqv_str, lim1, lim2, lim3, lim4, lim5, lim6, lim7, lim8, lim9, lim10, lim11, lim12, adv_at h, rdO, q0, q1, q2, q3, q4, q5, q6, s1, s2]
theorem c_init (h : M[r]? = some (.ins .reading [])) : call (n + 1) .r_init [.o r, .d (.str T)] M = .ok (.d .none) (adv M r T 0) := by
  show runB (call n) ir_r_init _ _ = _
  have l : r < M.length := (List.getElem?_eq_some_iff.mp h).1
  have h2 : ∀ x : MO, (M.set r x)[r]? = some x := fun x => by simp [l]
  simp [ir_r_init, runB, exSs, exS, evE, evEs, R.bind, R.to, R.of, F.bind, toD, toDs, asDs, binD, cmpD, ixD, toSlD, fromSlD, biD, isiD, dmD, tixD, noX, walked, seqD, boolsD, strsD, unpD, setAll, wipeG, pickD, stillE, List.lookup, fdb, Fn.cls, sh_int, sh_bool, sh_none, eqv_int, eqv_str, lim1, lim2, lim3, lim4, lim5, lim6, lim7, lim8, lim9, lim10, lim11, lim12, h, h2, putFd, adv, rdO]
/-- a Reading is made -/
theorem ev_mk {G : Loc} {a : E} (ha : evE (call (n + 1)) a G M = .ok (.d (.str T)) M) : evE (call (n + 1)) (.mk .reading (.cons a .nil)) G M = .ok (.o M.length) (adv (M ++ [.ins .reading []]) M.length T 0) := by
  have i := c_init (n := n) (T := T) (M := M ++ [.ins .reading []]) (r := M.length) (by simp)
  simp [evE, evEs, ha, R.bind, Cl.init, i]
theorem adv_take {q : Nat} : (adv (M ++ [.ins .reading []]) M.length T q).take M.length = M := by simp [adv]
theorem c_read_by (ok : OkT T) {o : Ow} (g : o.Rd) (e : T.cps.toList = ([108, 105, 115, 116] : List Nat) ++ sepL o.parts) : call (n + 9) .read_by [.d (.str (⟨#[108, 105, 115, 116]⟩ : Str)), .d (.str T)] M = .ok (.d o.D) M := by
  show runB (call (n + 8)) ir_read_by _ _ = _
  have h : M.length < (M ++ [MO.ins .reading []]).length := by simp
  have e0 : rst T 0 = ([108, 105, 115, 116] : List Nat) ++ sepL o.parts := e
  have s1 := c_read_in (n := n) (p := 0) h ok g e0
  have e1 := rst_add (y := []) ((([108, 105, 115, 116] : List Nat) ++ sepL o.parts).length) (by rw [List.append_nil]; exact e0) rfl
  have s2 := c_ends (n := n + 7) h ok.lim e1
  generalize (([108, 105, 115, 116] : List Nat) ++ sepL o.parts).length = A at *
  have mk := ev_mk (n := n + 7) (M := M) (T := T) (G := [some (.d (.str (⟨#[108, 105, 115, 116]⟩ : Str))), some (.d (.str T)), none, none]) (a := .v 1) (by simp [evE])
  have tk := adv_take (M := M) (T := T) (q := 0 + A)
  have at_ := adv_at (T := T) (p := 0 + A) h
  rw [Nat.zero_add] at s1 s2 tk at_
  simp only [ir_read_by, runB, exSs, exS, List.length_cons, List.length_nil, List.map_cons, List.map_nil, List.replicate_succ, List.replicate_zero, List.cons_append, List.nil_append, if_true, mk, R.to, F.bind]
  simp [evE, evEs, R.bind, s1, R.to, F.bind, at_, rdO, Fn.cls, s2, tk]
end
end K75

set_option Elab.async false
set_option linter.all false
set_option autoImplicit false
set_option maxRecDepth 100000
set_option maxHeartbeats 2000000
/-! Mathematics, part 11: names, entries, scopes, lists are fit. -/
namespace K75
open PySem
section
variable {n : Nat} {M : Sto}
def tupB : PyData → Int → Int → Bool
  | .tuple xs, a, b => decide (a ≤ xs.length) && decide ((xs.length : Int) ≤ b)
  | _, _, _ => false
theorem c_is_tuple_of (d : PyData) (a b : Int) : call (n + 1) .is_tuple_of [.d d, .d (.int a), .d (.int b)] M = .ok (.d (.bool (tupB d a b))) M := by
  show runB (call n) ir_is_tuple_of _ _ = _
  cases d with
  | tuple xs => by_cases h1 : a ≤ (xs.length : Int) <;> by_cases h2 : (xs.length : Int) ≤ b <;> simp [ir_is_tuple_of, runB, exSs, exS, evE, evEs, R.bind, R.to, R.of, F.bind, toD, toDs, asDs, binD, cmpD, ixD, toSlD, fromSlD, biD, isiD, dmD, tixD, noX, walked, seqD, boolsD, strsD, unpD, setAll, wipeG, pickD, stillE, List.lookup, fdb, Fn.cls, sh_int, sh_bool, sh_none, eqv_int, eqv_str, lim1, lim2, lim3, lim4, lim5, lim6, lim7, lim8, lim9, lim10, lim11, lim12, tupB, h1, h2]
  | _ => simp [ir_is_tuple_of, runB, exSs, exS, evE, evEs, R.bind, R.to, R.of, F.bind, toD, toDs, asDs, binD, cmpD, ixD, toSlD, fromSlD, biD, isiD, dmD, tixD, noX, walked, seqD, boolsD, strsD, unpD, setAll, wipeG, pickD, stillE, List.lookup, fdb, Fn.cls, sh_int, sh_bool, sh_none, eqv_int, eqv_str, lim1, lim2, lim3, lim4, lim5, lim6, lim7, lim8, lim9, lim10, lim11, lim12, tupB]
theorem c_is_truth (b : Bool) : call (n + 1) .is_truth [.d (.bool b)] M = .ok (.d (.bool true)) M := by
  show runB (call n) ir_is_truth _ _ = _
  simp [ir_is_truth, runB, exSs, exS, evE, evEs, R.bind, R.to, R.of, F.bind, toD, toDs, asDs, binD, cmpD, ixD, toSlD, fromSlD, biD, isiD, dmD, tixD, noX, walked, seqD, boolsD, strsD, unpD, setAll, wipeG, pickD, stillE, List.lookup, fdb, Fn.cls, sh_int, sh_bool, sh_none, eqv_int, eqv_str, lim1, lim2, lim3, lim4, lim5, lim6, lim7, lim8, lim9, lim10, lim11, lim12]
def A_word : E := .bi .all (.cons (.comp 1 (.v 0) (.cmp .isIn (.v 1) (.g (⟨#[83, 73, 71, 78, 83, 95, 118, 97, 108, 117, 101, 115]⟩ : Str) (.str (tx signs))))) .nil)
theorem ir_fits_word_is : ir_fits_word = ⟨1, 1, .cons (.ret (.and (.isi (.v 0) .str) (.and (.chain (.k (.int 1)) (.bi .len (.cons (.v 0) .nil)) (.g (⟨#[76, 79, 78, 71, 69, 83, 84]⟩ : Str) (.int 12))) A_word))) .nil, false⟩ := rfl
theorem c_fits_word {w : List Nat} (h : Wo w) : call (n + 1) .fits_word [.d (.str (tx w))] M = .ok (.d (.bool true)) M := by
  show runB (call n) ir_fits_word _ _ = _
  have l := h.len
  have l0 : 0 < w.length := List.length_pos_iff.mpr h.ne
  have l2 : w.length ≤ lim := by unfold lim; omega
  have q := ev_all (Φ := call n) (M := M) (G := [some (.d (.str (tx w))), none]) (it := .v 0) (i := 1) (elt := .cmp .isIn (.v 1) (.g (⟨#[83, 73, 71, 78, 83, 95, 118, 97, 108, 117, 101, 115]⟩ : Str) (.str (tx signs)))) (d := .str (tx w)) (xs := w.map ch1) (p := fun _ => true) (by simp [evE]) (by simp [seqD, ch1]) (by simpa using l2) fun x hx => by
    obtain ⟨c, hc, rfl⟩ := List.mem_map.mp hx
    simp [runB, exSs, exS, evE, evEs, R.bind, R.to, R.of, F.bind, toD, toDs, asDs, binD, cmpD, ixD, toSlD, fromSlD, biD, isiD, dmD, tixD, noX, walked, seqD, boolsD, strsD, unpD, setAll, wipeG, pickD, stillE, List.lookup, fdb, Fn.cls, sh_int, sh_bool, sh_none, eqv_int, eqv_str, lim1, lim2, lim3, lim4, lim5, lim6, lim7, lim8, lim9, lim10, lim11, lim12, ch1, h.ch c hc]
  rw [ir_fits_word_is]
  have q2 : evE (call n) A_word [some (.d (.str (tx w))), none] M = .ok (.d (.bool true)) M := by
    unfold A_word
    rw [q]
    simp
  have k1 : (1 : Int) ≤ (w.length : Int) := by omega
  have k2 : (w.length : Int) ≤ 12 := by omega
  simp [runB, exSs, exS, evE, evEs, R.bind, R.to, R.of, F.bind, toD, toDs, asDs, binD, cmpD, ixD, toSlD, fromSlD, biD, isiD, dmD, tixD, noX, walked, seqD, boolsD, strsD, unpD, setAll, wipeG, pickD, stillE, List.lookup, fdb, Fn.cls, sh_int, sh_bool, sh_none, eqv_int, eqv_str, lim1, lim2, lim3, lim4, lim5, lim6, lim7, lim8, lim9, lim10, lim11, lim12, tx_len, l2, k1, k2, q2]
def A_words : E := .bi .all (.cons (.comp 3 (.v 0) (.call .fits_word (.cons (.v 3) .nil))) .nil)
theorem ir_fits_words_is : ir_fits_words = ⟨3, 1, .cons (.ret (.and (.call .is_tuple_of (.cons (.v 0) (.cons (.v 1) (.cons (.v 2) .nil)))) A_words)) .nil, false⟩ := rfl
theorem c_fits_name {a : Nm} (o : a.Ok) : call (n + 3) .fits_name [.d a.D] M = .ok (.d (.bool true)) M := by
  have f : call (n + 2) .fits_words [.d a.D, .d (.int 1), .d (.int 4)] M = .ok (.d (.bool true)) M := by
    show runB (call (n + 1)) ir_fits_words _ _ = _
    have l := o.len
    have q := ev_all (Φ := call (n + 1)) (M := M) (G := [some (.d a.D), some (.d (.int 1)), some (.d (.int 4)), none]) (it := .v 0) (i := 3) (elt := .call .fits_word (.cons (.v 3) .nil)) (d := a.D) (xs := (a.w :: a.ws).map fun v => .str (tx v)) (p := fun _ => true) (by simp [evE]) rfl (by simp; unfold lim; omega) fun x hx => by
      obtain ⟨w, hw, rfl⟩ := List.mem_map.mp hx
      simp [runB, exSs, exS, evE, evEs, R.bind, R.to, R.of, F.bind, toD, toDs, asDs, binD, cmpD, ixD, toSlD, fromSlD, biD, isiD, dmD, tixD, noX, walked, seqD, boolsD, strsD, unpD, setAll, wipeG, pickD, stillE, List.lookup, fdb, Fn.cls, sh_int, sh_bool, sh_none, eqv_int, eqv_str, lim1, lim2, lim3, lim4, lim5, lim6, lim7, lim8, lim9, lim10, lim11, lim12, c_fits_word (o.wo w hw)]
    have q2 : evE (call (n + 1)) A_words [some (.d a.D), some (.d (.int 1)), some (.d (.int 4)), none] M = .ok (.d (.bool true)) M := by
      unfold A_words
      rw [q]
      simp
    have t : tupB a.D 1 4 = true := by
      simp [tupB, Nm.D]
      omega
    rw [ir_fits_words_is]
    simp [runB, exSs, exS, evE, evEs, R.bind, R.to, R.of, F.bind, toD, toDs, asDs, binD, cmpD, ixD, toSlD, fromSlD, biD, isiD, dmD, tixD, noX, walked, seqD, boolsD, strsD, unpD, setAll, wipeG, pickD, stillE, List.lookup, fdb, Fn.cls, sh_int, sh_bool, sh_none, eqv_int, eqv_str, lim1, lim2, lim3, lim4, lim5, lim6, lim7, lim8, lim9, lim10, lim11, lim12, c_is_tuple_of, t, q2]
  show runB (call (n + 2)) ir_fits_name _ _ = _
  simp [ir_fits_name, runB, exSs, exS, evE, evEs, R.bind, R.to, R.of, F.bind, toD, toDs, asDs, binD, cmpD, ixD, toSlD, fromSlD, biD, isiD, dmD, tixD, noX, walked, seqD, boolsD, strsD, unpD, setAll, wipeG, pickD, stillE, List.lookup, fdb, Fn.cls, sh_int, sh_bool, sh_none, eqv_int, eqv_str, lim1, lim2, lim3, lim4, lim5, lim6, lim7, lim8, lim9, lim10, lim11, lim12, f]
theorem c_fits_name_no {d : PyData} (h : tupB d 1 4 = false) : call (n + 3) .fits_name [.d d] M = .ok (.d (.bool false)) M := by
  have f : call (n + 2) .fits_words [.d d, .d (.int 1), .d (.int 4)] M = .ok (.d (.bool false)) M := by
    show runB (call (n + 1)) ir_fits_words _ _ = _
    rw [ir_fits_words_is]
    simp [runB, exSs, exS, evE, evEs, R.bind, R.to, R.of, F.bind, toD, toDs, asDs, binD, cmpD, ixD, toSlD, fromSlD, biD, isiD, dmD, tixD, noX, walked, seqD, boolsD, strsD, unpD, setAll, wipeG, pickD, stillE, List.lookup, fdb, Fn.cls, sh_int, sh_bool, sh_none, eqv_int, eqv_str, lim1, lim2, lim3, lim4, lim5, lim6, lim7, lim8, lim9, lim10, lim11, lim12, c_is_tuple_of, h]
  show runB (call (n + 2)) ir_fits_name _ _ = _
  simp [ir_fits_name, runB, exSs, exS, evE, evEs, R.bind, R.to, R.of, F.bind, toD, toDs, asDs, binD, cmpD, ixD, toSlD, fromSlD, biD, isiD, dmD, tixD, noX, walked, seqD, boolsD, strsD, unpD, setAll, wipeG, pickD, stillE, List.lookup, fdb, Fn.cls, sh_int, sh_bool, sh_none, eqv_int, eqv_str, lim1, lim2, lim3, lim4, lim5, lim6, lim7, lim8, lim9, lim10, lim11, lim12, f]
theorem c_need_name {a : Nm} (o : a.Ok) : call (n + 4) .need_name [.d a.D] M = .ok (.d .none) M := by
  show runB (call (n + 3)) ir_need_name _ _ = _
  simp [ir_need_name, runB, exSs, exS, evE, evEs, R.bind, R.to, R.of, F.bind, toD, toDs, asDs, binD, cmpD, ixD, toSlD, fromSlD, biD, isiD, dmD, tixD, noX, walked, seqD, boolsD, strsD, unpD, setAll, wipeG, pickD, stillE, List.lookup, fdb, Fn.cls, sh_int, sh_bool, sh_none, eqv_int, eqv_str, lim1, lim2, lim3, lim4, lim5, lim6, lim7, lim8, lim9, lim10, lim11, lim12, c_fits_name o]
theorem c_need_name_no {d : PyData} (h : tupB d 1 4 = false) : call (n + 4) .need_name [.d d] M = .ex .name M := by
  show runB (call (n + 3)) ir_need_name _ _ = _
  simp [ir_need_name, runB, exSs, exS, evE, evEs, R.bind, R.to, R.of, F.bind, toD, toDs, asDs, binD, cmpD, ixD, toSlD, fromSlD, biD, isiD, dmD, tixD, noX, walked, seqD, boolsD, strsD, unpD, setAll, wipeG, pickD, stillE, List.lookup, fdb, Fn.cls, sh_int, sh_bool, sh_none, eqv_int, eqv_str, lim1, lim2, lim3, lim4, lim5, lim6, lim7, lim8, lim9, lim10, lim11, lim12, c_fits_name_no h]
end
end K75

set_option Elab.async false
set_option linter.all false
set_option autoImplicit false
set_option maxRecDepth 100000
set_option maxHeartbeats 2000000
/-! Mathematics, part 12: ascending things; entries, scopes, lists are fit. -/
namespace K75
open PySem
section
variable {n : Nat} {M : Sto}
theorem ev_compZ {Φ : Env} {G : Loc} {a b elt : E} {i j : Nat} {xs ys : List PyData} (h1 : evE Φ a G M = .ok (.d (.tuple xs)) M) (h2 : evE Φ b G M = .ok (.d (.tuple ys)) M) (hl : xs.length ≤ lim)
    (h : ∀ q ∈ xs.zip ys, evE Φ elt (((wipeG G [i, j]).set i (some (.d q.1))).set j (some (.d q.2))) M = .ok (.d (.bool true)) M) : evE Φ (.bi .all (.cons (.compZ i j a b elt) .nil)) G M = .ok (.d (.bool true)) M := by
  have go := compL_map (M := M) (put := fun x => unpD (wipeG G [i, j]) [i, j] x) (c := fun _ M => .ok (.d (.bool true)) M) (elt := fun G M => evE Φ elt G M) (f := fun _ => .bool true) (xs := (xs.zip ys).map fun q => .tuple [q.1, q.2]) (acc := []) (fun x hx => by
      obtain ⟨q, hq, rfl⟩ := List.mem_map.mp hx
      exact ⟨_, rfl, rfl, h q hq⟩) (by simp; omega)
  have e : evE Φ (.compZ i j a b elt) G M = .ok (.d (.list (((xs.zip ys).map fun q => PyData.tuple [q.1, q.2]).map fun _ => .bool true))) M := by
    unfold evE
    simp only [h1, h2, R.bind, go, noX, List.nil_append]
  have b : ∀ ys : List PyData, boolsD (ys.map fun _ => .bool true) = some (ys.map fun _ => true) := fun ys => boolsD_map ys
  rw [evE, evEs, e]
  simp only [R.bind, evEs, toDs, toD, biD, b, R.of, Option.map]
  simp
theorem c_asc {xs : List PyData} (h : ∀ q ∈ xs.zip (xs.drop 1), cmpD .lt q.1 q.2 = some true) (l : xs.length ≤ 1000) : call (n + 1) .is_ascending [.d (.tuple xs)] M = .ok (.d (.bool true)) M := by
  show runB (call n) ir_is_ascending _ _ = _
  have e := ev_compZ (Φ := call n) (M := M) (G := [some (.d (.tuple xs)), none, none]) (a := .v 0) (b := .slFrom (.v 0) (.k (.int 1))) (elt := .cmp .lt (.v 1) (.v 2)) (i := 1) (j := 2) (xs := xs) (ys := xs.drop 1) (by simp [evE]) (by simp [runB, exSs, exS, evE, evEs, R.bind, R.to, R.of, F.bind, toD, toDs, asDs, binD, cmpD, ixD, toSlD, fromSlD, biD, isiD, dmD, tixD, noX, walked, seqD, boolsD, strsD, unpD, setAll, wipeG, pickD, stillE, List.lookup, fdb, Fn.cls, sh_int, sh_bool, sh_none, eqv_int, eqv_str, lim1, lim2, lim3, lim4, lim5, lim6, lim7, lim8, lim9, lim10, lim11, lim12]) (by unfold lim; omega) fun q hq => by
    have z := h q hq
    simp [evE, R.bind, toD, R.of, z, wipeG]
  simp only [ir_is_ascending, runB, exSs, exS, List.length_cons, List.length_nil, List.map_cons, List.map_nil, List.replicate_succ, List.replicate_zero, List.cons_append, List.nil_append, if_true, e, R.to, F.bind]
  simp
theorem sh_tx {w : List Nat} (h : ∀ c ∈ w, c < 256) : SeqAt.shaped (.str (tx w)) = true := sh_of _ (by
  show ((tx w).cps.toList.all fun c => decide (c < 256)) = true
  simpa using h)
theorem why_ok : ∀ w ∈ whys, SeqAt.shaped (.str (tx w)) = true ∧ tx w ∈ reasons8 ∧ tx w ∈ reasons7 ∧ ¬ (tx w = (⟨#[98, 97, 99, 107]⟩ : Str)) ∧ (∀ c ∈ w, c < 128) ∧ w.length ≤ 10 := by decide +kernel
theorem wholeB_nat {i b : Nat} (h : i ≤ b) : wholeB (.int i) 0 b = true := by
  simp [wholeB]
  omega
theorem c_fits_entry {a : Nm} (o : a.Ok) {x : En} (h1 : x.ser ≤ 1000000) (h2 : x.why ∈ whys) : call (n + 4) .fits_entry [.d (x.D a)] M = .ok (.d (.bool true)) M := by
  show runB (call (n + 3)) ir_fits_entry _ _ = _
  obtain ⟨s1, s2, _⟩ := why_ok _ h2
  have t : tupB (x.D a) 4 4 = true := rfl
  have q1 : wholeB (.int x.ser) 0 1000000 = true := wholeB_nat (b := 1000000) h1
  have q2 : wholeB (.int 5) 0 1000000000 = true := rfl
  have s3 : SeqAt.shaped (.tuple (reasons8.map .str)) = true := by decide +kernel
  have s4 : hasIn (.str (tx x.why)) (reasons8.map .str) = true := by rw [hasIn_str]; simpa using s2
  simp only [reasons8, List.map_cons, List.map_nil] at s3 s4
  have e : x.D a = .tuple [a.D, .int x.ser, .int 5, .str (tx x.why)] := rfl
  rw [e] at t ⊢
  simp [ir_fits_entry, runB, exSs, exS, evE, evEs, R.bind, R.to, R.of, F.bind, toD, toDs, asDs, binD, cmpD, ixD, toSlD, fromSlD, biD, isiD, dmD, tixD, noX, walked, seqD, boolsD, strsD, unpD, setAll, wipeG, pickD, stillE, List.lookup, fdb, Fn.cls, sh_int, sh_bool, sh_none, eqv_int, eqv_str, lim1, lim2, lim3, lim4, lim5, lim6, lim7, lim8, lim9, lim10, lim11, lim12, c_is_tuple_of, t, c_fits_name o, c_is_whole, q1, q2, s1, s3, s4]
/-- a lot of reasons that goes up -/
def lotUp (l : List (List Nat)) : Prop := ∀ q ∈ (l.map fun w => PyData.str (tx w)).zip ((l.map fun w => PyData.str (tx w)).drop 1), cmpD .lt q.1 q.2 = some true
def A_lot : E := .bi .all (.cons (.comp 4 (.v 0) (.and (.isi (.v 4) .str) (.cmp .isIn (.v 4) (.v 3)))) .nil)
theorem ir_lot : ir_fits_lot = ⟨4, 1, .cons (.ite (.or (.not (.call .is_tuple_of (.cons (.v 0) (.cons (.v 1) (.cons (.v 2) .nil))))) (.not A_lot)) (.cons (.ret (.k (.bool false))) .nil) .nil) (.cons (.ret (.call .is_ascending (.cons (.v 0) .nil))) .nil), false⟩ := rfl
theorem c_fits_lot {l : List (List Nat)} (h0 : l.length ≤ 6) (h1 : ∀ w ∈ l, w ∈ whys) (h2 : lotUp l) : call (n + 2) .fits_lot [.d (.tuple (l.map fun w => .str (tx w))), .d (.int 0), .d (.int 6), .d (.tuple (reasons7.map .str))] M = .ok (.d (.bool true)) M := by
  show runB (call (n + 1)) ir_fits_lot _ _ = _
  have s3 : SeqAt.shaped (.tuple (reasons7.map .str)) = true := by decide +kernel
  have t : tupB (.tuple (l.map fun w => .str (tx w))) 0 6 = true := by
    simp [tupB]
    omega
  have q := ev_all (Φ := call (n + 1)) (M := M) (G := [some (.d (.tuple (l.map fun w => .str (tx w)))), some (.d (.int 0)), some (.d (.int 6)), some (.d (.tuple (reasons7.map .str))), none]) (it := .v 0) (i := 4) (elt := .and (.isi (.v 4) .str) (.cmp .isIn (.v 4) (.v 3))) (d := .tuple (l.map fun w => .str (tx w))) (p := fun _ => true) (by simp [evE]) rfl (by simp; unfold lim; omega) fun x hx => by
    obtain ⟨w, hw, rfl⟩ := List.mem_map.mp hx
    obtain ⟨s1, _, s2, _⟩ := why_ok _ (h1 w hw)
    have s4 : hasIn (.str (tx w)) (reasons7.map .str) = true := by rw [hasIn_str]; simpa using s2
    simp only [reasons7, List.map_cons, List.map_nil] at s3 s4 ⊢
    simp [runB, exSs, exS, evE, evEs, R.bind, R.to, R.of, F.bind, toD, toDs, asDs, binD, cmpD, ixD, toSlD, fromSlD, biD, isiD, dmD, tixD, noX, walked, seqD, boolsD, strsD, unpD, setAll, wipeG, pickD, stillE, List.lookup, fdb, Fn.cls, sh_int, sh_bool, sh_none, eqv_int, eqv_str, lim1, lim2, lim3, lim4, lim5, lim6, lim7, lim8, lim9, lim10, lim11, lim12, s1, s3, s4]
  have q2 : evE (call (n + 1)) A_lot [some (.d (.tuple (l.map fun w => .str (tx w)))), some (.d (.int 0)), some (.d (.int 6)), some (.d (.tuple (reasons7.map .str))), none] M = .ok (.d (.bool true)) M := by
    unfold A_lot
    rw [q]
    simp
  have up := c_asc (n := n) (M := M) h2 (by simp; omega)
  rw [ir_lot]
  simp [runB, exSs, exS, evE, evEs, R.bind, R.to, R.of, F.bind, toD, toDs, asDs, binD, cmpD, ixD, toSlD, fromSlD, biD, isiD, dmD, tixD, noX, walked, seqD, boolsD, strsD, unpD, setAll, wipeG, pickD, stillE, List.lookup, fdb, Fn.cls, sh_int, sh_bool, sh_none, eqv_int, eqv_str, lim1, lim2, lim3, lim4, lim5, lim6, lim7, lim8, lim9, lim10, lim11, lim12, c_is_tuple_of, t, q2, up]
end
end K75

set_option Elab.async false
set_option linter.all false
set_option autoImplicit false
set_option maxRecDepth 100000
set_option maxHeartbeats 2000000
/-! Mathematics, part 13: scopes, lists are fit. -/
namespace K75
open PySem
section
variable {n : Nat} {M : Sto}
theorem c_fits_scope {s : Sc} (h0 : s.kind ∈ kinds) (h1 : s.lot.length ≤ 6) (h2 : ∀ w ∈ s.lot, w ∈ whys) (h3 : lotUp s.lot) : call (n + 3) .fits_scope [.d s.D] M = .ok (.d (.bool true)) M := by
  show runB (call (n + 2)) ir_fits_scope _ _ = _
  have one : ∀ w ∈ kinds, SeqAt.shaped (.str (tx w)) = true ∧ tx w ∈ scopes3 := by decide +kernel
  obtain ⟨k1, k2⟩ := one _ h0
  have s3 : SeqAt.shaped (.tuple (scopes3.map .str)) = true := by decide +kernel
  have s4 : hasIn (.str (tx s.kind)) (scopes3.map .str) = true := by rw [hasIn_str]; simpa using k2
  have lt := c_fits_lot (n := n) (M := M) h1 h2 h3
  have t : tupB s.D 3 3 = true := rfl
  have e : s.D = .tuple [.str (tx s.kind), .bool s.oth, .tuple (s.lot.map fun w => .str (tx w))] := rfl
  rw [e] at t ⊢
  simp only [scopes3, List.map_cons, List.map_nil] at s3 s4
  simp only [reasons7, List.map_cons, List.map_nil] at lt
  simp [ir_fits_scope, runB, exSs, exS, evE, evEs, R.bind, R.to, R.of, F.bind, toD, toDs, asDs, binD, cmpD, ixD, toSlD, fromSlD, biD, isiD, dmD, tixD, noX, walked, seqD, boolsD, strsD, unpD, setAll, wipeG, pickD, stillE, List.lookup, fdb, Fn.cls, sh_int, sh_bool, sh_none, eqv_int, eqv_str, lim1, lim2, lim3, lim4, lim5, lim6, lim7, lim8, lim9, lim10, lim11, lim12, c_is_tuple_of, t, k1, s3, s4, c_is_truth, lt]
/-- an entry of a list of such a scope -/
def lotOk (s : Sc) (w : List Nat) : Prop := s.lot = [] ∨ w ∈ s.lot
def B_within : Ss := .cons (.ite (.or (.and (.cmp .ne (.v 4) (.v 1)) (.not (.ix (.v 3) (.k (.int 1))))) (.and (.cmp .eq (.v 7) (.g (⟨#[66, 65, 67, 75]⟩ : Str) (.str (⟨#[98, 97, 99, 107]⟩ : Str)))) (.cmp .lt (.v 2) (.k (.int 0))))) (.cons (.ret (.k (.bool false))) .nil) .nil)
    (.cons (.ite (.and (.cmp .ne (.v 7) (.g (⟨#[66, 65, 67, 75]⟩ : Str) (.str (⟨#[98, 97, 99, 107]⟩ : Str)))) (.and (.cmp .ne (.ix (.v 3) (.k (.int 2))) (.tup .nil)) (.cmp .notIn (.v 7) (.ix (.v 3) (.k (.int 2)))))) (.cons (.ret (.k (.bool false))) .nil) .nil) .nil)
theorem ir_within : ir_fits_within = ⟨1, 7, .cons (.par3 1 2 3 (.ix (.v 0) (.k (.int 0))) (.ix (.v 0) (.k (.int 3))) (.ix (.v 0) (.k (.int 6)))) (.cons (.forU [4, 5, 6, 7] (.ix (.v 0) (.k (.int 7))) B_within) (.cons (.ret (.k (.bool true))) .nil)), false⟩ := rfl
/-! ### how deep data are -/
def Dpt (k : Nat) (d : PyData) : Prop := d.canLay0 = true ∧ d.depth ≤ k
theorem Dpt.sh {k : Nat} {d : PyData} (h : Dpt k d) (hk : k ≤ 64) : SeqAt.shaped d = true := by
  unfold SeqAt.shaped
  rw [h.1]
  simp
  have := h.2
  omega
theorem Dpt.mono {j k : Nat} {d : PyData} (h : Dpt j d) (hk : j ≤ k) : Dpt k d := ⟨h.1, Nat.le_trans h.2 hk⟩
theorem dpt_all {k : Nat} : ∀ {xs : List PyData}, (∀ x ∈ xs, Dpt k x) → PyData.canLayAll0 xs = true ∧ PyData.depthAll xs ≤ k
  | [], _ => ⟨rfl, Nat.zero_le _⟩
  | x :: r, h => by
    obtain ⟨h1, h2⟩ := dpt_all (xs := r) fun y hy => h y (List.mem_cons_of_mem _ hy)
    have h0 := h x List.mem_cons_self
    refine ⟨by rw [PyData.canLayAll0, h0.1, h1]; rfl, ?_⟩
    have e : PyData.depthAll (x :: r) = max x.depth (PyData.depthAll r) := by rw [PyData.depthAll]
    rw [e]
    exact Nat.max_le.mpr ⟨h0.2, h2⟩
theorem dpt_tup {k : Nat} {xs : List PyData} (h : ∀ x ∈ xs, Dpt k x) : Dpt (k + 1) (.tuple xs) := by
  obtain ⟨h1, h2⟩ := dpt_all h
  refine ⟨by rw [PyData.canLay0]; exact h1, ?_⟩
  have e : PyData.depth (.tuple xs) = PyData.depthAll xs + 1 := by simp [PyData.depth, Nat.add_comm]
  omega
theorem dpt_lst {k : Nat} {xs : List PyData} (h : ∀ x ∈ xs, Dpt k x) : Dpt (k + 1) (.list xs) := by
  obtain ⟨h1, h2⟩ := dpt_all h
  refine ⟨by rw [PyData.canLay0]; exact h1, ?_⟩
  have e : PyData.depth (.list xs) = PyData.depthAll xs + 1 := by simp [PyData.depth, Nat.add_comm]
  omega
theorem dpt_int (i : Int) : Dpt 0 (.int i) := ⟨rfl, by simp [PyData.depth]⟩
theorem dpt_bool (i : Bool) : Dpt 0 (.bool i) := ⟨rfl, by simp [PyData.depth]⟩
theorem dpt_str {w : List Nat} (h : ∀ c ∈ w, c < 256) : Dpt 0 (.str (tx w)) := by
  have := sh_tx h
  unfold SeqAt.shaped at this
  rw [Bool.and_eq_true] at this
  exact ⟨this.1, by simp [PyData.depth]⟩
theorem signs_lt : ∀ c ∈ signs, c < 128 := by decide
theorem dpt_nm {a : Nm} (o : a.Ok) : Dpt 1 a.D := dpt_tup fun x hx => by
  obtain ⟨w, hw, rfl⟩ := List.mem_map.mp hx
  exact dpt_str fun c hc => Nat.lt_trans (signs_lt c ((o.wo w hw).ch c hc)) (by decide)
end
end K75

set_option Elab.async false
set_option linter.all false
set_option autoImplicit false
set_option maxRecDepth 100000
set_option maxHeartbeats 2000000
/-! Mathematics, part 14: lists are fit. -/
namespace K75
open PySem
section
variable {n : Nat} {M : Sto}
theorem within_step {a : Nm} (o : a.Ok) {s : Sc} {x : En} {base : Int} {v0 a4 a5 a6 a7 : Option Val} (h2 : x.why ∈ whys) (h3 : lotOk s x.why) (hs : ∀ w ∈ s.lot, w ∈ whys) :
    exSs (call (n + 1)) B_within [v0, some (.d a.D), some (.d (.int base)), some (.d s.D), some (.d a.D), some (.d (.int x.ser)), some (.d (.int 5)), some (.d (.str (tx x.why)))] M =
      .nx [v0, some (.d a.D), some (.d (.int base)), some (.d s.D), some (.d a.D), some (.d (.int x.ser)), some (.d (.int 5)), some (.d (.str (tx x.why)))] M := by
  obtain ⟨s1, _, _, nb, _⟩ := why_ok _ h2
  have q1 := (dpt_nm o).sh (by decide)
  have q2 : PyData.eqv a.D a.D = true := SeqAt.eqv_refl _ (dpt_nm o).1
  have q3 := sh_of (⟨#[98, 97, 99, 107]⟩ : Str) rfl
  have e : s.D = .tuple [.str (tx s.kind), .bool s.oth, .tuple (s.lot.map fun w => .str (tx w))] := rfl
  have d4 : Dpt 1 (.tuple (s.lot.map fun w => .str (tx w))) := dpt_tup fun y hy => by
    obtain ⟨w, hw, rfl⟩ := List.mem_map.mp hy
    exact dpt_str fun c hc => Nat.lt_trans ((why_ok _ (hs w hw)).2.2.2.2.1 c hc) (by decide)
  have q4 := d4.sh (by decide)
  have q5 : SeqAt.shaped (.tuple []) = true := by decide +kernel
  have q7 : PyData.eqv (.tuple []) (.tuple []) = true := SeqAt.eqv_refl _ rfl
  rcases h3 with z | z
  · simp [B_within, runB, exSs, exS, evE, evEs, R.bind, R.to, R.of, F.bind, toD, toDs, asDs, binD, cmpD, ixD, toSlD, fromSlD, biD, isiD, dmD, tixD, noX, walked, seqD, boolsD, strsD, unpD, setAll, wipeG, pickD, stillE, List.lookup, fdb, Fn.cls, sh_int, sh_bool, sh_none, eqv_int, eqv_str, lim1, lim2, lim3, lim4, lim5, lim6, lim7, lim8, lim9, lim10, lim11, lim12, e, z, q1, q2, q3, q5, q7, s1, nb]
  · have q6 : hasIn (.str (tx x.why)) (s.lot.map fun w => .str (tx w)) = true := by
      have := @hasIn_str (tx x.why) (s.lot.map tx)
      rw [List.map_map] at this
      rw [show (s.lot.map fun w => PyData.str (tx w)) = s.lot.map (PyData.str ∘ tx) from rfl, this]
      simpa using z
    cases r : PyData.eqv (.tuple (s.lot.map fun w => .str (tx w))) (.tuple []) <;> simp [B_within, runB, exSs, exS, evE, evEs, R.bind, R.to, R.of, F.bind, toD, toDs, asDs, binD, cmpD, ixD, toSlD, fromSlD, biD, isiD, dmD, tixD, noX, walked, seqD, boolsD, strsD, unpD, setAll, wipeG, pickD, stillE, List.lookup, fdb, Fn.cls, sh_int, sh_bool, sh_none, eqv_int, eqv_str, lim1, lim2, lim3, lim4, lim5, lim6, lim7, lim8, lim9, lim10, lim11, lim12, e, q1, q2, q3, q4, q5, q6, r, s1, nb]
/-- a list that is fit -/
structure Ow.Fit (o : Ow) : Prop extends o.Rd where
  up : lotUp o.sc.lot
  base : (if o.whole then (-1 : Int) else 0) ≤ (o.num : Int) - 1
  til2 : o.since ≤ o.til
  in_ : ∀ x ∈ o.ents, lotOk o.sc x.why
  asc : ∀ q ∈ (o.ents.map fun x => PyData.tuple [o.a.D, .int x.ser]).zip ((o.ents.map fun x => PyData.tuple [o.a.D, .int x.ser]).drop 1), cmpD .lt q.1 q.2 = some true
theorem c_fits_within {o : Ow} (g : o.Fit) : call (n + 2) .fits_within [.d o.D] M = .ok (.d (.bool true)) M := by
  show runB (call (n + 1)) ir_fits_within _ _ = _
  obtain ⟨G2, M2, go, rfl, _⟩ := forL_inv (put := fun x G => unpD G [4, 5, 6, 7] x) (b := fun G M => exSs (call (n + 1)) B_within G M)
    (P := fun xs G M' => M' = M ∧ ∃ a4 a5 a6 a7, G = [some (.d o.D), some (.d o.a.D), some (.d (.int o.base)), some (.d o.sc.D), a4, a5, a6, a7] ∧ ∀ x ∈ xs, ∃ e ∈ o.ents, x = e.D o.a)
    (fun x r G M' ⟨hM, a4, a5, a6, a7, hG, hx⟩ => by
      obtain ⟨e, he, hxe⟩ := hx x List.mem_cons_self
      subst hM hG hxe
      refine ⟨_, _, _, rfl, within_step (n := n) (a4 := none) (a5 := none) (a6 := none) (a7 := none) g.a (g.ents e he).2 (g.in_ e he) g.why, rfl, _, _, _, _, rfl, fun y hy => hx y (List.mem_cons_of_mem _ hy)⟩)
    (xs := o.ents.map (En.D o.a)) (G := [some (.d o.D), some (.d o.a.D), some (.d (.int o.base)), some (.d o.sc.D), none, none, none, none]) (M := M) ⟨rfl, _, _, _, _, rfl, fun x hx => by
      obtain ⟨e, he, rfl⟩ := List.mem_map.mp hx
      exact ⟨e, he, rfl⟩⟩
  have e : o.D = .tuple [o.a.D, .int o.key, .int o.num, .int o.base, .int o.since, .int o.til, o.sc.D, .tuple (o.ents.map (En.D o.a)), .int o.sg] := rfl
  rw [ir_within]
  generalize o.D = d at *
  subst e
  simp only [unpD] at go
  simp [runB, exSs, exS, evE, evEs, R.bind, R.to, R.of, F.bind, toD, toDs, asDs, binD, cmpD, ixD, toSlD, fromSlD, biD, isiD, dmD, tixD, noX, walked, seqD, boolsD, strsD, unpD, setAll, wipeG, pickD, stillE, List.lookup, fdb, Fn.cls, sh_int, sh_bool, sh_none, eqv_int, eqv_str, lim1, lim2, lim3, lim4, lim5, lim6, lim7, lim8, lim9, lim10, lim11, lim12, go]
end
end K75

set_option Elab.async false
set_option linter.all false
set_option autoImplicit false
set_option maxRecDepth 100000
set_option maxHeartbeats 2000000
/-! Mathematics, part 15: a list that is fit. -/
namespace K75
open PySem
section
variable {n : Nat} {M : Sto}
def A_ents : E := .bi .all (.cons (.comp 1 (.ix (.v 0) (.k (.int 7))) (.call .fits_entry (.cons (.v 1) .nil))) .nil)
def A_two : E := .comp 1 (.ix (.v 0) (.k (.int 7))) (.slTo (.v 1) (.k (.int 2)))
theorem ir_flist : ir_fits_list = ⟨1, 1, (.cons (.ite (.or (.not (.call .is_tuple_of (.cons (.v 0) (.cons (.k (.int 9)) (.cons (.k (.int 9)) .nil))))) (.or (.not (.call .fits_name (.cons (.ix (.v 0) (.k (.int 0))) .nil))) (.not (.call .is_whole (.cons (.ix (.v 0) (.k (.int 1))) (.cons (.k (.int 0)) (.cons (.g (⟨#[75, 69, 89, 83]⟩ : Str) (.int 4294967295)) .nil))))))) (.cons (.ret (.k (.bool false)))
    .nil) .nil)
    (.cons (.ite (.or (.not (.call .is_whole (.cons (.ix (.v 0) (.k (.int 2))) (.cons (.k (.int 0)) (.cons (.g (⟨#[78, 85, 77, 66, 69, 82, 83]⟩ : Str) (.int 1000000)) .nil))))) (.not (.call .is_whole (.cons (.ix (.v 0) (.k (.int 3))) (.cons (.neg 1) (.cons (.bin .sub (.ix (.v 0) (.k (.int 2))) (.k (.int 1))) .nil)))))) (.cons (.ret (.k (.bool false)))
    .nil) .nil)
    (.cons (.ite (.or (.not (.call .is_whole (.cons (.ix (.v 0) (.k (.int 4))) (.cons (.k (.int 0)) (.cons (.g (⟨#[84, 73, 77, 69, 83]⟩ : Str) (.int 1000000000)) .nil))))) (.not (.call .is_whole (.cons (.ix (.v 0) (.k (.int 5))) (.cons (.ix (.v 0) (.k (.int 4))) (.cons (.g (⟨#[84, 73, 77, 69, 83]⟩ : Str) (.int 1000000000)) .nil)))))) (.cons (.ret (.k (.bool false)))
    .nil) .nil)
    (.cons (.ite (.or (.not (.call .fits_scope (.cons (.ix (.v 0) (.k (.int 6))) .nil))) (.not (.call .is_whole (.cons (.ix (.v 0) (.k (.int 8))) (.cons (.k (.int 0)) (.cons (.g (⟨#[75, 69, 89, 83]⟩ : Str) (.int 4294967295)) .nil)))))) (.cons (.ret (.k (.bool false)))
    .nil) .nil)
    (.cons (.ite (.or (.not (.call .is_tuple_of (.cons (.ix (.v 0) (.k (.int 7))) (.cons (.k (.int 0)) (.cons (.g (⟨#[69, 78, 84, 82, 73, 69, 83]⟩ : Str) (.int 30)) .nil))))) (.not A_ents)) (.cons (.ret (.k (.bool false)))
    .nil) .nil)
    (.cons (.ret (.and (.call .is_ascending (.cons (.bi .tuple (.cons A_two .nil)) .nil)) (.call .fits_within (.cons (.v 0) .nil))))
    .nil)))))), false⟩ := rfl
theorem c_fits_list {o : Ow} (g : o.Fit) : call (n + 5) .fits_list [.d o.D] M = .ok (.d (.bool true)) M := by
  show runB (call (n + 4)) ir_fits_list _ _ = _
  have e : o.D = .tuple [o.a.D, .int o.key, .int o.num, .int o.base, .int o.since, .int o.til, o.sc.D, .tuple (o.ents.map (En.D o.a)), .int o.sg] := rfl
  have l30 := g.many
  have q1 := ev_all (Φ := call (n + 4)) (M := M) (G := [some (.d o.D), none]) (it := .ix (.v 0) (.k (.int 7))) (i := 1) (elt := .call .fits_entry (.cons (.v 1) .nil)) (d := .tuple (o.ents.map (En.D o.a))) (xs := o.ents.map (En.D o.a)) (p := fun _ => true) (by rw [e]; simp [runB, exSs, exS, evE, evEs, R.bind, R.to, R.of, F.bind, toD, toDs, asDs, binD, cmpD, ixD, toSlD, fromSlD, biD, isiD, dmD, tixD, noX, walked, seqD, boolsD, strsD, unpD, setAll, wipeG, pickD, stillE, List.lookup, fdb, Fn.cls, sh_int, sh_bool, sh_none, eqv_int, eqv_str, lim1, lim2, lim3, lim4, lim5, lim6, lim7, lim8, lim9, lim10, lim11, lim12]) rfl (by simp; unfold lim; omega) fun x hx => by
    obtain ⟨v, hv, rfl⟩ := List.mem_map.mp hx
    simp [runB, exSs, exS, evE, evEs, R.bind, R.to, R.of, F.bind, toD, toDs, asDs, binD, cmpD, ixD, toSlD, fromSlD, biD, isiD, dmD, tixD, noX, walked, seqD, boolsD, strsD, unpD, setAll, wipeG, pickD, stillE, List.lookup, fdb, Fn.cls, sh_int, sh_bool, sh_none, eqv_int, eqv_str, lim1, lim2, lim3, lim4, lim5, lim6, lim7, lim8, lim9, lim10, lim11, lim12, c_fits_entry g.a (g.ents v hv).1 (g.ents v hv).2]
  have q2 : evE (call (n + 4)) A_ents [some (.d o.D), none] M = .ok (.d (.bool true)) M := by
    unfold A_ents
    rw [q1]
    simp
  have q3 := ev_comp (Φ := call (n + 4)) (M := M) (G := [some (.d o.D), none]) (it := .ix (.v 0) (.k (.int 7))) (i := 1) (elt := .slTo (.v 1) (.k (.int 2))) (d := .tuple (o.ents.map (En.D o.a))) (xs := o.ents.map (En.D o.a)) (f := fun d => match d with | .tuple ys => .tuple (ys.take 2) | d => d) (by rw [e]; simp [runB, exSs, exS, evE, evEs, R.bind, R.to, R.of, F.bind, toD, toDs, asDs, binD, cmpD, ixD, toSlD, fromSlD, biD, isiD, dmD, tixD, noX, walked, seqD, boolsD, strsD, unpD, setAll, wipeG, pickD, stillE, List.lookup, fdb, Fn.cls, sh_int, sh_bool, sh_none, eqv_int, eqv_str, lim1, lim2, lim3, lim4, lim5, lim6, lim7, lim8, lim9, lim10, lim11, lim12]) rfl (by simp; unfold lim; omega) fun x hx => by
    obtain ⟨v, hv, rfl⟩ := List.mem_map.mp hx
    simp [runB, exSs, exS, evE, evEs, R.bind, R.to, R.of, F.bind, toD, toDs, asDs, binD, cmpD, ixD, toSlD, fromSlD, biD, isiD, dmD, tixD, noX, walked, seqD, boolsD, strsD, unpD, setAll, wipeG, pickD, stillE, List.lookup, fdb, Fn.cls, sh_int, sh_bool, sh_none, eqv_int, eqv_str, lim1, lim2, lim3, lim4, lim5, lim6, lim7, lim8, lim9, lim10, lim11, lim12, En.D]
  have q4 : evE (call (n + 4)) A_two [some (.d o.D), none] M = .ok (.d (.list (o.ents.map fun x => .tuple [o.a.D, .int x.ser]))) M := by
    unfold A_two
    rw [q3, List.map_map]
    rfl
  have up := c_asc (n := n + 3) (M := M) g.asc (by simp; omega)
  have wi := c_fits_within (n := n + 2) (M := M) g
  have sc := c_fits_scope (n := n + 1) (M := M) g.kind g.lot g.why g.up
  have t9 : tupB o.D 9 9 = true := rfl
  have t30 : tupB (.tuple (o.ents.map (En.D o.a))) 0 30 = true := by
    simp [tupB]
    omega
  have w1 : wholeB (.int o.key) 0 4294967295 = true := wholeB_nat (b := 4294967295) g.key
  have w2 : wholeB (.int o.num) 0 1000000 = true := wholeB_nat (b := 1000000) g.num
  have w3 : wholeB (.int o.base) (-1) ((o.num : Int) - 1) = true := by
    have := g.base
    unfold Ow.base wholeB
    rw [Bool.and_eq_true, decide_eq_true_eq, decide_eq_true_eq]
    refine ⟨?_, this⟩
    split <;> decide
  have w4 : wholeB (.int o.since) 0 1000000000 = true := wholeB_nat (b := 1000000000) g.since
  have w5 : wholeB (.int o.til) o.since 1000000000 = true := by
    have h1 := g.til2
    have h2 := g.til
    unfold wholeB
    rw [Bool.and_eq_true, decide_eq_true_eq, decide_eq_true_eq]
    omega
  have w6 : wholeB (.int o.sg) 0 4294967295 = true := wholeB_nat (b := 4294967295) g.sg
  have fn := c_fits_name (n := n + 1) (M := M) g.a
  rw [ir_flist]
  generalize o.D = d at *
  subst e
  simp [runB, exSs, exS, evE, evEs, R.bind, R.to, R.of, F.bind, toD, toDs, asDs, binD, cmpD, ixD, toSlD, fromSlD, biD, isiD, dmD, tixD, noX, walked, seqD, boolsD, strsD, unpD, setAll, wipeG, pickD, stillE, List.lookup, fdb, Fn.cls, sh_int, sh_bool, sh_none, eqv_int, eqv_str, lim1, lim2, lim3, lim4, lim5, lim6, lim7, lim8, lim9, lim10, lim11, lim12, c_is_tuple_of, c_is_whole, t9, t30, w1, w2, w3, w4, w5, w6, fn, sc, q2, q4, up, wi]
theorem c_need_list {o : Ow} (g : o.Fit) : call (n + 6) .need_list [.d o.D] M = .ok (.d .none) M := by
  show runB (call (n + 5)) ir_need_list _ _ = _
  simp [ir_need_list, runB, exSs, exS, evE, evEs, R.bind, R.to, R.of, F.bind, toD, toDs, asDs, binD, cmpD, ixD, toSlD, fromSlD, biD, isiD, dmD, tixD, noX, walked, seqD, boolsD, strsD, unpD, setAll, wipeG, pickD, stillE, List.lookup, fdb, Fn.cls, sh_int, sh_bool, sh_none, eqv_int, eqv_str, lim1, lim2, lim3, lim4, lim5, lim6, lim7, lim8, lim9, lim10, lim11, lim12, c_fits_list g]
theorem c_need_text {T : Str} (h : T.length ≤ 20000) : call (n + 1) .need_text [.d (.str T)] M = .ok (.d .none) M := by
  show runB (call n) ir_need_text _ _ = _
  have l : T.length ≤ lim := Nat.le_trans h (by decide)
  have l2 : ¬ (20000 : Int) < (T.length : Int) := by omega
  simp [ir_need_text, runB, exSs, exS, evE, evEs, R.bind, R.to, R.of, F.bind, toD, toDs, asDs, binD, cmpD, ixD, toSlD, fromSlD, biD, isiD, dmD, tixD, noX, walked, seqD, boolsD, strsD, unpD, setAll, wipeG, pickD, stillE, List.lookup, fdb, Fn.cls, sh_int, sh_bool, sh_none, eqv_int, eqv_str, lim1, lim2, lim3, lim4, lim5, lim6, lim7, lim8, lim9, lim10, lim11, lim12, l, l2]
theorem c_read_list {o : Ow} (g : o.Fit) {T : Str} (ok : OkT T) (e : T.cps.toList = ([108, 105, 115, 116] : List Nat) ++ sepL o.parts) : call (n + 10) .read_list [.d (.str T)] M = .ok (.d o.D) M := by
  show runB (call (n + 9)) ir_read_list _ _ = _
  have s1 := c_need_text (n := n + 8) (M := M) ok.len
  have s2 := c_read_by (n := n) (M := M) ok g.toRd e
  have s3 := c_need_list (n := n + 3) (M := M) g
  simp [ir_read_list, runB, exSs, exS, evE, evEs, R.bind, R.to, R.of, F.bind, toD, toDs, asDs, binD, cmpD, ixD, toSlD, fromSlD, biD, isiD, dmD, tixD, noX, walked, seqD, boolsD, strsD, unpD, setAll, wipeG, pickD, stillE, List.lookup, fdb, Fn.cls, sh_int, sh_bool, sh_none, eqv_int, eqv_str, lim1, lim2, lim3, lim4, lim5, lim6, lim7, lim8, lim9, lim10, lim11, lim12, s1, s2, s3]
def things3 : List Str := [(⟨#[97, 110, 99, 104, 111, 114]⟩ : Str), (⟨#[99, 101, 114, 116, 105, 102, 105, 99, 97, 116, 101]⟩ : Str), (⟨#[108, 105, 115, 116]⟩ : Str)]
theorem c_thing {r : Nat} {T : Str} (h : r < M.length) (ok : OkT T) {y : List Nat} (e : rst T 0 = ([108, 105, 115, 116] : List Nat) ++ (32 :: y)) : call (n + 2) .r_one_of [.o r, .d (.tuple (things3.map .str))] (adv M r T 0) = .ok (.d (.str (⟨#[108, 105, 115, 116]⟩ : Str))) (adv M r T 4) :=
  c_one_of (w := ([108, 105, 115, 116] : List Nat)) (p := 0) h ok e ⟨by decide, by decide⟩ ⟨by decide +kernel, by decide +kernel⟩ (by decide) (by decide +kernel) (by show things3.any (fun v => Txt.startswith v (tx (([108, 105, 115, 116] : List Nat) ++ [32]))) = false; decide +kernel)
def A_thing : E := .meth .r_one_of (.mk .reading (.cons (.v 0) .nil)) (.cons (.g (⟨#[84, 72, 73, 78, 71, 83]⟩ : Str) (.tuple [(.str (⟨#[97, 110, 99, 104, 111, 114]⟩ : Str)), (.str (⟨#[99, 101, 114, 116, 105, 102, 105, 99, 97, 116, 101]⟩ : Str)), (.str (⟨#[108, 105, 115, 116]⟩ : Str))])) .nil)
theorem ir_rthing : ir_read_thing = ⟨1, 1, (.cons (.ex (.call .need_text (.cons (.v 0) .nil)))
    (.cons (.set 1 A_thing)
    (.cons (.ite (.cmp .eq (.v 1) (.k (.str (⟨#[99, 101, 114, 116, 105, 102, 105, 99, 97, 116, 101]⟩ : Str)))) (.cons (.ret (.tup (.cons (.tix (⟨#[83, 79, 82, 84, 83]⟩ : Str) (.tuple [(.str (⟨#[99, 101, 114, 116, 105, 102, 105, 99, 97, 116, 101]⟩ : Str)), (.str (⟨#[108, 105, 115, 116]⟩ : Str)), (.str (⟨#[97, 110, 99, 104, 111, 114]⟩ : Str))]) (.v 1)) (.cons .never .nil)))) .nil) .nil)
    (.cons (.ret (.tup (.cons (.tix (⟨#[83, 79, 82, 84, 83]⟩ : Str) (.tuple [(.str (⟨#[99, 101, 114, 116, 105, 102, 105, 99, 97, 116, 101]⟩ : Str)), (.str (⟨#[108, 105, 115, 116]⟩ : Str)), (.str (⟨#[97, 110, 99, 104, 111, 114]⟩ : Str))]) (.v 1)) (.cons (.ite (.cmp .eq (.v 1) (.k (.str (⟨#[108, 105, 115, 116]⟩ : Str)))) (.call .read_list (.cons (.v 0) .nil)) .never) .nil))))
    .nil)))), true⟩ := rfl
theorem c_read_thing {o : Ow} (g : o.Fit) {T : Str} (ok : OkT T) (e : T.cps.toList = ([108, 105, 115, 116] : List Nat) ++ sepL o.parts) : call (n + 11) .read_thing [.d (.str T)] M = .ok (.d (.tuple [.int 1, o.D])) M := by
  show runB (call (n + 10)) ir_read_thing _ _ = _
  have h : M.length < (M ++ [MO.ins .reading []]).length := by simp
  have s1 := c_need_text (n := n + 9) (M := M) ok.len
  have mk := ev_mk (n := n + 9) (M := M) (T := T) (G := [some (.d (.str T)), none]) (a := .v 0) (by simp [evE])
  have e0 : rst T 0 = ([108, 105, 115, 116] : List Nat) ++ (32 :: (o.a.L ++ sepL (o.parts.drop 1))) := e
  have s2 := c_thing (n := n + 8) h ok e0
  have s3 := c_read_list (n := n) (M := adv (M ++ [MO.ins .reading []]) M.length T 4) g ok e
  have tk := adv_take (M := M) (T := T) (q := 4)
  have at_ := adv_at (T := T) (p := 0) h
  simp only [things3, List.map_cons, List.map_nil] at s2
  have q1 := sh_of (⟨#[108, 105, 115, 116]⟩ : Str) rfl
  have q2 := sh_of (⟨#[99, 101, 114, 116, 105, 102, 105, 99, 97, 116, 101]⟩ : Str) rfl
  have go : evE (call (n + 10)) A_thing [some (.d (.str T)), none] M = .ok (.d (.str (⟨#[108, 105, 115, 116]⟩ : Str))) (adv (M ++ [MO.ins .reading []]) M.length T 4) := by
    unfold A_thing
    rw [evE, mk]
    simp [R.bind, at_, rdO, Fn.cls, evE, evEs, s2]
  have ix : tixD (.tuple [(.str (⟨#[99, 101, 114, 116, 105, 102, 105, 99, 97, 116, 101]⟩ : Str)), (.str (⟨#[108, 105, 115, 116]⟩ : Str)), (.str (⟨#[97, 110, 99, 104, 111, 114]⟩ : Str))]) (.str (⟨#[108, 105, 115, 116]⟩ : Str)) = some (.int 1) := by decide +kernel
  generalize adv (M ++ [MO.ins .reading []]) M.length T 4 = M4 at *
  rw [ir_rthing]
  simp [runB, exSs, exS, evE, evEs, R.bind, R.to, R.of, F.bind, toD, toDs, asDs, binD, cmpD, ixD, toSlD, fromSlD, biD, isiD, dmD, noX, walked, seqD, boolsD, strsD, unpD, setAll, wipeG, pickD, stillE, List.lookup, fdb, Fn.cls, sh_int, sh_bool, sh_none, eqv_int, eqv_str, lim1, lim2, lim3, lim4, lim5, lim6, lim7, lim8, lim9, lim10, lim11, lim12, go, s1, s3, q1, q2, ix, tk]
end
end K75

set_option Elab.async false
set_option linter.all false
set_option autoImplicit false
set_option maxRecDepth 100000
set_option maxHeartbeats 2000000
/-! Mathematics, part 16: the order of data; sorted rows. -/
namespace K75
open PySem PySem.W PyProof.Rows
theorem toks_inj {x y : PyData} (h : alike x y = true) (e : keyToks x = keyToks y) : PyData.eqv x y = true := by
  cases q : PyData.eqv x y with
  | true => rfl
  | false =>
    have z := (toks_eqv x y h).2 q [] [.inl 0]
    rw [e, lex_irrefl, lex_pre] at z
    exact absurd (show true = false from z) (by simp)
mutual
theorem eq_of_alike : ∀ (x y : PyData), alike x y = true → PyData.eqv x y = true → x = y
  | .none, y, h, e => by cases y <;> simp_all [alike]
  | .bool a, y, h, e => by cases y <;> simp_all [alike, PyData.eqv]
  | .int a, y, h, e => by cases y <;> simp_all [alike, PyData.eqv]
  | .str a, y, h, e => by cases y <;> simp_all [alike, PyData.eqv]
  | .list xs, y, h, e => by
    cases y with
    | list ys => rw [eqs_of_alike xs ys (by simpa [alike] using h) (by simpa [PyData.eqv] using e)]
    | _ => exact absurd h (by simp [alike])
  | .tuple xs, y, h, e => by
    cases y with
    | tuple ys => rw [eqs_of_alike xs ys (by simpa [alike] using h) (by simpa [PyData.eqv] using e)]
    | _ => exact absurd h (by simp [alike])
  | .dict _, y, h, _ => absurd h (by cases y <;> simp [alike])
theorem eqs_of_alike : ∀ (xs ys : List PyData), alikeAll xs ys = true → PyData.eqvAll xs ys = true → xs = ys
  | [], [], _, _ => rfl
  | [], y :: ys, _, e => absurd e (by simp [PyData.eqvAll])
  | x :: xs, [], _, e => absurd e (by simp [PyData.eqvAll])
  | x :: xs, y :: ys, h, e => by
    rw [eqv_all_cons, Bool.and_eq_true] at e
    rw [eq_of_alike x y (alike_all_cons h).1 e.1, eqs_of_alike xs ys (alike_all_cons h).2 e.2]
end
abbrev le : PyData → PyData → Bool := PySem.W.dataLe false id
theorem le_def (a b : PyData) : le a b = !dataLt b a := rfl
theorem le_total : TotalLe le := sortLe_total _ _ _
theorem lt_anti {a b : PyData} (h : alike a b = true) (h1 : dataLt a b = false) (h2 : dataLt b a = false) : a = b :=
  eq_of_alike a b h (toks_inj h (lex_total _ _ h1 h2))
theorem le_anti {a b : PyData} (h : alike a b = true) (h1 : le a b = true) (h2 : le b a = true) : a = b := by
  rw [le_def, Bool.not_eq_true'] at h1 h2
  exact lt_anti h h2 h1
/-- all are alike -/
def Ali (xs : List PyData) : Prop := ∀ x ∈ xs, ∀ y ∈ xs, alike x y = true
theorem sort_is {xs ys : List PyData} (hp : xs.Perm ys) (hs : xs.Pairwise fun a b => le a b = true) (ha : Ali ys) : xs = ys.mergeSort le :=
  List.Perm.eq_of_pairwise (le := fun a b => le a b = true) (fun a b h1 h2 h3 h4 => le_anti (ha a (hp.subset h1) b ((List.mergeSort_perm ys le).subset h2)) h3 h4) hs (sort_pairwise le_total ys) (hp.trans (List.mergeSort_perm ys le).symm)
theorem sort_with {xs : List PyData} {d : PyData} (ha : Ali (xs ++ [d])) : (xs.mergeSort le ++ [d]).mergeSort le = (xs ++ [d]).mergeSort le :=
  sort_is ((List.mergeSort_perm _ le).trans ((List.mergeSort_perm xs le).append_right [d])) (sort_pairwise le_total _) ha
theorem sort_without {xs : List PyData} {d : PyData} {p : PyData → Bool} (ha : Ali (xs ++ [d])) (hd : p d = false) (hx : ∀ x ∈ xs, p x = true) : ((xs ++ [d]).mergeSort le).filter p = xs.mergeSort le := by
  refine sort_is ?_ ((sort_pairwise le_total (xs ++ [d])).filter p) fun x h1 y h2 => ha x (List.mem_append_left _ h1) y (List.mem_append_left _ h2)
  have e : (xs ++ [d]).filter p = xs := by
    rw [List.filter_append, List.filter_eq_self.mpr hx]
    simp [hd]
  have := (List.mergeSort_perm (xs ++ [d]) le).filter p
  rw [e] at this
  exact this
/-! ### pairs -/
theorem lt_cons_tup {x y : PyData} (h : alike x y = true) (xs ys : List PyData) : dataLt (.tuple (x :: xs)) (.tuple (y :: ys)) = if PyData.eqv x y = true then dataLt (.tuple xs) (.tuple ys) else dataLt x y := by
  rw [dataLt_tuple, dataLt_cons h, dataLt_tuple]
theorem eqv_i (i j : Int) : PyData.eqv (.int i) (.int j) = decide (i = j) := by rw [PyData.eqv]; rfl
theorem alike_i (i j : Int) : alike (.int i) (.int j) = true := rfl
theorem lt_self (d : PyData) : dataLt d d = false := lex_irrefl _
theorem lt_pair {i j : Int} {d e : PyData} (h : alike d e = true) : dataLt (.tuple [.int i, d]) (.tuple [.int j, e]) = if i = j then dataLt d e else decide (i < j) := by
  rw [lt_cons_tup (alike_i i j), eqv_i, lt_cons_tup h]
  by_cases q : i = j
  · subst q
    cases r : PyData.eqv d e with
    | true =>
      rw [eq_of_alike d e h r]
      simp [lt_self]
    | false => simp
  · simp [q, dataLt_int]
theorem lt_trans' {a b c : PyData} (h1 : dataLt a b = true) (h2 : dataLt b c = true) : dataLt a c = true := lex_trans _ _ _ h1 h2
/-- what max gives -/
theorem maxFrom_is : ∀ (xs : List PyData) (b : PyData), maxFrom b xs ∈ b :: xs ∧ ∀ x ∈ b :: xs, dataLt (maxFrom b xs) x = false
  | [], b => ⟨List.mem_cons_self, fun x hx => by
      have e : x = b := by simpa using hx
      subst e
      exact lt_self x⟩
  | x :: r, b => by
    obtain ⟨h1, h2⟩ := maxFrom_is r (if PySem.W.dataLt b x then x else b)
    have e : maxFrom b (x :: r) = maxFrom (if PySem.W.dataLt b x then x else b) r := rfl
    rw [e]
    generalize maxFrom (if PySem.W.dataLt b x then x else b) r = m at *
    have up : ∀ z, (if PySem.W.dataLt b x then x else b) = z → dataLt m z = false → dataLt m b = false ∧ dataLt m x = false := by
      intro z hz hm
      cases q : dataLt b x with
      | true =>
        rw [q, if_pos rfl] at hz
        subst hz
        refine ⟨?_, hm⟩
        cases w : dataLt m b with
        | false => rfl
        | true => rw [lt_trans' w q] at hm; exact absurd hm (by simp)
      | false =>
        rw [q, if_neg Bool.false_ne_true] at hz
        subst hz
        refine ⟨hm, ?_⟩
        cases w : dataLt m x with
        | false => rfl
        | true =>
          rcases lex_negTrans _ (keyToks b) _ w with z | z
          · exact absurd hm (by show ¬ dataLt m b = false; rw [show dataLt m b = true from z]; simp)
          · exact absurd q (by show ¬ dataLt b x = false; rw [show dataLt b x = true from z]; simp)
    have u := up _ rfl (h2 _ List.mem_cons_self)
    refine ⟨?_, fun y hy => ?_⟩
    · rcases List.mem_cons.mp h1 with z | z
      · rw [z]
        split
        · exact List.mem_cons_of_mem _ List.mem_cons_self
        · exact List.mem_cons_self
      · exact List.mem_cons_of_mem _ (List.mem_cons_of_mem _ z)
    · rcases List.mem_cons.mp hy with z | z
      · rw [z]; exact u.1
      · rcases List.mem_cons.mp z with z | z
        · rw [z]; exact u.2
        · exact h2 y (List.mem_cons_of_mem _ z)
theorem zip_next {α : Type} {R : α → α → Prop} : ∀ {l : List α}, l.Pairwise R → ∀ q ∈ l.zip (l.drop 1), R q.1 q.2
  | [], _, q, h => by simp at h
  | [x], _, q, h => by simp at h
  | x :: y :: r, hp, q, h => by
    obtain ⟨h1, h2⟩ := List.pairwise_cons.mp hp
    have e : (x :: y :: r).zip ((x :: y :: r).drop 1) = (x, y) :: (y :: r).zip ((y :: r).drop 1) := rfl
    rw [e] at h
    rcases List.mem_cons.mp h with z | z
    · subst z
      exact h1 y List.mem_cons_self
    · exact zip_next h2 q z
end K75

set_option Elab.async false
set_option linter.all false
set_option autoImplicit false
set_option maxRecDepth 100000
set_option maxHeartbeats 2000000
/-! Mathematics, part 17: texts made. -/
namespace K75
open PySem
/-! ### joined rows -/
theorem tl_tx (l : List Nat) : TL.tl (tx l) = l := rfl
theorem join_tx (c : Nat) (zs : List (List Nat)) : Txt.join ⟨#[c]⟩ (zs.map tx) = tx (TL.joinL [c] zs) := by
  refine TL.ext_tl ?_
  rw [TL.join_eq, TL.tl_join, List.map_map, tl_tx]
  have e : (TL.tl ∘ tx : List Nat → List Nat) = id := by funext l; rfl
  rw [e, List.map_id]
theorem sum_tx (zs : List (List Nat)) : ((zs.map tx).map (·.length)).sum = (zs.map List.length).sum := by
  rw [List.map_map]
  congr 1
theorem one_len (c : Nat) : (⟨#[c]⟩ : Str).length = 1 := rfl
theorem joinD_l {c : Nat} {zs : List (List Nat)} (h : (zs.map List.length).sum + zs.length ≤ lim) : dmD .join (.str ⟨#[c]⟩) (.list (zs.map fun z => .str (tx z))) = some (.str (tx (TL.joinL [c] zs))) := by
  have e : strsD (zs.map fun z => PyData.str (tx z)) = some (zs.map tx) := strsD_map' zs
  unfold dmD
  simp only [e]
  rw [sum_tx, List.length_map, one_len, Nat.mul_one, if_pos h, join_tx]
theorem joinD_t {c : Nat} {zs : List (List Nat)} (h : (zs.map List.length).sum + zs.length ≤ lim) : dmD .join (.str ⟨#[c]⟩) (.tuple (zs.map fun z => .str (tx z))) = some (.str (tx (TL.joinL [c] zs))) := by
  have e : strsD (zs.map fun z => PyData.str (tx z)) = some (zs.map tx) := strsD_map' zs
  unfold dmD
  simp only [e]
  rw [sum_tx, List.length_map, one_len, Nat.mul_one, if_pos h, join_tx]
theorem join_tail : ∀ (w : List Nat) (ws : List (List Nat)), TL.joinL [47] (w :: ws) = w ++ tailL ws
  | w, [] => by simp [TL.joinL, tailL]
  | w, v :: r => by
    have ih := join_tail v r
    show w ++ ([47] ++ TL.joinL [47] (v :: r)) = _
    rw [ih]
    rfl
theorem join_sep : ∀ (w : List Nat) (ws : List (List Nat)), TL.joinL [32] (w :: ws) = w ++ sepL ws
  | w, [] => by simp [TL.joinL, sepL]
  | w, v :: r => by
    have ih := join_sep v r
    show w ++ ([32] ++ TL.joinL [32] (v :: r)) = _
    rw [ih]
    rfl
theorem join_lot {α : Type} {tL : α → List Nat} : ∀ (xs : List α), 91 :: (TL.joinL [44] (xs.map tL) ++ [93]) = lotL tL xs
  | [] => rfl
  | x :: r => by
    have go : ∀ (x : α) (r : List α), TL.joinL [44] ((x :: r).map tL) = tL x ++ sevL tL r := by
      intro x r
      induction r generalizing x with
      | nil => simp [TL.joinL, sevL]
      | cons y t ih =>
        show tL x ++ ([44] ++ TL.joinL [44] ((y :: t).map tL)) = _
        rw [ih]
        rfl
    rw [go, lotL, List.append_assoc]
theorem sep_len : ∀ l : List (List Nat), (sepL l).length = (l.map List.length).sum + l.length
  | [] => rfl
  | x :: r => by simp [sepL, sep_len r]; omega
theorem tail_len : ∀ l : List (List Nat), (tailL l).length = (l.map List.length).sum + l.length
  | [] => rfl
  | x :: r => by simp [tailL, tail_len r]; omega
theorem sum_le {α : Type} {f : α → Nat} {b : Nat} : ∀ {l : List α}, (∀ x ∈ l, f x ≤ b) → (l.map f).sum ≤ l.length * b
  | [], _ => by simp
  | x :: r, h => by
    have h1 := h x List.mem_cons_self
    have h2 := sum_le (l := r) fun y hy => h y (List.mem_cons_of_mem _ hy)
    rw [List.map_cons, List.sum_cons, List.length_cons, Nat.succ_mul]
    omega
theorem sev_len {α : Type} {tL : α → List Nat} : ∀ l : List α, (sevL tL l).length = (l.map fun x => (tL x).length).sum + l.length
  | [] => rfl
  | x :: r => by simp [sevL, sev_len r]; omega
theorem lot_len {α : Type} {tL : α → List Nat} (l : List α) : (lotL tL l).length ≤ (l.map fun x => (tL x).length).sum + l.length + 2 := by
  cases l with
  | nil => simp [lotL]
  | cons x r => simp [lotL, sev_len r]; omega
theorem nm_len {a : Nm} (o : a.Ok) : a.L.length ≤ 51 := by
  have h1 := (o.wo a.w List.mem_cons_self).len
  have h2 := sum_le (f := List.length) (b := 12) (l := a.ws) fun x hx => (o.wo x (List.mem_cons_of_mem _ hx)).len
  have h3 := o.len
  simp only [Nm.L, List.length_append, tail_len]
  omega
theorem why_len {w : List Nat} (h : w ∈ whys) : w.length ≤ 10 := (why_ok w h).2.2.2.2.2
theorem num_len {i : Nat} (h : i ≤ 4294967295) : (TL.numL i).length ≤ 10 := numL_len i 9 (by omega)
theorem en_len {a : Nm} (o : a.Ok) {x : En} (h1 : x.ser ≤ 1000000) (h2 : x.why ∈ whys) : (x.L a).length ≤ 85 := by
  have a1 := nm_len o
  have a2 := num_len (i := x.ser) (by omega)
  have a3 := num_len (i := 5) (by omega)
  have a4 := why_len h2
  simp only [En.L, List.length_append, List.length_cons]
  omega
theorem ents_len {o : Ow} (g : o.Rd) : (o.ents.map fun x => (En.L o.a x).length).sum ≤ 2550 := by
  have h := sum_le (f := fun x => (En.L o.a x).length) (b := 85) (l := o.ents) fun x hx => en_len g.a (g.ents x hx).1 (g.ents x hx).2
  have := g.many
  omega
theorem kind_len : ∀ w ∈ kinds, w.length ≤ 10 ∧ ∀ c ∈ w, c < 128 := by decide
theorem yn_len (b : Bool) : (yn b).length ≤ 10 ∧ ∀ c ∈ yn b, c < 128 := by cases b <;> decide
theorem lots_len {o : Ow} (g : o.Rd) : (o.sc.lot.map fun x => x.length).sum ≤ 60 := by
  have h := sum_le (f := fun x : List Nat => x.length) (b := 10) (l := o.sc.lot) fun x hx => why_len (g.why x hx)
  have := g.lot
  omega
theorem base_len {o : Ow} : o.baseL.length ≤ 10 := by
  unfold Ow.baseL
  split
  · decide
  · exact num_len (by decide)
theorem parts_len {o : Ow} (g : o.Rd) : (sepL o.parts).length ≤ 19000 := by
  have h1 := nm_len g.a
  have h2 := num_len g.key
  have h3 := num_len (i := o.num) (by have := g.num; omega)
  have h4 := base_len (o := o)
  have h5 := num_len (i := o.since) (by have := g.since; omega)
  have h6 := num_len (i := o.til) (by have := g.til; omega)
  have h7 := (kind_len _ g.kind).1
  have h8 := (yn_len o.sc.oth).1
  have h9 := lots_len g
  have h10 := lot_len (tL := id) o.sc.lot
  have h11 := ents_len g
  have h12 := lot_len (tL := En.L o.a) o.ents
  have h13 := num_len g.sg
  have h14 := g.many
  have h15 := g.lot
  have e : (o.sc.lot.map fun x => (id x).length).sum = (o.sc.lot.map fun x => x.length).sum := rfl
  rw [e] at h10
  rw [sep_len]
  simp only [Ow.parts, List.map_cons, List.map_nil, List.sum_cons, List.sum_nil, List.length_cons, List.length_nil]
  omega
/-! ### what signs they have -/
def Lo (l : List Nat) : Prop := ∀ c ∈ l, c < 128
theorem Lo.app {a b : List Nat} (h1 : Lo a) (h2 : Lo b) : Lo (a ++ b) := fun c hc => (List.mem_append.mp hc).elim (h1 c) (h2 c)
theorem Lo.cons {a : Nat} {b : List Nat} (h1 : a < 128) (h2 : Lo b) : Lo (a :: b) := fun c hc => (List.mem_cons.mp hc).elim (fun e => by rw [e]; exact h1) (h2 c)
theorem Lo.nil : Lo [] := fun c hc => by simp at hc
theorem lo_num (i : Nat) : Lo (TL.numL i) := fun c hc => by have := (numL_val i).2.1 c hc; omega
theorem lo_tail : ∀ {l : List (List Nat)}, (∀ w ∈ l, Lo w) → Lo (tailL l)
  | [], _ => Lo.nil
  | x :: r, h => Lo.cons (by decide) ((h x List.mem_cons_self).app (lo_tail fun w hw => h w (List.mem_cons_of_mem _ hw)))
theorem lo_sep : ∀ {l : List (List Nat)}, (∀ w ∈ l, Lo w) → Lo (sepL l)
  | [], _ => Lo.nil
  | x :: r, h => Lo.cons (by decide) ((h x List.mem_cons_self).app (lo_sep fun w hw => h w (List.mem_cons_of_mem _ hw)))
theorem lo_sev {α : Type} {tL : α → List Nat} : ∀ {l : List α}, (∀ w ∈ l, Lo (tL w)) → Lo (sevL tL l)
  | [], _ => Lo.nil
  | x :: r, h => Lo.cons (by decide) ((h x List.mem_cons_self).app (lo_sev fun w hw => h w (List.mem_cons_of_mem _ hw)))
theorem lo_lot {α : Type} {tL : α → List Nat} {l : List α} (h : ∀ w ∈ l, Lo (tL w)) : Lo (lotL tL l) := by
  cases l with
  | nil => exact Lo.cons (by decide) (Lo.cons (by decide) Lo.nil)
  | cons x r => exact Lo.cons (by decide) ((h x List.mem_cons_self).app ((lo_sev fun w hw => h w (List.mem_cons_of_mem _ hw)).app (Lo.cons (by decide) Lo.nil)))
theorem lo_nm {a : Nm} (o : a.Ok) : Lo a.L := by
  have w : ∀ v ∈ a.w :: a.ws, Lo v := fun v hv c hc => signs_lt c ((o.wo v hv).ch c hc)
  exact (w _ List.mem_cons_self).app (lo_tail fun v hv => w v (List.mem_cons_of_mem _ hv))
theorem lo_why {w : List Nat} (h : w ∈ whys) : Lo w := (why_ok w h).2.2.2.2.1
theorem lo_en {a : Nm} (o : a.Ok) {x : En} (h2 : x.why ∈ whys) : Lo (x.L a) := (lo_nm o).app (Lo.cons (by decide) ((lo_num _).app (Lo.cons (by decide) ((lo_num _).app (Lo.cons (by decide) (lo_why h2))))))
theorem lo_parts {o : Ow} (g : o.Rd) : ∀ p ∈ o.parts, Lo p := by
  intro p hp
  simp only [Ow.parts, List.mem_cons, List.not_mem_nil, or_false] at hp
  rcases hp with e | e | e | e | e | e | e | e | e | e | e <;> subst e
  · exact lo_nm g.a
  · exact lo_num _
  · exact lo_num _
  · unfold Ow.baseL
    split
    · exact Lo.cons (by decide) Lo.nil
    · exact lo_num _
  · exact lo_num _
  · exact lo_num _
  · exact (kind_len _ g.kind).2
  · exact (yn_len _).2
  · exact lo_lot fun w hw => lo_why (g.why w hw)
  · exact lo_lot fun w hw => lo_en g.a (g.ents w hw).2
  · exact lo_num _
/-- a list's text -/
def Ow.T (o : Ow) : List Nat := ([108, 105, 115, 116] : List Nat) ++ sepL o.parts
theorem okT {o : Ow} (g : o.Rd) : OkT (tx o.T) := by
  refine ⟨?_, fun c hc => ?_⟩
  · rw [tx_len]
    have := parts_len g
    simp [Ow.T]
    omega
  · have h : Lo o.T := Lo.app (by unfold Lo; decide) (lo_sep (lo_parts g))
    have := h c hc
    omega
/-! ### the small texts -/
theorem str_nat {i : Nat} (h : i ≤ 4294967295) : biD .str [.int i] = some (.str (tx (TL.numL i))) := by
  have h1 : (i : Int).natAbs.log2 < 1920 := by
    by_cases z : i = 0
    · subst z
      decide
    · have : i.log2 < 40 := (Nat.log2_lt z).mpr (by omega)
      simp
      omega
  have e : biD .str [.int (i : Int)] = if (i : Int).natAbs.log2 < 1920 then some (.str (Str.ofString (toString (i : Int)))) else none := rfl
  rw [e, if_pos h1]
  congr 2
  exact TL.ext_tl (TL.tl_num i)
section
variable {n : Nat} {M : Sto}
theorem words_join {a : Nm} (o : a.Ok) : dmD .join (.str ⟨#[47]⟩) a.D = some (.str (tx a.L)) := by
  have h1 := (o.wo a.w List.mem_cons_self).len
  have h2 := sum_le (f := List.length) (b := 12) (l := a.ws) fun x hx => (o.wo x (List.mem_cons_of_mem _ hx)).len
  have h3 := o.len
  unfold Nm.D
  rw [joinD_t (by rw [List.map_cons, List.sum_cons, List.length_cons]; unfold lim; omega), join_tail]
  rfl
theorem c_name_text {a : Nm} (o : a.Ok) : call (n + 1) .name_text [.d a.D] M = .ok (.d (.str (tx a.L))) M := by
  show runB (call n) ir_name_text _ _ = _
  have j := words_join o
  generalize a.D = d at *
  simp only [ir_name_text, runB, exSs, exS, List.length_cons, List.length_nil, List.map_cons, List.map_nil, List.replicate_zero, List.append_nil, if_true, evE, R.bind, List.getElem?_cons_zero, R.to, F.bind, j, R.of, Option.map]
  simp
theorem c_l_words {a : Nm} (o : a.Ok) : call (n + 1) .l_words [.d a.D] M = .ok (.d (.str (tx a.L))) M := by
  show runB (call n) ir_l_words _ _ = _
  have j := words_join o
  generalize a.D = d at *
  simp only [ir_l_words, runB, exSs, exS, List.length_cons, List.length_nil, List.map_cons, List.map_nil, List.replicate_zero, List.append_nil, if_true, evE, R.bind, List.getElem?_cons_zero, R.to, F.bind, j, R.of, Option.map]
  simp
end
end K75

set_option Elab.async false
set_option linter.all false
set_option autoImplicit false
set_option maxRecDepth 100000
set_option maxHeartbeats 2000000
/-! Mathematics, part 18: a list's text, as both make it. -/
namespace K75
open PySem
section
variable {n : Nat} {M : Sto}
theorem lot_sum {α : Type} {tL : α → List Nat} {xs : List α} : ((xs.map tL).map List.length).sum = (xs.map fun x => (tL x).length).sum := by rw [List.map_map]; rfl
theorem lot_join {α : Type} {tL : α → List Nat} {xs : List α} (h : (xs.map fun x => (tL x).length).sum + xs.length ≤ 20000) : dmD .join (.str ⟨#[44]⟩) (.list (xs.map fun x => .str (tx (tL x)))) = some (.str (tx (TL.joinL [44] (xs.map tL)))) := by
  have j := joinD_l (c := 44) (zs := xs.map tL) (by rw [lot_sum, List.length_map]; unfold lim; omega)
  rw [List.map_map] at j
  exact j
theorem lotj_len {α : Type} {tL : α → List Nat} {xs : List α} (h : (xs.map fun x => (tL x).length).sum + xs.length ≤ 20000) : (TL.joinL [44] (xs.map tL)).length ≤ 20002 := by
  have e := congrArg List.length (join_lot (tL := tL) xs)
  have l := lot_len (tL := tL) xs
  simp only [List.length_cons, List.length_append] at e
  omega
theorem c_list_text {α : Type} {tL : α → List Nat} {xs : List α} (h : (xs.map fun x => (tL x).length).sum + xs.length ≤ 20000) : call (n + 1) .list_text [.d (.list (xs.map fun x => .str (tx (tL x))))] M = .ok (.d (.str (tx (lotL tL xs)))) M := by
  show runB (call n) ir_list_text _ _ = _
  have j := lot_join h
  have l := lotj_len h
  have e := join_lot (tL := tL) xs
  generalize (xs.map fun x => PyData.str (tx (tL x))) = d at *
  generalize TL.joinL [44] (xs.map tL) = q at *
  have l1 : (⟨#[91]⟩ : Str).length + (tx q).length ≤ lim := by simp only [tx_len, one_len, List.length_cons, List.length_nil]; unfold lim; omega
  have e1 : (⟨#[91]⟩ : Str) ++ tx q = tx (91 :: q) := tx_add [91] q
  have l2 : (tx (91 :: q)).length + (⟨#[93]⟩ : Str).length ≤ lim := by simp only [tx_len, one_len, List.length_cons, List.length_nil]; unfold lim; omega
  have e2 : tx (91 :: q) ++ (⟨#[93]⟩ : Str) = tx (lotL tL xs) := by rw [tx_one, ← e]; rfl
  simp only [ir_list_text, runB, exSs, exS, List.length_cons, List.length_nil, List.map_cons, List.map_nil, List.replicate_zero, List.append_nil, if_true, evE, R.bind, List.getElem?_cons_zero, R.to, F.bind, j, R.of, Option.map, toD, binD, l1, e1, l2, e2]
  simp
theorem c_l_several {α : Type} {tL : α → List Nat} {xs : List α} (h : (xs.map fun x => (tL x).length).sum + xs.length ≤ 20000) : call (n + 1) .l_several [.d (.list (xs.map fun x => .str (tx (tL x))))] M = .ok (.d (.str (tx (lotL tL xs)))) M := c_list_text (n := n) h
theorem c_truth_text (b : Bool) : call (n + 1) .truth_text [.d (.bool b)] M = .ok (.d (.str (tx (yn b)))) M := by
  show runB (call n) ir_truth_text _ _ = _
  cases b <;> simp [ir_truth_text, runB, exSs, exS, evE, evEs, R.bind, R.to, R.of, F.bind, toD, toDs, asDs, binD, cmpD, ixD, toSlD, fromSlD, biD, isiD, dmD, tixD, noX, walked, seqD, boolsD, strsD, unpD, setAll, wipeG, pickD, stillE, List.lookup, fdb, Fn.cls, sh_int, sh_bool, sh_none, eqv_int, eqv_str, lim1, lim2, lim3, lim4, lim5, lim6, lim7, lim8, lim9, lim10, lim11, lim12, yn]
theorem c_number_text {o : Ow} : call (n + 1) .number_text [.d (.int o.base)] M = .ok (.d (.str (tx o.baseL))) M := by
  show runB (call n) ir_number_text _ _ = _
  have z := str_nat (i := 0) (by decide)
  simp only [Int.natCast_zero] at z
  unfold Ow.base Ow.baseL
  cases o.whole <;> simp [ir_number_text, runB, exSs, exS, evE, evEs, R.bind, R.to, R.of, F.bind, toD, toDs, asDs, binD, cmpD, ixD, toSlD, fromSlD, isiD, tixD, noX, walked, seqD, boolsD, strsD, unpD, setAll, wipeG, pickD, stillE, List.lookup, fdb, Fn.cls, sh_int, sh_bool, sh_none, eqv_int, eqv_str, lim1, lim2, lim3, lim4, lim5, lim6, lim7, lim8, lim9, lim10, lim11, lim12, z]
theorem c_l_integer {o : Ow} : call (n + 1) .l_integer [.d (.int o.base)] M = .ok (.d (.str (tx o.baseL))) M := by
  show runB (call n) ir_l_integer _ _ = _
  have z := str_nat (i := 0) (by decide)
  simp only [Int.natCast_zero] at z
  unfold Ow.base Ow.baseL
  cases o.whole <;> simp [ir_l_integer, runB, exSs, exS, evE, evEs, R.bind, R.to, R.of, F.bind, toD, toDs, asDs, binD, cmpD, ixD, toSlD, fromSlD, isiD, tixD, noX, walked, seqD, boolsD, strsD, unpD, setAll, wipeG, pickD, stillE, List.lookup, fdb, Fn.cls, sh_int, sh_bool, sh_none, eqv_int, eqv_str, lim1, lim2, lim3, lim4, lim5, lim6, lim7, lim8, lim9, lim10, lim11, lim12, z]
/-! ### entries' texts -/
def entF (a : Nm) : PyData → PyData
  | .tuple [_, .int i, _, .str w] => .str (tx (a.L ++ (58 :: (TL.numL i.toNat ++ (58 :: (TL.numL 5 ++ (58 :: w.cps.toList)))))))
  | d => d
theorem entF_is (a : Nm) (x : En) : entF a (x.D a) = .str (tx (x.L a)) := by
  simp [entF, En.D, En.L]
theorem ent_join {a : Nm} (o : a.Ok) {x : En} (h1 : x.ser ≤ 1000000) (h2 : x.why ∈ whys) : dmD .join (.str ⟨#[58]⟩) (.list [.str (tx a.L), .str (tx (TL.numL x.ser)), .str (tx (TL.numL 5)), .str (tx x.why)]) = some (.str (tx (x.L a))) := by
  have a1 := nm_len o
  have a2 := num_len (i := x.ser) (by omega)
  have a3 := num_len (i := 5) (by omega)
  have a4 := why_len h2
  exact joinD_l (c := 58) (zs := [a.L, TL.numL x.ser, TL.numL 5, x.why]) (by
    simp only [List.map_cons, List.map_nil, List.sum_cons, List.sum_nil, List.length_cons, List.length_nil]
    unfold lim
    omega)
def A_entt : E := .comp 12 (.v 8) (.dm .join (.k (.str (⟨#[58]⟩ : Str))) (.lst (.cons (.call .name_text (.cons (.ix (.v 12) (.k (.int 0))) .nil)) (.cons (.bi .str (.cons (.ix (.v 12) (.k (.int 1))) .nil)) (.cons (.bi .str (.cons (.ix (.v 12) (.k (.int 2))) .nil)) (.cons (.ix (.v 12) (.k (.int 3))) .nil))))))
theorem ir_loft : ir_list_of_text = ⟨1, 12, (.cons (.unp [1, 2, 3, 4, 5, 6, 7, 8, 9] (.v 0))
    (.cons (.setC 10 A_entt)
    (.cons (.set 11 (.lst (.cons (.k (.str (⟨#[108, 105, 115, 116]⟩ : Str))) (.cons (.call .name_text (.cons (.v 1) .nil)) (.cons (.bi .str (.cons (.v 2) .nil)) (.cons (.bi .str (.cons (.v 3) .nil)) (.cons (.call .number_text (.cons (.v 4) .nil)) (.cons (.bi .str (.cons (.v 5) .nil)) (.cons (.bi .str (.cons (.v 6) .nil)) .nil)))))))))
    (.cons (.ret (.dm .join (.k (.str (⟨#[32]⟩ : Str))) (.bin .add (.v 11) (.lst (.cons (.ix (.v 7) (.k (.int 0))) (.cons (.call .truth_text (.cons (.ix (.v 7) (.k (.int 1))) .nil)) (.cons (.call .list_text (.cons (.bi .list (.cons (.ix (.v 7) (.k (.int 2))) .nil)) .nil)) (.cons (.call .list_text (.cons (.v 10) .nil)) (.cons (.bi .str (.cons (.v 9) .nil)) .nil)))))))))
    .nil)))), false⟩ := rfl
theorem T_join {o : Ow} (g : o.Rd) : dmD .join (.str ⟨#[32]⟩) (.list (.str (⟨#[108, 105, 115, 116]⟩ : Str) :: o.parts.map fun z => .str (tx z))) = some (.str (tx o.T)) := by
  have l := parts_len g
  rw [sep_len] at l
  have j := joinD_l (c := 32) (zs := ([108, 105, 115, 116] : List Nat) :: o.parts) (by
    simp only [List.map_cons, List.sum_cons, List.length_cons, List.length_nil]
    unfold lim
    omega)
  rw [join_sep] at j
  exact j
theorem ents_sum {o : Ow} (g : o.Rd) : (o.ents.map fun x => (En.L o.a x).length).sum + o.ents.length ≤ 20000 := by
  have := ents_len g
  have := g.many
  omega
theorem lots_sum {o : Ow} (g : o.Rd) : (o.sc.lot.map fun x => (id x).length).sum + o.sc.lot.length ≤ 20000 := by
  have h := lots_len g
  have := g.lot
  show (o.sc.lot.map fun x => x.length).sum + _ ≤ _
  omega
theorem c_list_of_text {o : Ow} (g : o.Rd) : call (n + 2) .list_of_text [.d o.D] M = .ok (.d (.str (tx o.T))) M := by
  show runB (call (n + 1)) ir_list_of_text _ _ = _
  have l30 := g.many
  have ev (G : Loc) (h8 : G[8]? = some (some (.d (.tuple (o.ents.map (En.D o.a)))))) (h12 : 12 < G.length) : evE (call (n + 1)) A_entt G M = .ok (.d (.list (o.ents.map fun x => .str (tx (En.L o.a x))))) M := by
    have q := ev_comp (Φ := call (n + 1)) (M := M) (G := G) (it := .v 8) (i := 12) (elt := .dm .join (.k (.str (⟨#[58]⟩ : Str))) (.lst (.cons (.call .name_text (.cons (.ix (.v 12) (.k (.int 0))) .nil)) (.cons (.bi .str (.cons (.ix (.v 12) (.k (.int 1))) .nil)) (.cons (.bi .str (.cons (.ix (.v 12) (.k (.int 2))) .nil)) (.cons (.ix (.v 12) (.k (.int 3))) .nil)))))) (d := .tuple (o.ents.map (En.D o.a))) (xs := o.ents.map (En.D o.a)) (f := entF o.a) (by simp [evE, h8]) rfl (by simp; unfold lim; omega) fun x hx => by
      obtain ⟨v, hv, rfl⟩ := List.mem_map.mp hx
      obtain ⟨h1, h2⟩ := g.ents v hv
      have j := ent_join g.a h1 h2
      have n1 := c_name_text (n := n) (M := M) g.a
      have n2 := str_nat (i := v.ser) (by omega)
      have n3 := str_nat (i := 5) (by omega)
      have k5 : ((5 : Nat) : Int) = 5 := rfl
      rw [k5] at n3
      have g12 : ((wipeG G [12]).set 12 (some (.d (En.D o.a v))))[12]? = some (some (.d (En.D o.a v))) := by
        rw [List.getElem?_set_self (by simp [wipeG]; exact h12)]
      rw [entF_is]
      have e : En.D o.a v = .tuple [o.a.D, .int v.ser, .int 5, .str (tx v.why)] := rfl
      generalize (wipeG G [12]).set 12 (some (.d (En.D o.a v))) = G2 at *
      rw [e] at g12
      simp [runB, exSs, exS, evE, evEs, R.bind, R.to, R.of, F.bind, toD, toDs, asDs, binD, cmpD, ixD, toSlD, fromSlD, isiD, tixD, noX, walked, seqD, boolsD, strsD, unpD, setAll, wipeG, pickD, stillE, List.lookup, fdb, Fn.cls, sh_int, sh_bool, sh_none, eqv_int, eqv_str, lim1, lim2, lim3, lim4, lim5, lim6, lim7, lim8, lim9, lim10, lim11, lim12, g12, n1, n2, n3, j]
    unfold A_entt
    rw [q, List.map_map]
    congr 4
  have s1 := c_name_text (n := n) (M := M) g.a
  have s2 := str_nat g.key
  have s3 := str_nat (i := o.num) (by have := g.num; omega)
  have s4 := c_number_text (n := n) (M := M) (o := o)
  have s5 := str_nat (i := o.since) (by have := g.since; omega)
  have s6 := str_nat (i := o.til) (by have := g.til; omega)
  have s7 := c_truth_text (n := n) (M := M) o.sc.oth
  have s8 := c_list_text (n := n) (M := M) (tL := id) (lots_sum g)
  have s9 := c_list_text (n := n) (M := M) (tL := En.L o.a) (ents_sum g)
  have s10 := str_nat g.sg
  have j := T_join g
  simp only [Ow.parts, List.map_cons, List.map_nil] at j
  have ls : ∀ d, biD .list [.tuple d] = some (.list d) := fun d => rfl
  have e : o.D = .tuple [o.a.D, .int o.key, .int o.num, .int o.base, .int o.since, .int o.til, .tuple [.str (tx o.sc.kind), .bool o.sc.oth, .tuple (o.sc.lot.map fun w => .str (tx w))], .tuple (o.ents.map (En.D o.a)), .int o.sg] := rfl
  have ev2 := ev [some (.d o.D), some (.d o.a.D), some (.d (.int o.key)), some (.d (.int o.num)), some (.d (.int o.base)), some (.d (.int o.since)), some (.d (.int o.til)), some (.d (.tuple [.str (tx o.sc.kind), .bool o.sc.oth, .tuple (o.sc.lot.map fun w => .str (tx w))])), some (.d (.tuple (o.ents.map (En.D o.a)))), some (.d (.int o.sg)), none, none, none] rfl (by simp)
  rw [ir_loft]
  generalize o.D = d at *
  subst e
  have i8 : ∀ d, call (n + 1) .list_text [.d (.list (o.sc.lot.map fun w => .str (tx w)))] d = call (n + 1) .list_text [.d (.list (o.sc.lot.map fun w => .str (tx (id w))))] d := fun _ => rfl
  simp only [id] at s8
  simp [runB, exSs, exS, evE, evEs, R.bind, R.to, R.of, F.bind, toD, toDs, asDs, binD, cmpD, ixD, toSlD, fromSlD, isiD, tixD, noX, walked, seqD, boolsD, strsD, unpD, setAll, wipeG, pickD, stillE, List.lookup, fdb, Fn.cls, sh_int, sh_bool, sh_none, eqv_int, eqv_str, lim1, lim2, lim3, lim4, lim5, lim6, lim7, lim8, lim9, lim10, lim11, lim12, s1, s2, s3, s4, s5, s6, s7, s8, s9, s10, ev2, ls, j]
end
end K75

set_option Elab.async false
set_option linter.all false
set_option autoImplicit false
set_option maxRecDepth 100000
set_option maxHeartbeats 2000000
/-! Mathematics, part 19: rows of data, seals. -/
namespace K75
open PySem
/-! ### groups of a number -/
def grpF : Nat → Int → List Int
  | 0, i => [i]
  | k + 1, i => if 127 < i then (128 + i % 128) :: grpF k (i / 128) else [i]
theorem grpF_s (k : Nat) (i : Int) : grpF (k + 1) i = if 127 < i then (128 + i % 128) :: grpF k (i / 128) else [i] := rfl
def grp (i : Int) : List Int := grpF 9 i
theorem grpF_len : ∀ (k : Nat) (i : Int), (grpF k i).length ≤ k + 1
  | 0, i => Nat.le_refl _
  | k + 1, i => by
    have := grpF_len k (i / 128)
    unfold grpF
    split <;> simp <;> omega
theorem grp_len (i : Int) : (grp i).length ≤ 10 := grpF_len 9 i
section
variable {n : Nat} {M : Sto}
def C_grp : E := .cmp .gt (.v 0) (.k (.int 127))
def B_nrow : Ss := .cons (.par 1 0 (.bin .add (.v 1) (.tup (.cons (.bin .add (.k (.int 128)) (.bin .mod (.v 0) (.k (.int 128)))) .nil))) (.bin .fdiv (.v 0) (.k (.int 128)))) .nil
theorem ir_nrow : ir_number_row = ⟨1, 1, (.cons (.set 1 (.tup .nil)) (.cons (.whl C_grp B_nrow) (.cons (.ret (.bin .add (.v 1) (.tup (.cons (.v 0) .nil)))) .nil))), false⟩ := rfl
theorem nrow_loop : ∀ (k t : Nat) (i : Int) (acc : List Int), i < 128 ^ (k + 1) → k < t → acc.length + k ≤ 1000 →
    ∃ j acc2, loopW (fun G M => evE (call n) C_grp G M) (fun G M => exSs (call n) B_nrow G M) t [some (.d (.int i)), some (.d (.tuple (acc.map .int)))] M = .nx [some (.d (.int j)), some (.d (.tuple (acc2.map .int)))] M ∧ acc2 ++ [j] = acc ++ grpF k i ∧ acc2.length ≤ 1000
  | 0, t + 1, i, acc, hi, _, hl => by
    refine ⟨i, acc, loopW_end (M1 := M) ?_, rfl, by omega⟩
    have q : ¬ 127 < i := by omega
    simp [C_grp, runB, exSs, exS, evE, evEs, R.bind, R.to, R.of, F.bind, toD, toDs, asDs, binD, cmpD, ixD, toSlD, fromSlD, biD, isiD, dmD, tixD, noX, walked, seqD, boolsD, strsD, unpD, setAll, wipeG, pickD, stillE, List.lookup, fdb, Fn.cls, sh_int, sh_bool, sh_none, eqv_int, eqv_str, lim1, lim2, lim3, lim4, lim5, lim6, lim7, lim8, lim9, lim10, lim11, lim12, q]
  | k + 1, t + 1, i, acc, hi, ht, hl => by
    by_cases q : 127 < i
    · have hi2 : i / 128 < 128 ^ (k + 1) := by
        rw [Int.pow_succ] at hi
        exact Int.ediv_lt_of_lt_mul (by decide) hi
      obtain ⟨j, acc2, h1, h2, h3⟩ := nrow_loop k t (i / 128) (acc ++ [128 + i % 128]) hi2 (by omega) (by simp; omega)
      refine ⟨j, acc2, ?_, ?_, h3⟩
      · rw [← h1]
        have l3 : acc.length + 1 ≤ lim := by unfold lim; omega
        refine loopW_nx (M1 := M) ?_ ?_
        · simp [C_grp, runB, exSs, exS, evE, evEs, R.bind, R.to, R.of, F.bind, toD, toDs, asDs, binD, cmpD, ixD, toSlD, fromSlD, biD, isiD, dmD, tixD, noX, walked, seqD, boolsD, strsD, unpD, setAll, wipeG, pickD, stillE, List.lookup, fdb, Fn.cls, sh_int, sh_bool, sh_none, eqv_int, eqv_str, lim1, lim2, lim3, lim4, lim5, lim6, lim7, lim8, lim9, lim10, lim11, lim12, q]
        · simp [B_nrow, runB, exSs, exS, evE, evEs, R.bind, R.to, R.of, F.bind, toD, toDs, asDs, binD, cmpD, ixD, toSlD, fromSlD, biD, isiD, dmD, tixD, noX, walked, seqD, boolsD, strsD, unpD, setAll, wipeG, pickD, stillE, List.lookup, fdb, Fn.cls, sh_int, sh_bool, sh_none, eqv_int, eqv_str, lim1, lim2, lim3, lim4, lim5, lim6, lim7, lim8, lim9, lim10, lim11, lim12, l3]
      · rw [h2]
        rw [grpF_s, if_pos q]
        simp
    · refine ⟨i, acc, loopW_end (M1 := M) ?_, ?_, by omega⟩
      · simp [C_grp, runB, exSs, exS, evE, evEs, R.bind, R.to, R.of, F.bind, toD, toDs, asDs, binD, cmpD, ixD, toSlD, fromSlD, biD, isiD, dmD, tixD, noX, walked, seqD, boolsD, strsD, unpD, setAll, wipeG, pickD, stillE, List.lookup, fdb, Fn.cls, sh_int, sh_bool, sh_none, eqv_int, eqv_str, lim1, lim2, lim3, lim4, lim5, lim6, lim7, lim8, lim9, lim10, lim11, lim12, q]
      · rw [grpF_s, if_neg q]
theorem c_number_row {i : Int} (h : i < 128 ^ 10) : call (n + 1) .number_row [.d (.int i)] M = .ok (.d (.tuple ((grp i).map .int))) M := by
  show runB (call n) ir_number_row _ _ = _
  obtain ⟨j, acc2, h1, h2, h3⟩ := nrow_loop (n := n) (M := M) 9 turns i [] h (by decide) (by decide)
  rw [List.nil_append] at h2
  simp only [List.map_nil] at h1
  have l3 : acc2.length + 1 ≤ lim := by unfold lim; omega
  rw [ir_nrow]
  simp [runB, exSs, exS, evE, evEs, R.bind, R.to, R.of, F.bind, toD, toDs, asDs, binD, cmpD, ixD, toSlD, fromSlD, biD, isiD, dmD, tixD, noX, walked, seqD, boolsD, strsD, unpD, setAll, wipeG, pickD, stillE, List.lookup, fdb, Fn.cls, sh_int, sh_bool, sh_none, eqv_int, eqv_str, lim1, lim2, lim3, lim4, lim5, lim6, lim7, lim8, lim9, lim10, lim11, lim12, h1, l3]
  rw [grp, ← h2]
  simp
def B_grp : Ss := .cons (.app (.v 1) (.bin .add (.k (.int 128)) (.bin .mod (.bi .int (.cons (.v 0) .nil)) (.k (.int 128))))) (.cons (.set 0 (.bin .fdiv (.v 0) (.k (.int 128)))) .nil)
theorem ir_grp : ir_l_groups = ⟨1, 1, (.cons (.setN 1) (.cons (.whl C_grp B_grp) (.cons (.ret (.bin .add (.v 1) (.lst (.cons (.v 0) .nil)))) .nil))), true⟩ := rfl
theorem at_end {x : MO} : (M ++ [x])[M.length]? = some x := by simp
theorem set_end {x y : MO} : (M ++ [x]).set M.length y = M ++ [y] := by simp
theorem grp_loop : ∀ (k t : Nat) (i : Int) (acc : List Int), i < 128 ^ (k + 1) → k < t → acc.length + k ≤ 1000 →
    ∃ j acc2, loopW (fun G M => evE (call n) C_grp G M) (fun G M => exSs (call n) B_grp G M) t [some (.d (.int i)), some (.o M.length)] (M ++ [.lst (acc.map .int)]) = .nx [some (.d (.int j)), some (.o M.length)] (M ++ [.lst (acc2.map .int)]) ∧ acc2 ++ [j] = acc ++ grpF k i ∧ acc2.length ≤ 1000
  | 0, t + 1, i, acc, hi, _, hl => by
    refine ⟨i, acc, loopW_end (M1 := M ++ [.lst (acc.map .int)]) ?_, rfl, by omega⟩
    have q : ¬ 127 < i := by omega
    simp [C_grp, runB, exSs, exS, evE, evEs, R.bind, R.to, R.of, F.bind, toD, toDs, asDs, binD, cmpD, ixD, toSlD, fromSlD, biD, isiD, dmD, tixD, noX, walked, seqD, boolsD, strsD, unpD, setAll, wipeG, pickD, stillE, List.lookup, fdb, Fn.cls, sh_int, sh_bool, sh_none, eqv_int, eqv_str, lim1, lim2, lim3, lim4, lim5, lim6, lim7, lim8, lim9, lim10, lim11, lim12, q]
  | k + 1, t + 1, i, acc, hi, ht, hl => by
    by_cases q : 127 < i
    · have hi2 : i / 128 < 128 ^ (k + 1) := by
        rw [Int.pow_succ] at hi
        exact Int.ediv_lt_of_lt_mul (by decide) hi
      obtain ⟨j, acc2, h1, h2, h3⟩ := grp_loop k t (i / 128) (acc ++ [128 + i % 128]) hi2 (by omega) (by simp; omega)
      refine ⟨j, acc2, ?_, ?_, h3⟩
      · rw [← h1]
        have l3 : acc.length < lim := by unfold lim; omega
        refine loopW_nx (M1 := M ++ [.lst (acc.map .int)]) ?_ ?_
        · simp [C_grp, runB, exSs, exS, evE, evEs, R.bind, R.to, R.of, F.bind, toD, toDs, asDs, binD, cmpD, ixD, toSlD, fromSlD, biD, isiD, dmD, tixD, noX, walked, seqD, boolsD, strsD, unpD, setAll, wipeG, pickD, stillE, List.lookup, fdb, Fn.cls, sh_int, sh_bool, sh_none, eqv_int, eqv_str, lim1, lim2, lim3, lim4, lim5, lim6, lim7, lim8, lim9, lim10, lim11, lim12, q]
        · simp [B_grp, runB, exSs, exS, evE, evEs, R.bind, R.to, R.of, F.bind, toD, toDs, asDs, binD, cmpD, ixD, toSlD, fromSlD, biD, isiD, dmD, tixD, noX, walked, seqD, boolsD, strsD, unpD, setAll, wipeG, pickD, stillE, List.lookup, fdb, Fn.cls, sh_int, sh_bool, sh_none, eqv_int, eqv_str, lim1, lim2, lim3, lim4, lim5, lim6, lim7, lim8, lim9, lim10, lim11, lim12, l3, at_end, set_end]
      · rw [h2]
        rw [grpF_s, if_pos q]
        simp
    · refine ⟨i, acc, loopW_end (M1 := M ++ [.lst (acc.map .int)]) ?_, ?_, by omega⟩
      · simp [C_grp, runB, exSs, exS, evE, evEs, R.bind, R.to, R.of, F.bind, toD, toDs, asDs, binD, cmpD, ixD, toSlD, fromSlD, biD, isiD, dmD, tixD, noX, walked, seqD, boolsD, strsD, unpD, setAll, wipeG, pickD, stillE, List.lookup, fdb, Fn.cls, sh_int, sh_bool, sh_none, eqv_int, eqv_str, lim1, lim2, lim3, lim4, lim5, lim6, lim7, lim8, lim9, lim10, lim11, lim12, q]
      · rw [grpF_s, if_neg q]
theorem c_l_groups {i : Int} (h : i < 128 ^ 10) : call (n + 1) .l_groups [.d (.int i)] M = .ok (.d (.list ((grp i).map .int))) M := by
  show runB (call n) ir_l_groups _ _ = _
  obtain ⟨j, acc2, h1, h2, h3⟩ := grp_loop (n := n) (M := M) 9 turns i [] h (by decide) (by decide)
  rw [List.nil_append] at h2
  simp only [List.map_nil] at h1
  have l3 : acc2.length + 1 ≤ lim := by unfold lim; omega
  have e : (grp i).map PyData.int = acc2.map PyData.int ++ [.int j] := by rw [grp, ← h2]; simp
  rw [ir_grp, e]
  simp [runB, exSs, exS, evE, evEs, R.bind, R.to, R.of, F.bind, toD, toDs, asDs, binD, cmpD, ixD, toSlD, fromSlD, biD, isiD, dmD, tixD, noX, walked, seqD, boolsD, strsD, unpD, setAll, wipeG, pickD, stillE, List.lookup, fdb, Fn.cls, sh_int, sh_bool, sh_none, eqv_int, eqv_str, lim1, lim2, lim3, lim4, lim5, lim6, lim7, lim8, lim9, lim10, lim11, lim12, h1, l3, at_end]
end
/-! ### the row of a datum -/
mutual
def rowD : PyData → List Int
  | .bool b => [4, if b then 1 else 0]
  | .int i => 1 :: grp (i + 1)
  | .str s => 2 :: (grp s.length ++ s.cps.toList.map fun (c : Nat) => (c : Int))
  | .tuple xs => 3 :: (grp xs.length ++ rowsD xs)
  | _ => []
def rowsD : List PyData → List Int
  | [] => []
  | x :: r => rowD x ++ rowsD r
end
mutual
/-- it has a row, within b signs -/
def rok (b : Nat) : PyData → Bool
  | .bool _ => decide (2 ≤ b)
  | .int i => decide (i ≤ 4294967295) && decide (11 ≤ b)
  | .str s => decide (s.length + 11 ≤ b)
  | .tuple xs => decide (xs.length ≤ 1000) && (decide (11 ≤ b) && roks (b - 11) xs)
  | _ => false
def roks (b : Nat) : List PyData → Bool
  | [] => true
  | x :: r => rok b x && (decide ((rowD x).length ≤ b) && roks (b - (rowD x).length) r)
end
mutual
theorem rok_len : ∀ (d : PyData) (b : Nat), rok b d = true → (rowD d).length ≤ b
  | .bool x, b, h => by simpa [rok, rowD] using h
  | .int i, b, h => by
    have := grp_len (i + 1)
    simp [rok, rowD] at *
    omega
  | .str s, b, h => by
    have := grp_len s.length
    simp [rok, rowD] at *
    have e : s.cps.size = s.length := rfl
    omega
  | .tuple xs, b, h => by
    have := grp_len xs.length
    simp only [rok, Bool.and_eq_true, decide_eq_true_eq] at h
    have := roks_len xs (b - 11) h.2.2
    simp only [rowD, List.length_cons, List.length_append]
    omega
  | .none, b, h => by simp [rok] at h
  | .list _, b, h => by simp [rok] at h
  | .dict _, b, h => by simp [rok] at h
theorem roks_len : ∀ (xs : List PyData) (b : Nat), roks b xs = true → (rowsD xs).length ≤ b
  | [], b, _ => by simp [rowsD]
  | x :: r, b, h => by
    simp only [roks, Bool.and_eq_true, decide_eq_true_eq] at h
    have := roks_len r _ h.2.2
    simp only [rowsD, List.length_append]
    omega
end
section
variable {n : Nat} {M : Sto}
def B_vrow : Ss := .cons (.set 1 (.bin .add (.v 1) (.call .value_row (.cons (.v 2) .nil)))) .nil
theorem ir_vrow : ir_value_row = ⟨1, 3, (.cons (.ite (.isi (.v 0) .bool) (.cons (.ret (.tup (.cons (.k (.int 4)) (.cons (.ite (.v 0) (.k (.int 1)) (.k (.int 0))) .nil)))) .nil) .nil)
    (.cons (.ite (.isi (.v 0) .int) (.cons (.ret (.bin .add (.tup (.cons (.k (.int 1)) .nil)) (.call .number_row (.cons (.bin .add (.v 0) (.k (.int 1))) .nil)))) .nil) .nil)
    (.cons (.ite (.isi (.v 0) .str) (.cons (.ret (.bin .add (.bin .add (.tup (.cons (.k (.int 2)) .nil)) (.call .number_row (.cons (.bi .len (.cons (.v 0) .nil)) .nil))) (.bi .tuple (.cons (.comp 3 (.v 0) (.bi .ord (.cons (.v 3) .nil))) .nil)))) .nil) .nil)
    (.cons (.set 1 (.bin .add (.tup (.cons (.k (.int 3)) .nil)) (.call .number_row (.cons (.bi .len (.cons (.v 0) .nil)) .nil))))
    (.cons (.forN 2 (.v 0) B_vrow)
    (.cons (.ret (.v 1))
    .nil)))))), false⟩ := rfl
theorem ev_ord {Φ : Env} {s : Str} (h : s.length ≤ lim) {a b c : Option Val} : evE Φ (.comp 3 (.v 0) (.bi .ord (.cons (.v 3) .nil))) [some (.d (.str s)), a, b, c] M = .ok (.d (.list ((s.cps.toList.map fun (c : Nat) => (c : Int)).map .int))) M := by
  have q := ev_comp (Φ := Φ) (M := M) (G := [some (.d (.str s)), a, b, c]) (it := .v 0) (i := 3) (elt := .bi .ord (.cons (.v 3) .nil)) (d := .str s) (xs := s.cps.toList.map fun c => .str ⟨#[c]⟩) (f := fun d => match d with | .str ⟨⟨[c]⟩⟩ => .int c | d => d) (by simp [evE]) rfl (by simpa [Str.length] using h) fun x hx => by
    obtain ⟨c, _, rfl⟩ := List.mem_map.mp hx
    simp [runB, exSs, exS, evE, evEs, R.bind, R.to, R.of, F.bind, toD, toDs, asDs, binD, cmpD, ixD, toSlD, fromSlD, biD, isiD, dmD, tixD, noX, walked, seqD, boolsD, strsD, unpD, setAll, wipeG, pickD, stillE, List.lookup, fdb, Fn.cls, sh_int, sh_bool, sh_none, eqv_int, eqv_str, lim1, lim2, lim3, lim4, lim5, lim6, lim7, lim8, lim9, lim10, lim11, lim12, wipeG]
  rw [q, List.map_map, List.map_map]
  rfl
mutual
theorem c_value_row : ∀ (d : PyData) (b k : Nat), rok b d = true → b ≤ 1000000 → d.depth ≤ k → call (n + k + 2) .value_row [.d d] M = .ok (.d (.tuple ((rowD d).map .int))) M
  | .bool x, b, k, h, hb, hk => by
    show runB (call (n + k + 1)) ir_value_row _ _ = _
    cases x <;> simp [ir_vrow, runB, exSs, exS, evE, evEs, R.bind, R.to, R.of, F.bind, toD, toDs, asDs, binD, cmpD, ixD, toSlD, fromSlD, biD, isiD, dmD, tixD, noX, walked, seqD, boolsD, strsD, unpD, setAll, wipeG, pickD, stillE, List.lookup, fdb, Fn.cls, sh_int, sh_bool, sh_none, eqv_int, eqv_str, lim1, lim2, lim3, lim4, lim5, lim6, lim7, lim8, lim9, lim10, lim11, lim12, rowD]
  | .int i, b, k, h, hb, hk => by
    show runB (call (n + k + 1)) ir_value_row _ _ = _
    simp only [rok, Bool.and_eq_true, decide_eq_true_eq] at h
    have g := c_number_row (n := n + k) (M := M) (i := i + 1) (by omega)
    have l := grp_len (i + 1)
    have l3 : 1 + (grp (i + 1)).length ≤ lim := by unfold lim; omega
    simp [ir_vrow, runB, exSs, exS, evE, evEs, R.bind, R.to, R.of, F.bind, toD, toDs, asDs, binD, cmpD, ixD, toSlD, fromSlD, biD, isiD, dmD, tixD, noX, walked, seqD, boolsD, strsD, unpD, setAll, wipeG, pickD, stillE, List.lookup, fdb, Fn.cls, sh_int, sh_bool, sh_none, eqv_int, eqv_str, lim1, lim2, lim3, lim4, lim5, lim6, lim7, lim8, lim9, lim10, lim11, lim12, rowD, g, l3]
  | .str s, b, k, h, hb, hk => by
    show runB (call (n + k + 1)) ir_value_row _ _ = _
    simp only [rok, decide_eq_true_eq] at h
    have g := c_number_row (n := n + k) (M := M) (i := s.length) (by omega)
    have l := grp_len s.length
    have l2 : s.length ≤ lim := by unfold lim; omega
    have o := ev_ord (Φ := call (n + k + 1)) (M := M) l2 (a := none) (b := none) (c := none)
    have l3 : 1 + (grp s.length).length ≤ lim := by unfold lim; omega
    have l4 : (grp s.length).length + 1 + s.cps.size ≤ lim := by
      have e : s.cps.size = s.length := rfl
      unfold lim
      omega
    have gn : ∀ q, grp (s.length : Int) = q → q.length = (grp s.length).length := fun q e => by rw [e]
    generalize hE : (.comp 3 (.v 0) (.bi .ord (.cons (.v 3) .nil)) : E) = e at o
    simp only [ir_vrow, hE]
    simp [runB, exSs, exS, evE, evEs, R.bind, R.to, R.of, F.bind, toD, toDs, asDs, binD, cmpD, ixD, toSlD, fromSlD, biD, isiD, dmD, tixD, noX, walked, seqD, boolsD, strsD, unpD, setAll, wipeG, pickD, stillE, List.lookup, fdb, Fn.cls, sh_int, sh_bool, sh_none, eqv_int, eqv_str, lim1, lim2, lim3, lim4, lim5, lim6, lim7, lim8, lim9, lim10, lim11, lim12, rowD, g, l2, l3, l4, o]
  | .tuple xs, b, k, h, hb, hk => by
    simp only [rok, Bool.and_eq_true, decide_eq_true_eq] at h
    have e : PyData.depth (.tuple xs) = PyData.depthAll xs + 1 := by simp [PyData.depth, Nat.add_comm]
    obtain ⟨k, rfl⟩ : ∃ j, k = j + 1 := ⟨k - 1, by omega⟩
    show runB (call (n + k + 2)) ir_value_row _ _ = _
    have g := c_number_row (n := n + k + 1) (M := M) (i := xs.length) (by omega)
    have l := grp_len xs.length
    have l2 := roks_len xs _ h.2.2
    have l3 : 1 + (grp xs.length).length ≤ lim := by unfold lim; omega
    obtain ⟨x', go⟩ := c_value_rows xs (b - 11) k (3 :: grp xs.length) (.d (.tuple xs)) none none h.2.2 (by omega) (by omega) (by simp; omega)
    simp only [List.map_cons] at go
    simp only [ir_vrow]
    simp [runB, exSs, exS, evE, evEs, R.bind, R.to, R.of, F.bind, toD, toDs, asDs, binD, cmpD, ixD, toSlD, fromSlD, biD, isiD, dmD, tixD, noX, walked, seqD, boolsD, strsD, unpD, setAll, wipeG, pickD, stillE, List.lookup, fdb, Fn.cls, sh_int, sh_bool, sh_none, eqv_int, eqv_str, lim1, lim2, lim3, lim4, lim5, lim6, lim7, lim8, lim9, lim10, lim11, lim12, rowD, g, l3, go]
  | .none, b, k, h, hb, hk => by simp [rok] at h
  | .list _, b, k, h, hb, hk => by simp [rok] at h
  | .dict _, b, k, h, hb, hk => by simp [rok] at h
theorem c_value_rows : ∀ (xs : List PyData) (b k : Nat) (acc : List Int) (v0 : Val) (x y : Option Val), roks b xs = true → b ≤ 1000000 → PyData.depthAll xs ≤ k → acc.length + (rowsD xs).length ≤ 1000011 →
    ∃ x', forL (fun x G => some (G.set 2 (some (.d x)))) (fun G M => exSs (call (n + k + 2)) B_vrow G M) xs [some v0, some (.d (.tuple (acc.map .int))), x, y] M = .nx [some v0, some (.d (.tuple ((acc ++ rowsD xs).map .int))), x', y] M
  | [], b, k, acc, v0, x, y, _, _, _, _ => ⟨x, by simp [forL, rowsD]⟩
  | d :: r, b, k, acc, v0, x, y, h, hb, hk, hl => by
    simp only [roks, Bool.and_eq_true, decide_eq_true_eq] at h
    have e : PyData.depthAll (d :: r) = max d.depth (PyData.depthAll r) := by rw [PyData.depthAll]
    rw [e] at hk
    have one := c_value_row d b k h.1 hb (by omega)
    have el : rowsD (d :: r) = rowD d ++ rowsD r := by rw [rowsD]
    rw [el, List.length_append] at hl
    obtain ⟨x', ih⟩ := c_value_rows r (b - (rowD d).length) k (acc ++ rowD d) v0 (some (.d d)) y h.2.2 (by omega) (by omega) (by simp; omega)
    have l3 : acc.length + (rowD d).length ≤ lim := by unfold lim; omega
    refine ⟨x', ?_⟩
    rw [el, ← List.append_assoc, ← ih]
    simp [forL, B_vrow, runB, exSs, exS, evE, evEs, R.bind, R.to, R.of, F.bind, toD, toDs, asDs, binD, cmpD, ixD, toSlD, fromSlD, biD, isiD, dmD, tixD, noX, walked, seqD, boolsD, strsD, unpD, setAll, wipeG, pickD, stillE, List.lookup, fdb, Fn.cls, sh_int, sh_bool, sh_none, eqv_int, eqv_str, lim1, lim2, lim3, lim4, lim5, lim6, lim7, lim8, lim9, lim10, lim11, lim12, one, l3]
end
end
end K75

set_option Elab.async false
set_option linter.all false
set_option autoImplicit false
set_option maxRecDepth 100000
set_option maxHeartbeats 2000000
/-! Mathematics, part 20: the law's text of a list. -/
namespace K75
open PySem
section
variable {n : Nat} {M : Sto}
def X_entl : E := .bin .add (.bin .add (.bin .add (.bin .add (.bin .add (.bin .add (.call .l_words (.cons (.ix (.v 3) (.k (.int 0))) .nil)) (.k (.str (⟨#[58]⟩ : Str)))) (.bi .str (.cons (.ix (.v 3) (.k (.int 1))) .nil))) (.k (.str (⟨#[58]⟩ : Str)))) (.bi .str (.cons (.ix (.v 3) (.k (.int 2))) .nil))) (.k (.str (⟨#[58]⟩ : Str)))) (.ix (.v 3) (.k (.int 3)))
def A_entl : E := .comp 3 (.ix (.v 0) (.k (.int 7))) X_entl
def A_yn : E := .ite (.ix (.ix (.v 0) (.k (.int 6))) (.k (.int 1))) (.k (.str (⟨#[121, 101, 115]⟩ : Str))) (.k (.str (⟨#[110, 111]⟩ : Str)))
theorem ir_llt : ir_l_list_text = ⟨1, 3, (.cons (.set 1 (.lst (.cons (.k (.str (⟨#[108, 105, 115, 116]⟩ : Str))) (.cons (.call .l_words (.cons (.ix (.v 0) (.k (.int 0))) .nil)) (.cons (.bi .str (.cons (.ix (.v 0) (.k (.int 1))) .nil)) (.cons (.bi .str (.cons (.ix (.v 0) (.k (.int 2))) .nil)) (.cons (.call .l_integer (.cons (.ix (.v 0) (.k (.int 3))) .nil)) (.cons (.bi .str (.cons (.ix (.v 0) (.k (.int 4))) .nil)) (.cons (.bi .str (.cons (.ix (.v 0) (.k (.int 5))) .nil)) (.cons (.ix (.ix (.v 0) (.k (.int 6))) (.k (.int 0))) .nil))))))))))
    (.cons (.setC 2 A_entl)
    (.cons (.ret (.dm .join (.k (.str (⟨#[32]⟩ : Str))) (.bin .add (.v 1) (.lst (.cons A_yn (.cons (.call .l_several (.cons (.bi .list (.cons (.ix (.ix (.v 0) (.k (.int 6))) (.k (.int 2))) .nil)) .nil)) (.cons (.call .l_several (.cons (.v 2) .nil)) (.cons (.bi .str (.cons (.ix (.v 0) (.k (.int 8))) .nil)) .nil))))))))
    .nil))), false⟩ := rfl
theorem add_str {a b : List Nat} (h : a.length + b.length ≤ 20000) : binD .add (.str (tx a)) (.str (tx b)) = some (.str (tx (a ++ b))) := by
  have l : (tx a).length + (tx b).length ≤ lim := by rw [tx_len, tx_len]; unfold lim; omega
  have e : binD .add (.str (tx a)) (.str (tx b)) = if (tx a).length + (tx b).length ≤ lim then some (.str (tx a ++ tx b)) else none := rfl
  rw [e, if_pos l, tx_add]
theorem ent_plus {a : Nm} (o : a.Ok) {x : En} (h1 : x.ser ≤ 1000000) (h2 : x.why ∈ whys) {G : Loc} (hG : G[3]? = some (some (.d (.tuple [a.D, .int x.ser, .int 5, .str (tx x.why)])))) : evE (call (n + 1)) X_entl G M = .ok (.d (.str (tx (x.L a)))) M := by
  have a1 := nm_len o
  have a2 := num_len (i := x.ser) (by omega)
  have a3 := num_len (i := 5) (by omega)
  have a4 := why_len h2
  have n1 := c_l_words (n := n) (M := M) o
  have n2 := str_nat (i := x.ser) (by omega)
  have n3 := str_nat (i := 5) (by omega)
  have k5 : ((5 : Nat) : Int) = 5 := rfl
  rw [k5] at n3
  have e0 : (⟨#[58]⟩ : Str) = tx [58] := rfl
  have p1 := add_str (a := a.L) (b := [58]) (by simp only [List.length_append, List.length_cons, List.length_nil]; omega)
  have p2 := add_str (a := a.L ++ [58]) (b := TL.numL x.ser) (by simp only [List.length_append, List.length_cons, List.length_nil]; omega)
  have p3 := add_str (a := a.L ++ [58] ++ TL.numL x.ser) (b := [58]) (by simp only [List.length_append, List.length_cons, List.length_nil]; omega)
  have p4 := add_str (a := a.L ++ [58] ++ TL.numL x.ser ++ [58]) (b := TL.numL 5) (by simp only [List.length_append, List.length_cons, List.length_nil]; omega)
  have p5 := add_str (a := a.L ++ [58] ++ TL.numL x.ser ++ [58] ++ TL.numL 5) (b := [58]) (by simp only [List.length_append, List.length_cons, List.length_nil]; omega)
  have p6 := add_str (a := a.L ++ [58] ++ TL.numL x.ser ++ [58] ++ TL.numL 5 ++ [58]) (b := x.why) (by simp only [List.length_append, List.length_cons, List.length_nil]; omega)
  have el : x.L a = a.L ++ [58] ++ TL.numL x.ser ++ [58] ++ TL.numL 5 ++ [58] ++ x.why := by simp [En.L]
  rw [el]
  have i0 : ∀ p q r s, ixD (.tuple [p, q, r, s]) (.int 0) = some p := fun _ _ _ _ => rfl
  have i1 : ∀ p q r s, ixD (.tuple [p, q, r, s]) (.int 1) = some q := fun _ _ _ _ => rfl
  have i2 : ∀ p q r s, ixD (.tuple [p, q, r, s]) (.int 2) = some r := fun _ _ _ _ => rfl
  have i3 : ∀ p q r s, ixD (.tuple [p, q, r, s]) (.int 3) = some s := fun _ _ _ _ => rfl
  simp only [X_entl, e0, evE, evEs, R.bind, hG, toD, toDs, i0, i1, i2, i3, n1, n2, n3, p1, p2, p3, p4, p5, p6, R.of, Option.map]
theorem c_l_list_text {o : Ow} (g : o.Rd) : call (n + 2) .l_list_text [.d o.D] M = .ok (.d (.str (tx o.T))) M := by
  show runB (call (n + 1)) ir_l_list_text _ _ = _
  have l30 := g.many
  have e : o.D = .tuple [o.a.D, .int o.key, .int o.num, .int o.base, .int o.since, .int o.til, .tuple [.str (tx o.sc.kind), .bool o.sc.oth, .tuple (o.sc.lot.map fun w => .str (tx w))], .tuple (o.ents.map (En.D o.a)), .int o.sg] := rfl
  have ev (G : Loc) (h0 : G[0]? = some (some (.d o.D))) (h12 : 3 < G.length) : evE (call (n + 1)) A_entl G M = .ok (.d (.list (o.ents.map fun x => .str (tx (En.L o.a x))))) M := by
    have q := ev_comp (Φ := call (n + 1)) (M := M) (G := G) (it := .ix (.v 0) (.k (.int 7))) (i := 3) (elt := X_entl) (d := .tuple (o.ents.map (En.D o.a))) (xs := o.ents.map (En.D o.a)) (f := entF o.a) (by rw [e] at h0; simp [runB, exSs, exS, evE, evEs, R.bind, R.to, R.of, F.bind, toD, toDs, asDs, binD, cmpD, ixD, toSlD, fromSlD, biD, isiD, dmD, tixD, noX, walked, seqD, boolsD, strsD, unpD, setAll, wipeG, pickD, stillE, List.lookup, fdb, Fn.cls, sh_int, sh_bool, sh_none, eqv_int, eqv_str, lim1, lim2, lim3, lim4, lim5, lim6, lim7, lim8, lim9, lim10, lim11, lim12, h0]) rfl (by simp; unfold lim; omega) fun x hx => by
      obtain ⟨v, hv, rfl⟩ := List.mem_map.mp hx
      obtain ⟨h1, h2⟩ := g.ents v hv
      have g12 : ((wipeG G [3]).set 3 (some (.d (En.D o.a v))))[3]? = some (some (.d (En.D o.a v))) := by
        rw [List.getElem?_set_self (by simp [wipeG]; exact h12)]
      rw [entF_is]
      exact ent_plus g.a h1 h2 g12
    unfold A_entl
    rw [q, List.map_map]
    congr 4
  have yns (G : Loc) (h0 : G[0]? = some (some (.d o.D))) : evE (call (n + 1)) A_yn G M = .ok (.d (.str (tx (yn o.sc.oth)))) M := by
    rw [e] at h0
    cases q : o.sc.oth <;> simp [A_yn, runB, exSs, exS, evE, evEs, R.bind, R.to, R.of, F.bind, toD, toDs, asDs, binD, cmpD, ixD, toSlD, fromSlD, biD, isiD, dmD, tixD, noX, walked, seqD, boolsD, strsD, unpD, setAll, wipeG, pickD, stillE, List.lookup, fdb, Fn.cls, sh_int, sh_bool, sh_none, eqv_int, eqv_str, lim1, lim2, lim3, lim4, lim5, lim6, lim7, lim8, lim9, lim10, lim11, lim12, h0, q, yn]
  have s1 := c_l_words (n := n) (M := M) g.a
  have s2 := str_nat g.key
  have s3 := str_nat (i := o.num) (by have := g.num; omega)
  have s4 := c_l_integer (n := n) (M := M) (o := o)
  have s5 := str_nat (i := o.since) (by have := g.since; omega)
  have s6 := str_nat (i := o.til) (by have := g.til; omega)
  have s8 := c_l_several (n := n) (M := M) (tL := id) (lots_sum g)
  have s9 := c_l_several (n := n) (M := M) (tL := En.L o.a) (ents_sum g)
  have s10 := str_nat g.sg
  have j := T_join g
  simp only [Ow.parts, List.map_cons, List.map_nil] at j
  have ls : ∀ d, biD .list [.tuple d] = some (.list d) := fun d => rfl
  have ev2 := fun x => ev [some (.d o.D), some x, none, none] rfl (by simp)
  have yn2 := fun x y => yns [some (.d o.D), some x, some y, none] rfl
  rw [ir_llt]
  generalize o.D = d at *
  subst e
  simp only [id] at s8
  simp [runB, exSs, exS, evE, evEs, R.bind, R.to, R.of, F.bind, toD, toDs, asDs, binD, cmpD, ixD, toSlD, fromSlD, isiD, tixD, noX, walked, seqD, boolsD, strsD, unpD, setAll, wipeG, pickD, stillE, List.lookup, fdb, Fn.cls, sh_int, sh_bool, sh_none, eqv_int, eqv_str, lim1, lim2, lim3, lim4, lim5, lim6, lim7, lim8, lim9, lim10, lim11, lim12, s1, s2, s3, s4, s5, s6, s8, s9, s10, ev2, yn2, ls, j]
theorem c_thing_text {o : Ow} (g : o.Rd) : call (n + 3) .thing_text [.d (.str (⟨#[108, 105, 115, 116]⟩ : Str)), .d o.D] M = .ok (.d (.str (tx o.T))) M := by
  show runB (call (n + 2)) ir_thing_text _ _ = _
  have s1 := c_list_of_text (n := n) (M := M) g
  have q1 := sh_of (⟨#[108, 105, 115, 116]⟩ : Str) rfl
  have q2 := sh_of (⟨#[99, 101, 114, 116, 105, 102, 105, 99, 97, 116, 101]⟩ : Str) rfl
  generalize o.D = d at *
  simp [ir_thing_text, runB, exSs, exS, evE, evEs, R.bind, R.to, R.of, F.bind, toD, toDs, asDs, binD, cmpD, ixD, toSlD, fromSlD, biD, isiD, dmD, tixD, noX, walked, seqD, boolsD, strsD, unpD, setAll, wipeG, pickD, stillE, List.lookup, fdb, Fn.cls, sh_int, sh_bool, sh_none, eqv_int, eqv_str, lim1, lim2, lim3, lim4, lim5, lim6, lim7, lim8, lim9, lim10, lim11, lim12, q1, q2, s1]
end
end K75

set_option Elab.async false
set_option linter.all false
set_option autoImplicit false
set_option maxRecDepth 100000
set_option maxHeartbeats 2000000
/-! Mathematics, part 21: the law's row of a datum; seals. -/
namespace K75
open PySem
section
variable {n : Nat} {M : Sto}
def B_lrow : Ss := .cons (.set 1 (.bin .add (.v 1) (.call .l_row (.cons (.v 2) .nil)))) .nil
theorem ir_lrow : ir_l_row = ⟨1, 3, (.cons (.ite (.isi (.v 0) .bool) (.cons (.ret (.lst (.cons (.k (.int 4)) (.cons (.ite (.v 0) (.k (.int 1)) (.k (.int 0))) .nil)))) .nil) .nil)
    (.cons (.ite (.isi (.v 0) .int) (.cons (.ret (.bin .add (.lst (.cons (.k (.int 1)) .nil)) (.call .l_groups (.cons (.bin .add (.v 0) (.k (.int 1))) .nil)))) .nil) .nil)
    (.cons (.ite (.isi (.v 0) .str) (.cons (.ret (.bin .add (.bin .add (.lst (.cons (.k (.int 2)) .nil)) (.call .l_groups (.cons (.bi .len (.cons (.v 0) .nil)) .nil))) (.comp 3 (.v 0) (.bi .ord (.cons (.v 3) .nil))))) .nil) .nil)
    (.cons (.set 1 (.bin .add (.lst (.cons (.k (.int 3)) .nil)) (.call .l_groups (.cons (.bi .len (.cons (.v 0) .nil)) .nil))))
    (.cons (.forN 2 (.v 0) B_lrow)
    (.cons (.ret (.v 1))
    .nil)))))), false⟩ := rfl
mutual
theorem c_l_row : ∀ (d : PyData) (b k : Nat), rok b d = true → b ≤ 1000000 → d.depth ≤ k → call (n + k + 2) .l_row [.d d] M = .ok (.d (.list ((rowD d).map .int))) M
  | .bool x, b, k, h, hb, hk => by
    show runB (call (n + k + 1)) ir_l_row _ _ = _
    cases x <;> simp [ir_lrow, runB, exSs, exS, evE, evEs, R.bind, R.to, R.of, F.bind, toD, toDs, asDs, binD, cmpD, ixD, toSlD, fromSlD, biD, isiD, dmD, tixD, noX, walked, seqD, boolsD, strsD, unpD, setAll, wipeG, pickD, stillE, List.lookup, fdb, Fn.cls, sh_int, sh_bool, sh_none, eqv_int, eqv_str, lim1, lim2, lim3, lim4, lim5, lim6, lim7, lim8, lim9, lim10, lim11, lim12, rowD]
  | .int i, b, k, h, hb, hk => by
    show runB (call (n + k + 1)) ir_l_row _ _ = _
    simp only [rok, Bool.and_eq_true, decide_eq_true_eq] at h
    have g := c_l_groups (n := n + k) (M := M) (i := i + 1) (by omega)
    have l := grp_len (i + 1)
    have l3 : 1 + (grp (i + 1)).length ≤ lim := by unfold lim; omega
    simp [ir_lrow, runB, exSs, exS, evE, evEs, R.bind, R.to, R.of, F.bind, toD, toDs, asDs, binD, cmpD, ixD, toSlD, fromSlD, biD, isiD, dmD, tixD, noX, walked, seqD, boolsD, strsD, unpD, setAll, wipeG, pickD, stillE, List.lookup, fdb, Fn.cls, sh_int, sh_bool, sh_none, eqv_int, eqv_str, lim1, lim2, lim3, lim4, lim5, lim6, lim7, lim8, lim9, lim10, lim11, lim12, rowD, g, l3]
  | .str s, b, k, h, hb, hk => by
    show runB (call (n + k + 1)) ir_l_row _ _ = _
    simp only [rok, decide_eq_true_eq] at h
    have g := c_l_groups (n := n + k) (M := M) (i := s.length) (by omega)
    have l := grp_len s.length
    have l2 : s.length ≤ lim := by unfold lim; omega
    have o := ev_ord (Φ := call (n + k + 1)) (M := M) l2 (a := none) (b := none) (c := none)
    have l3 : 1 + (grp s.length).length ≤ lim := by unfold lim; omega
    have l4 : (grp s.length).length + 1 + s.cps.size ≤ lim := by
      have e : s.cps.size = s.length := rfl
      unfold lim
      omega
    have gn : ∀ q, grp (s.length : Int) = q → q.length = (grp s.length).length := fun q e => by rw [e]
    generalize hE : (.comp 3 (.v 0) (.bi .ord (.cons (.v 3) .nil)) : E) = e at o
    simp only [ir_lrow, hE]
    simp [runB, exSs, exS, evE, evEs, R.bind, R.to, R.of, F.bind, toD, toDs, asDs, binD, cmpD, ixD, toSlD, fromSlD, biD, isiD, dmD, tixD, noX, walked, seqD, boolsD, strsD, unpD, setAll, wipeG, pickD, stillE, List.lookup, fdb, Fn.cls, sh_int, sh_bool, sh_none, eqv_int, eqv_str, lim1, lim2, lim3, lim4, lim5, lim6, lim7, lim8, lim9, lim10, lim11, lim12, rowD, g, l2, l3, l4, o]
  | .tuple xs, b, k, h, hb, hk => by
    simp only [rok, Bool.and_eq_true, decide_eq_true_eq] at h
    have e : PyData.depth (.tuple xs) = PyData.depthAll xs + 1 := by simp [PyData.depth, Nat.add_comm]
    obtain ⟨k, rfl⟩ : ∃ j, k = j + 1 := ⟨k - 1, by omega⟩
    show runB (call (n + k + 2)) ir_l_row _ _ = _
    have g := c_l_groups (n := n + k + 1) (M := M) (i := xs.length) (by omega)
    have l := grp_len xs.length
    have l2 := roks_len xs _ h.2.2
    have l3 : 1 + (grp xs.length).length ≤ lim := by unfold lim; omega
    obtain ⟨x', go⟩ := c_l_rows xs (b - 11) k (3 :: grp xs.length) (.d (.tuple xs)) none none h.2.2 (by omega) (by omega) (by simp; omega)
    simp only [List.map_cons] at go
    simp only [ir_lrow]
    simp [runB, exSs, exS, evE, evEs, R.bind, R.to, R.of, F.bind, toD, toDs, asDs, binD, cmpD, ixD, toSlD, fromSlD, biD, isiD, dmD, tixD, noX, walked, seqD, boolsD, strsD, unpD, setAll, wipeG, pickD, stillE, List.lookup, fdb, Fn.cls, sh_int, sh_bool, sh_none, eqv_int, eqv_str, lim1, lim2, lim3, lim4, lim5, lim6, lim7, lim8, lim9, lim10, lim11, lim12, rowD, g, l3, go]
  | .none, b, k, h, hb, hk => by simp [rok] at h
  | .list _, b, k, h, hb, hk => by simp [rok] at h
  | .dict _, b, k, h, hb, hk => by simp [rok] at h
theorem c_l_rows : ∀ (xs : List PyData) (b k : Nat) (acc : List Int) (v0 : Val) (x y : Option Val), roks b xs = true → b ≤ 1000000 → PyData.depthAll xs ≤ k → acc.length + (rowsD xs).length ≤ 1000011 →
    ∃ x', forL (fun x G => some (G.set 2 (some (.d x)))) (fun G M => exSs (call (n + k + 2)) B_lrow G M) xs [some v0, some (.d (.list (acc.map .int))), x, y] M = .nx [some v0, some (.d (.list ((acc ++ rowsD xs).map .int))), x', y] M
  | [], b, k, acc, v0, x, y, _, _, _, _ => ⟨x, by simp [forL, rowsD]⟩
  | d :: r, b, k, acc, v0, x, y, h, hb, hk, hl => by
    simp only [roks, Bool.and_eq_true, decide_eq_true_eq] at h
    have e : PyData.depthAll (d :: r) = max d.depth (PyData.depthAll r) := by rw [PyData.depthAll]
    rw [e] at hk
    have one := c_l_row d b k h.1 hb (by omega)
    have el : rowsD (d :: r) = rowD d ++ rowsD r := by rw [rowsD]
    rw [el, List.length_append] at hl
    obtain ⟨x', ih⟩ := c_l_rows r (b - (rowD d).length) k (acc ++ rowD d) v0 (some (.d d)) y h.2.2 (by omega) (by omega) (by simp; omega)
    have l3 : acc.length + (rowD d).length ≤ lim := by unfold lim; omega
    refine ⟨x', ?_⟩
    rw [el, ← List.append_assoc, ← ih]
    simp [forL, B_lrow, runB, exSs, exS, evE, evEs, R.bind, R.to, R.of, F.bind, toD, toDs, asDs, binD, cmpD, ixD, toSlD, fromSlD, biD, isiD, dmD, tixD, noX, walked, seqD, boolsD, strsD, unpD, setAll, wipeG, pickD, stillE, List.lookup, fdb, Fn.cls, sh_int, sh_bool, sh_none, eqv_int, eqv_str, lim1, lim2, lim3, lim4, lim5, lim6, lim7, lim8, lim9, lim10, lim11, lim12, one, l3]
end

/-! ### seals -/
def sealF (k : Int) (row : List Int) : Int := ((row.foldl (fun v x => (v * 257 + x + 1) % 4294967291) (k % 4294967291)) * (row.foldl (fun v x => (v * 257 + x + 1) % 4294967291) (k % 4294967291)) + k) % 4294967291
def B_sby : Ss := .cons (.set 2 (.bin .mod (.bin .add (.bin .add (.bin .mul (.v 2) (.g (⟨#[84, 85, 82, 78]⟩ : Str) (.int 257))) (.v 3)) (.k (.int 1))) (.g (⟨#[80, 82, 73, 77, 69]⟩ : Str) (.int 4294967291)))) .nil
theorem ir_sby : ir_seal_by = ⟨2, 2, (.cons (.set 2 (.bin .mod (.v 0) (.g (⟨#[80, 82, 73, 77, 69]⟩ : Str) (.int 4294967291))))
    (.cons (.forN 3 (.v 1) B_sby)
    (.cons (.ret (.bin .mod (.bin .add (.bin .mul (.v 2) (.v 2)) (.v 0)) (.g (⟨#[80, 82, 73, 77, 69]⟩ : Str) (.int 4294967291))))
    .nil))), false⟩ := rfl
def B_lsl : Ss := .cons (.set 2 (.bin .mod (.bi .int (.cons (.bin .add (.bin .add (.bin .mul (.v 2) (.k (.int 257))) (.v 3)) (.k (.int 1))) .nil)) (.k (.int 4294967291)))) .nil
theorem ir_lsl : ir_l_seal = ⟨2, 2, (.cons (.set 2 (.bin .mod (.bi .int (.cons (.v 0) .nil)) (.k (.int 4294967291))))
    (.cons (.forN 3 (.v 1) B_lsl)
    (.cons (.ret (.bin .mod (.bi .int (.cons (.bin .add (.bin .mul (.v 2) (.v 2)) (.v 0)) .nil)) (.k (.int 4294967291))))
    .nil))), false⟩ := rfl
theorem sby_loop {v0 v1 : Val} : ∀ (row : List Int) (v : Int) (x : Option Val),
    ∃ x', forL (fun x G => some (G.set 3 (some (.d x)))) (fun G M => exSs (call n) B_sby G M) (row.map .int) [some v0, some v1, some (.d (.int v)), x] M = .nx [some v0, some v1, some (.d (.int (row.foldl (fun v x => (v * 257 + x + 1) % 4294967291) v))), x'] M
  | [], v, x => ⟨x, by simp [forL]⟩
  | i :: r, v, x => by
    obtain ⟨x', ih⟩ := sby_loop r ((v * 257 + i + 1) % 4294967291) (some (.d (.int i)))
    refine ⟨x', ?_⟩
    rw [List.foldl_cons, ← ih]
    simp [forL, B_sby, runB, exSs, exS, evE, evEs, R.bind, R.to, R.of, F.bind, toD, toDs, asDs, binD, cmpD, ixD, toSlD, fromSlD, biD, isiD, dmD, tixD, noX, walked, seqD, boolsD, strsD, unpD, setAll, wipeG, pickD, stillE, List.lookup, fdb, Fn.cls, sh_int, sh_bool, sh_none, eqv_int, eqv_str, lim1, lim2, lim3, lim4, lim5, lim6, lim7, lim8, lim9, lim10, lim11, lim12]
theorem lsl_loop {v0 v1 : Val} : ∀ (row : List Int) (v : Int) (x : Option Val),
    ∃ x', forL (fun x G => some (G.set 3 (some (.d x)))) (fun G M => exSs (call n) B_lsl G M) (row.map .int) [some v0, some v1, some (.d (.int v)), x] M = .nx [some v0, some v1, some (.d (.int (row.foldl (fun v x => (v * 257 + x + 1) % 4294967291) v))), x'] M
  | [], v, x => ⟨x, by simp [forL]⟩
  | i :: r, v, x => by
    obtain ⟨x', ih⟩ := lsl_loop r ((v * 257 + i + 1) % 4294967291) (some (.d (.int i)))
    refine ⟨x', ?_⟩
    rw [List.foldl_cons, ← ih]
    simp [forL, B_lsl, runB, exSs, exS, evE, evEs, R.bind, R.to, R.of, F.bind, toD, toDs, asDs, binD, cmpD, ixD, toSlD, fromSlD, biD, isiD, dmD, tixD, noX, walked, seqD, boolsD, strsD, unpD, setAll, wipeG, pickD, stillE, List.lookup, fdb, Fn.cls, sh_int, sh_bool, sh_none, eqv_int, eqv_str, lim1, lim2, lim3, lim4, lim5, lim6, lim7, lim8, lim9, lim10, lim11, lim12]
theorem fold_lt : ∀ (row : List Int) (v : Int), 0 ≤ v → v < 4294967291 → 0 ≤ row.foldl (fun v x => (v * 257 + x + 1) % 4294967291) v ∧ row.foldl (fun v x => (v * 257 + x + 1) % 4294967291) v < 4294967291
  | [], v, h1, h2 => ⟨h1, h2⟩
  | i :: r, v, h1, h2 => fold_lt r _ (Int.emod_nonneg _ (by decide)) (Int.emod_lt_of_pos _ (by decide))
theorem c_seal_by {k : Int} {row : List Int} : call (n + 1) .seal_by [.d (.int k), .d (.tuple (row.map .int))] M = .ok (.d (.int (sealF k row))) M := by
  show runB (call n) ir_seal_by _ _ = _
  obtain ⟨x', go⟩ := sby_loop (n := n) (M := M) (v0 := .d (.int k)) (v1 := .d (.tuple (row.map .int))) row (k % 4294967291) none
  obtain ⟨b1, b2⟩ := fold_lt row (k % 4294967291) (Int.emod_nonneg _ (by decide)) (Int.emod_lt_of_pos _ (by decide))
  rw [ir_sby]
  unfold sealF
  generalize row.foldl (fun v x => (v * 257 + x + 1) % 4294967291) (k % 4294967291) = f at *
  have c1 : -18446744073709551616 < f := by omega
  have c2 : f < 18446744073709551616 := by omega
  simp [runB, exSs, exS, evE, evEs, R.bind, R.to, R.of, F.bind, toD, toDs, asDs, binD, cmpD, ixD, toSlD, fromSlD, biD, isiD, dmD, tixD, noX, walked, seqD, boolsD, strsD, unpD, setAll, wipeG, pickD, stillE, List.lookup, fdb, Fn.cls, sh_int, sh_bool, sh_none, eqv_int, eqv_str, lim1, lim2, lim3, lim4, lim5, lim6, lim7, lim8, lim9, lim10, lim11, lim12, go, c1, c2]
theorem c_l_seal {k : Int} {row : List Int} : call (n + 1) .l_seal [.d (.int k), .d (.list (row.map .int))] M = .ok (.d (.int (sealF k row))) M := by
  show runB (call n) ir_l_seal _ _ = _
  obtain ⟨x', go⟩ := lsl_loop (n := n) (M := M) (v0 := .d (.int k)) (v1 := .d (.list (row.map .int))) row (k % 4294967291) none
  obtain ⟨b1, b2⟩ := fold_lt row (k % 4294967291) (Int.emod_nonneg _ (by decide)) (Int.emod_lt_of_pos _ (by decide))
  rw [ir_lsl]
  unfold sealF
  generalize row.foldl (fun v x => (v * 257 + x + 1) % 4294967291) (k % 4294967291) = f at *
  have c1 : -18446744073709551616 < f := by omega
  have c2 : f < 18446744073709551616 := by omega
  simp [runB, exSs, exS, evE, evEs, R.bind, R.to, R.of, F.bind, toD, toDs, asDs, binD, cmpD, ixD, toSlD, fromSlD, biD, isiD, dmD, tixD, noX, walked, seqD, boolsD, strsD, unpD, setAll, wipeG, pickD, stillE, List.lookup, fdb, Fn.cls, sh_int, sh_bool, sh_none, eqv_int, eqv_str, lim1, lim2, lim3, lim4, lim5, lim6, lim7, lim8, lim9, lim10, lim11, lim12, go, c1, c2]
theorem sealF_lt (k : Int) (row : List Int) : 0 ≤ sealF k row ∧ sealF k row < 4294967291 := ⟨Int.emod_nonneg _ (by decide), Int.emod_lt_of_pos _ (by decide)⟩
end
end K75

set_option Elab.async false
set_option linter.all false
set_option autoImplicit false
set_option maxRecDepth 100000
set_option maxHeartbeats 2000000
/-! Mathematics, part 22: seals of lists; lists compared. -/
namespace K75
open PySem
/-! ### rows of lists -/
def Rk (k : Nat) (d : PyData) : Prop := ∀ b, k ≤ b → rok b d = true
theorem rk_bool (x : Bool) : Rk 2 (.bool x) := fun b h => by simpa [rok] using h
theorem rk_int {i : Int} (hi : i ≤ 4294967295) : Rk 11 (.int i) := fun b h => by simp [rok, hi, h]
theorem rk_str {l : List Nat} {m : Nat} (hl : l.length ≤ m) : Rk (m + 11) (.str (tx l)) := fun b h => by
  simp only [rok, tx_len, decide_eq_true_eq]
  omega
theorem Rk.mono {j k : Nat} {d : PyData} (h : Rk j d) (hk : j ≤ k) : Rk k d := fun b hb => h b (Nat.le_trans hk hb)
theorem rks {k : Nat} : ∀ {xs : List PyData}, (∀ x ∈ xs, Rk k x) → ∀ b, xs.length * k ≤ b → roks b xs = true
  | [], _, b, _ => rfl
  | x :: r, h, b, hb => by
    rw [List.length_cons, Nat.succ_mul] at hb
    have h0 := h x List.mem_cons_self
    have l := rok_len x k (h0 k (Nat.le_refl _))
    simp only [roks, Bool.and_eq_true, decide_eq_true_eq]
    exact ⟨h0 b (by omega), by omega, rks (fun y hy => h y (List.mem_cons_of_mem _ hy)) _ (by omega)⟩
theorem rk_tup {k m : Nat} {xs : List PyData} (h : ∀ x ∈ xs, Rk k x) (hm : xs.length ≤ m) (h1 : m ≤ 1000) : Rk (11 + m * k) (.tuple xs) := fun b hb => by
  have : xs.length * k ≤ m * k := Nat.mul_le_mul_right k hm
  simp only [rok, Bool.and_eq_true, decide_eq_true_eq]
  exact ⟨by omega, by omega, rks h _ (by omega)⟩
theorem rk_nm {a : Nm} (o : a.Ok) : Rk 200 a.D := by
  have h := rk_tup (k := 23) (m := 4) (xs := (a.w :: a.ws).map fun v => .str (tx v)) (fun x hx => by
    obtain ⟨w, hw, rfl⟩ := List.mem_map.mp hx
    exact rk_str (m := 12) (o.wo w hw).len) (by have := o.len; simp; omega) (by decide)
  exact h.mono (by decide)
theorem rk_en {a : Nm} (o : a.Ok) {x : En} (h1 : x.ser ≤ 1000000) (h2 : x.why ∈ whys) : Rk 1000 (x.D a) := by
  have h := rk_tup (k := 200) (m := 4) (xs := [a.D, .int x.ser, .int 5, .str (tx x.why)]) (fun y hy => by
    simp only [List.mem_cons, List.not_mem_nil, or_false] at hy
    rcases hy with e | e | e | e <;> subst e
    · exact rk_nm o
    · exact (rk_int (by omega)).mono (by decide)
    · exact (rk_int (by omega)).mono (by decide)
    · exact (rk_str (m := 10) (why_len h2)).mono (by decide)) (by simp) (by decide)
  exact h.mono (by decide)
theorem rk_sc {s : Sc} (h0 : s.kind ∈ kinds) (h1 : s.lot.length ≤ 6) (h2 : ∀ w ∈ s.lot, w ∈ whys) : Rk 1000 s.D := by
  have hl := rk_tup (k := 21) (m := 6) (xs := s.lot.map fun w => .str (tx w)) (fun x hx => by
    obtain ⟨w, hw, rfl⟩ := List.mem_map.mp hx
    exact rk_str (m := 10) (why_len (h2 w hw))) (by simpa using h1) (by decide)
  have h := rk_tup (k := 200) (m := 3) (xs := [.str (tx s.kind), .bool s.oth, .tuple (s.lot.map fun w => .str (tx w))]) (fun y hy => by
    simp only [List.mem_cons, List.not_mem_nil, or_false] at hy
    rcases hy with e | e | e <;> subst e
    · exact (rk_str (m := 10) (kind_len _ h0).1).mono (by decide)
    · exact (rk_bool _).mono (by decide)
    · exact hl.mono (by decide)) (by simp) (by decide)
  exact h.mono (by decide)
theorem base_le (o : Ow) : o.base ≤ 0 := by
  unfold Ow.base
  split <;> decide
theorem rk_D8 {o : Ow} (g : o.Rd) : Rk 500000 (.tuple o.D8) := by
  have he := rk_tup (k := 1000) (m := 30) (xs := o.ents.map (En.D o.a)) (fun x hx => by
    obtain ⟨w, hw, rfl⟩ := List.mem_map.mp hx
    exact rk_en g.a (g.ents w hw).1 (g.ents w hw).2) (by simpa using g.many) (by decide)
  have h := rk_tup (k := 40000) (m := 8) (xs := o.D8) (fun y hy => by
    simp only [Ow.D8, List.mem_cons, List.not_mem_nil, or_false] at hy
    rcases hy with e | e | e | e | e | e | e | e <;> subst e
    · exact (rk_nm g.a).mono (by decide)
    · exact (rk_int (by have := g.key; omega)).mono (by decide)
    · exact (rk_int (by have := g.num; omega)).mono (by decide)
    · exact (rk_int (by have := base_le o; omega)).mono (by decide)
    · exact (rk_int (by have := g.since; omega)).mono (by decide)
    · exact (rk_int (by have := g.til; omega)).mono (by decide)
    · exact (rk_sc g.kind g.lot g.why).mono (by decide)
    · exact he.mono (by decide)) (by simp [Ow.D8]) (by decide)
  exact h.mono (by decide)
/-! ### depth -/
theorem dpt_en {a : Nm} (o : a.Ok) {x : En} (h2 : x.why ∈ whys) : Dpt 2 (x.D a) := dpt_tup fun y hy => by
  simp only [List.mem_cons, List.not_mem_nil, or_false] at hy
  rcases hy with e | e | e | e <;> subst e
  · exact dpt_nm o
  · exact (dpt_int _).mono (by decide)
  · exact (dpt_int _).mono (by decide)
  · exact (dpt_str fun c hc => Nat.lt_trans (lo_why h2 c hc) (by decide)).mono (by decide)
theorem dpt_sc {s : Sc} (h0 : s.kind ∈ kinds) (h2 : ∀ w ∈ s.lot, w ∈ whys) : Dpt 2 s.D := dpt_tup fun y hy => by
  simp only [List.mem_cons, List.not_mem_nil, or_false] at hy
  rcases hy with e | e | e <;> subst e
  · exact (dpt_str fun c hc => Nat.lt_trans ((kind_len _ h0).2 c hc) (by decide)).mono (by decide)
  · exact (dpt_bool _).mono (by decide)
  · exact dpt_tup fun x hx => by
      obtain ⟨w, hw, rfl⟩ := List.mem_map.mp hx
      exact dpt_str fun c hc => Nat.lt_trans (lo_why (h2 w hw) c hc) (by decide)
theorem dpt_ents {o : Ow} (g : o.Rd) : Dpt 3 (.tuple (o.ents.map (En.D o.a))) := dpt_tup fun x hx => by
  obtain ⟨w, hw, rfl⟩ := List.mem_map.mp hx
  exact dpt_en g.a (g.ents w hw).2
theorem dpt_D8s {o : Ow} (g : o.Rd) : ∀ y ∈ o.D8, Dpt 3 y := fun y hy => by
  simp only [Ow.D8, List.mem_cons, List.not_mem_nil, or_false] at hy
  rcases hy with e | e | e | e | e | e | e | e <;> subst e
  · exact (dpt_nm g.a).mono (by decide)
  · exact (dpt_int _).mono (by decide)
  · exact (dpt_int _).mono (by decide)
  · exact (dpt_int _).mono (by decide)
  · exact (dpt_int _).mono (by decide)
  · exact (dpt_int _).mono (by decide)
  · exact (dpt_sc g.kind g.why).mono (by decide)
  · exact dpt_ents g
theorem dpt_D8 {o : Ow} (g : o.Rd) : Dpt 4 (.tuple o.D8) := dpt_tup (dpt_D8s g)
theorem dpt_D {o : Ow} (g : o.Rd) : Dpt 4 o.D := dpt_tup fun y hy => by
  rcases List.mem_append.mp hy with h | h
  · exact dpt_D8s g y h
  · have e : y = .int o.sg := by simpa using h
    rw [e]
    exact (dpt_int _).mono (by decide)
/-! ### seals -/
def Ow.sealI (o : Ow) : Int := sealF o.key (rowD (.tuple o.D8))
/-- the list with its own seal -/
def Ow.done (o : Ow) : Ow := { o with sg := o.sealI.toNat }
theorem done_sg (o : Ow) : ((o.done.sg : Nat) : Int) = o.sealI := Int.toNat_of_nonneg (sealF_lt _ _).1
theorem done_le (o : Ow) : o.done.sg ≤ 4294967295 := by
  have := (sealF_lt o.key (rowD (.tuple o.D8))).2
  have e := done_sg o
  unfold Ow.sealI at e
  omega
theorem done_D (o : Ow) : o.done.D = .tuple (o.D8 ++ [.int o.sealI]) := by
  unfold Ow.D
  rw [done_sg]
  rfl
section
variable {n : Nat} {M : Sto}
theorem c_own_seal {o : Ow} (g : o.Rd) : call (n + 7) .own_seal [.d (.tuple o.D8), .d (.int 1)] M = .ok (.d (.int o.sealI)) M := by
  show runB (call (n + 6)) ir_own_seal _ _ = _
  have r := c_value_row (n := n) (M := M) (.tuple o.D8) 500000 4 (rk_D8 g _ (Nat.le_refl _)) (by decide) (dpt_D8 g).2
  have s := c_seal_by (n := n + 5) (M := M) (k := o.key) (row := rowD (.tuple o.D8))
  have e : o.D8 = [o.a.D, .int o.key, .int o.num, .int o.base, .int o.since, .int o.til, o.sc.D, .tuple (o.ents.map (En.D o.a))] := rfl
  unfold Ow.sealI
  generalize rowD (.tuple o.D8) = row at *
  generalize o.D8 = d at *
  subst e
  simp [ir_own_seal, runB, exSs, exS, evE, evEs, R.bind, R.to, R.of, F.bind, toD, toDs, asDs, binD, cmpD, ixD, toSlD, fromSlD, biD, isiD, dmD, tixD, noX, walked, seqD, boolsD, strsD, unpD, setAll, wipeG, pickD, stillE, List.lookup, fdb, Fn.cls, sh_int, sh_bool, sh_none, eqv_int, eqv_str, lim1, lim2, lim3, lim4, lim5, lim6, lim7, lim8, lim9, lim10, lim11, lim12, r, s]
theorem c_l_sealed {o : Ow} (g : o.Rd) {x : PyData} : call (n + 7) .l_sealed_list [.d (.tuple (o.D8 ++ [x]))] M = .ok (.d o.done.D) M := by
  show runB (call (n + 6)) ir_l_sealed_list _ _ = _
  have r := c_l_row (n := n) (M := M) (.tuple o.D8) 500000 4 (rk_D8 g _ (Nat.le_refl _)) (by decide) (dpt_D8 g).2
  have s := c_l_seal (n := n + 5) (M := M) (k := o.key) (row := rowD (.tuple o.D8))
  have e : o.D8 = [o.a.D, .int o.key, .int o.num, .int o.base, .int o.since, .int o.til, o.sc.D, .tuple (o.ents.map (En.D o.a))] := rfl
  rw [done_D]
  unfold Ow.sealI
  generalize rowD (.tuple o.D8) = row at *
  generalize o.D8 = d at *
  subst e
  simp [ir_l_sealed_list, runB, exSs, exS, evE, evEs, R.bind, R.to, R.of, F.bind, toD, toDs, asDs, binD, cmpD, ixD, toSlD, fromSlD, biD, isiD, dmD, tixD, noX, walked, seqD, boolsD, strsD, unpD, setAll, wipeG, pickD, stillE, List.lookup, fdb, Fn.cls, sh_int, sh_bool, sh_none, eqv_int, eqv_str, lim1, lim2, lim3, lim4, lim5, lim6, lim7, lim8, lim9, lim10, lim11, lim12, r, s]
end
/-! ### lists are alike -/
open PySem.W in
theorem alike_strs : ∀ l m : List (List Nat), alikeAll (l.map fun v => .str (tx v)) (m.map fun v => .str (tx v)) = true
  | [], _ => by simp [alikeAll]
  | _ :: _, [] => by simp [alikeAll]
  | x :: r, y :: t => by
    have := alike_strs r t
    simp [alikeAll, alike, this]
open PySem.W in
theorem alike_nm (a b : Nm) : alike a.D b.D = true := by
  unfold Nm.D
  rw [alike]
  exact alike_strs _ _
open PySem.W in
theorem alike_en (a b : Nm) (x y : En) : alike (x.D a) (y.D b) = true := by
  have := alike_nm a b
  simp [En.D, alike, alikeAll, this]
open PySem.W in
theorem alike_ents (a b : Nm) : ∀ l m : List En, alikeAll (l.map (En.D a)) (m.map (En.D b)) = true
  | [], _ => by simp [alikeAll]
  | _ :: _, [] => by simp [alikeAll]
  | x :: r, y :: t => by
    have := alike_ents a b r t
    have := alike_en a b x y
    simp [alikeAll, *]
open PySem.W in
theorem alike_sc (s t : Sc) : alike s.D t.D = true := by
  have := alike_strs s.lot t.lot
  simp [Sc.D, alike, alikeAll, this]
open PySem.W in
theorem alike_D (o p : Ow) : alike o.D p.D = true := by
  have h1 := alike_nm o.a p.a
  have h2 := alike_sc o.sc p.sc
  have h3 := alike_ents o.a p.a o.ents p.ents
  simp [Ow.D, Ow.D8, alike, alikeAll, h1, h2, h3]
theorem eqv_is {x y : PyData} (h : PySem.W.alike x y = true) (h2 : x.canLay0 = true) : PyData.eqv x y = decide (x = y) := by
  by_cases e : x = y
  · subst e
    rw [SeqAt.eqv_refl _ h2]
    simp
  · cases q : PyData.eqv x y with
    | true => exact absurd (eq_of_alike x y h q) e
    | false => simp [e]
theorem eqv_D {o p : Ow} (g : o.Rd) : PyData.eqv o.D p.D = decide (o.D = p.D) := eqv_is (alike_D o p) (dpt_D g).1
theorem hasIn_D {o : Ow} : ∀ {os : List Ow}, (∀ p ∈ os, p.Rd) → hasIn o.D (os.map Ow.D) = decide (o.D ∈ os.map Ow.D)
  | [], _ => by simp [hasIn]
  | p :: r, h => by
    have ih := hasIn_D (o := o) (os := r) fun q hq => h q (List.mem_cons_of_mem _ hq)
    unfold hasIn at ih ⊢
    rw [List.map_cons, List.any_cons, ih, eqv_D (h p List.mem_cons_self)]
    by_cases e : p.D = o.D
    · simp [e]
    · have e2 : ¬ o.D = p.D := fun z => e z.symm
      simp [e, e2]
/-! ### lists by their data -/
theorem strs_inj : ∀ {l m : List (List Nat)}, (l.map fun v => PyData.str (tx v)) = (m.map fun v => PyData.str (tx v)) → l = m
  | [], [], _ => rfl
  | [], _ :: _, h => by simp at h
  | _ :: _, [], h => by simp at h
  | x :: r, y :: t, h => by
    simp only [List.map_cons, List.cons.injEq, PyData.str.injEq] at h
    have e : x = y := by
      have := congrArg TL.tl h.1
      simpa [tl_tx] using this
    rw [e, strs_inj h.2]
theorem nm_inj {a b : Nm} (h : a.D = b.D) : a = b := by
  cases a
  cases b
  simp only [Nm.D, PyData.tuple.injEq] at h
  have := strs_inj h
  simp_all
theorem tx_inj {a b : List Nat} (h : tx a = tx b) : a = b := by
  have := congrArg TL.tl h
  simpa [tl_tx] using this
theorem ents_inj {a : Nm} : ∀ {l m : List En}, l.map (En.D a) = m.map (En.D a) → l = m
  | [], [], _ => rfl
  | [], _ :: _, h => by simp at h
  | _ :: _, [], h => by simp at h
  | ⟨s, w⟩ :: r, ⟨s', w'⟩ :: t, h => by
    simp only [List.map_cons, List.cons.injEq] at h
    have e1 := h.1
    simp only [En.D, PyData.tuple.injEq, List.cons.injEq, PyData.int.injEq, PyData.str.injEq, true_and, and_true] at e1
    have e2 := tx_inj e1.2
    have e3 : s = s' := by omega
    rw [ents_inj h.2, e2, e3]
theorem sc_inj {s t : Sc} (h : s.D = t.D) : s = t := by
  cases s
  cases t
  simp only [Sc.D, PyData.tuple.injEq, List.cons.injEq, PyData.str.injEq, PyData.bool.injEq, and_true] at h
  have e1 := tx_inj h.1
  have e2 := strs_inj h.2.2
  simp_all
theorem base_inj {o p : Ow} (h : o.base = p.base) : o.whole = p.whole := by
  unfold Ow.base at h
  cases q : o.whole <;> cases r : p.whole <;> simp_all
theorem ow_inj {o p : Ow} (h : o.D = p.D) : o = p := by
  simp only [Ow.D, Ow.D8, List.cons_append, List.nil_append, PyData.tuple.injEq, List.cons.injEq, PyData.int.injEq, and_true] at h
  obtain ⟨h1, h2, h3, h4, h5, h6, h7, h8, h9⟩ := h
  have e1 := nm_inj h1
  have e4 := base_inj h4
  have e7 := sc_inj h7
  have e8 : o.ents = p.ents := by
    rw [e1] at h8
    exact ents_inj h8
  have i2 : o.key = p.key := by omega
  have i3 : o.num = p.num := by omega
  have i5 : o.since = p.since := by omega
  have i6 : o.til = p.til := by omega
  have i9 : o.sg = p.sg := by omega
  clear h1 h2 h3 h4 h5 h6 h7 h8 h9
  cases o
  cases p
  simp_all
end K75

set_option Elab.async false
set_option linter.all false
set_option autoImplicit false
set_option maxRecDepth 100000
set_option maxHeartbeats 2000000
/-! Mathematics, part 23: good lists; entries in order; with and without a thing. -/
namespace K75
open PySem PySem.W
/-- a good list, so many turns before the end -/
structure Gd (k : Nat) (o : Ow) : Prop where
  rd : o.Rd
  up : lotUp o.sc.lot
  base : (if o.whole then (-1 : Int) else 0) ≤ (o.num : Int) - 1
  til2 : o.since ≤ o.til
  in_ : ∀ x ∈ o.ents, lotOk o.sc x.why
  asc : o.ents.Pairwise fun x y => x.ser < y.ser
  few : o.ents.length + k ≤ 11
  small : o.num + k ≤ 1007
theorem Gd.down {j k : Nat} {o : Ow} (g : Gd k o) (h : j ≤ k) : Gd j o := ⟨g.rd, g.up, g.base, g.til2, g.in_, g.asc, by have := g.few; omega, by have := g.small; omega⟩
theorem eqv_nm (a : Nm) (o : a.Ok) : PyData.eqv a.D a.D = true := SeqAt.eqv_refl _ (dpt_nm o).1
theorem lt_int1 {i j : Int} (h : i ≠ j) (xs ys : List PyData) : dataLt (.tuple (.int i :: xs)) (.tuple (.int j :: ys)) = decide (i < j) := by
  rw [lt_cons_tup (alike_i i j), eqv_i]
  simp [h, dataLt_int]
theorem lt_ser {a : Nm} (o : a.Ok) {i j : Nat} (h : i ≠ j) (xs ys : List PyData) : dataLt (.tuple (a.D :: .int i :: xs)) (.tuple (a.D :: .int j :: ys)) = decide (i < j) := by
  have h2 : (i : Int) ≠ j := by omega
  rw [lt_cons_tup (alike_nm a a), eqv_nm a o, if_pos rfl, lt_int1 h2]
  simp
theorem Gd.fit {k : Nat} {o : Ow} (g : Gd k o) : o.Fit := by
  refine { toRd := g.rd, up := g.up, base := g.base, til2 := g.til2, in_ := g.in_, asc := fun q hq => ?_ }
  have hp : (o.ents.map fun x => PyData.tuple [o.a.D, .int x.ser]).Pairwise fun x y => cmpD .lt x y = some true := by
    rw [List.pairwise_map]
    refine g.asc.imp fun {x y} h => ?_
    have h2 : x.ser ≠ y.ser := by omega
    have l := lt_ser g.rd.a h2 [] []
    have al : alike (.tuple [o.a.D, .int x.ser]) (.tuple [o.a.D, .int y.ser]) = true := by
      simp [alike, alikeAll, alike_nm]
    have dp : (PyData.tuple [o.a.D, .int x.ser]).depth ≤ 64 := by
      have : Dpt 2 (.tuple [o.a.D, .int x.ser]) := dpt_tup fun y hy => by
        simp only [List.mem_cons, List.not_mem_nil, or_false] at hy
        rcases hy with e | e <;> subst e
        · exact dpt_nm g.rd.a
        · exact (dpt_int _).mono (by decide)
      have := this.2
      omega
    simp [cmpD, al, dp, l, h]
  exact zip_next hp q hq
/-! ### entries in order -/
theorem lt_en {a : Nm} (o : a.Ok) {x y : En} (h : x.ser < y.ser) : dataLt (x.D a) (y.D a) = true ∧ dataLt (y.D a) (x.D a) = false := by
  have h1 := lt_ser o (i := x.ser) (j := y.ser) (by omega) [.int 5, .str (tx x.why)] [.int 5, .str (tx y.why)]
  have h2 := lt_ser o (i := y.ser) (j := x.ser) (by omega) [.int 5, .str (tx y.why)] [.int 5, .str (tx x.why)]
  refine ⟨?_, ?_⟩
  · show dataLt (.tuple [a.D, .int x.ser, .int 5, .str (tx x.why)]) (.tuple [a.D, .int y.ser, .int 5, .str (tx y.why)]) = true
    rw [h1]
    simpa using h
  · show dataLt (.tuple [a.D, .int y.ser, .int 5, .str (tx y.why)]) (.tuple [a.D, .int x.ser, .int 5, .str (tx x.why)]) = false
    rw [h2]
    simp
    omega
theorem ali_ents (a : Nm) (l : List En) : Ali (l.map (En.D a)) := fun x hx y hy => by
  obtain ⟨v, _, rfl⟩ := List.mem_map.mp hx
  obtain ⟨w, _, rfl⟩ := List.mem_map.mp hy
  exact alike_en _ _ _ _
theorem up_ents {a : Nm} (o : a.Ok) {l : List En} (h : l.Pairwise fun x y => x.ser < y.ser) : (l.map (En.D a)).Pairwise fun x y => le x y = true := by
  rw [List.pairwise_map]
  refine h.imp fun {x y} h => ?_
  rw [le_def, (lt_en o h).2]
  rfl
theorem sort_ents {a : Nm} (o : a.Ok) {l : List En} (h : l.Pairwise fun x y => x.ser < y.ser) : (l.map (En.D a)).mergeSort le = l.map (En.D a) :=
  (sort_is (List.Perm.refl _) (up_ents o h) (ali_ents a l)).symm
def insE (e : En) : List En → List En
  | [] => [e]
  | x :: r => if e.ser < x.ser then e :: x :: r else x :: insE e r
theorem insE_perm (e : En) : ∀ l : List En, (insE e l).Perm (l ++ [e])
  | [] => List.Perm.refl _
  | x :: r => by
    unfold insE
    split
    · exact (List.perm_append_comm (l₁ := [e]) (l₂ := x :: r))
    · exact (insE_perm e r).cons x
theorem insE_mem {e : En} {l : List En} {x : En} (h : x ∈ insE e l) : x ∈ l ∨ x = e := by
  have := (insE_perm e l).subset h
  simpa using this
theorem insE_asc {e : En} : ∀ {l : List En}, l.Pairwise (fun x y => x.ser < y.ser) → (∀ x ∈ l, x.ser ≠ e.ser) → (insE e l).Pairwise fun x y => x.ser < y.ser
  | [], _, _ => List.pairwise_singleton _ _
  | x :: r, h, hn => by
    obtain ⟨h1, h2⟩ := List.pairwise_cons.mp h
    unfold insE
    split
    · rename_i q
      refine List.pairwise_cons.mpr ⟨fun y hy => ?_, h⟩
      rcases List.mem_cons.mp hy with z | z
      · rw [z]; exact q
      · exact Nat.lt_trans q (h1 y z)
    · rename_i q
      have ne := hn x List.mem_cons_self
      refine List.pairwise_cons.mpr ⟨fun y hy => ?_, insE_asc h2 fun y hy => hn y (List.mem_cons_of_mem _ hy)⟩
      rcases insE_mem hy with z | z
      · exact h1 y z
      · rw [z]; omega
theorem insE_len (e : En) (l : List En) : (insE e l).length = l.length + 1 := by
  rw [(insE_perm e l).length_eq]
  simp
theorem sort_insE {a : Nm} (o : a.Ok) {l : List En} {e : En} (h : l.Pairwise fun x y => x.ser < y.ser) (hn : ∀ x ∈ l, x.ser ≠ e.ser) : (l.map (En.D a) ++ [e.D a]).mergeSort le = (insE e l).map (En.D a) := by
  have p := (insE_perm e l).map (En.D a)
  rw [List.map_append] at p
  refine (sort_is p (up_ents o (insE_asc h hn)) ?_).symm
  have := ali_ents a (l ++ [e])
  rwa [List.map_append] at this
theorem depth_le {k : Nat} {d : PyData} (h : Dpt k d) (hk : k ≤ 64) : (decide (d.depth ≤ 64)) = true := by
  have := h.2
  simp
  omega
theorem sortable_of {xs : List PyData} (h1 : ∀ x ∈ xs, tupleish x = true ∧ Dpt 64 x) (h2 : Ali xs) : sortable xs = true := by
  unfold sortable
  rw [Bool.and_eq_true]
  refine ⟨List.all_eq_true.mpr fun x hx => ?_, List.all_eq_true.mpr fun x hx => List.all_eq_true.mpr fun y hy => h2 x hx y hy⟩
  rw [(h1 x hx).1, depth_le (h1 x hx).2 (Nat.le_refl _)]
  rfl
theorem sortable_ents {a : Nm} (o : a.Ok) {l : List En} (h : ∀ x ∈ l, x.why ∈ whys) : sortable (l.map (En.D a)) = true := by
  refine sortable_of (fun x hx => ?_) (ali_ents a l)
  obtain ⟨v, hv, rfl⟩ := List.mem_map.mp hx
  exact ⟨rfl, (dpt_en o (h v hv)).mono (by decide)⟩
/-! ### lists in order -/
theorem ali_D (os : List Ow) : Ali (os.map Ow.D) := fun x hx y hy => by
  obtain ⟨v, _, rfl⟩ := List.mem_map.mp hx
  obtain ⟨w, _, rfl⟩ := List.mem_map.mp hy
  exact alike_D _ _
theorem sortable_D {os : List Ow} (h : ∀ o ∈ os, o.Rd) : sortable (os.map Ow.D) = true := by
  refine sortable_of (fun x hx => ?_) (ali_D os)
  obtain ⟨v, hv, rfl⟩ := List.mem_map.mp hx
  exact ⟨rfl, (dpt_D (h v hv)).mono (by decide)⟩
def storeL (os : List Ow) : List PyData := (os.map Ow.D).mergeSort le
theorem storeL_mem {os : List Ow} {d : PyData} : d ∈ storeL os ↔ d ∈ os.map Ow.D := (List.mergeSort_perm _ le).mem_iff
theorem storeL_len (os : List Ow) : (storeL os).length = os.length := by
  unfold storeL
  rw [(List.mergeSort_perm (os.map Ow.D) le).length_eq, List.length_map]
theorem storeL_in {os : List Ow} {d : PyData} (h : d ∈ storeL os) : ∃ o ∈ os, d = o.D := by
  obtain ⟨o, ho, e⟩ := List.mem_map.mp (storeL_mem.mp h)
  exact ⟨o, ho, e.symm⟩
theorem storeL_add {os : List Ow} {o : Ow} : (storeL os ++ [o.D]).mergeSort le = storeL (os ++ [o]) := by
  unfold storeL
  rw [sort_with (by have := ali_D (os ++ [o]); rwa [List.map_append] at this), List.map_append]
  rfl
theorem storeL_drop {os : List Ow} {o : Ow} (hn : o.D ∉ os.map Ow.D) {p : PyData → Bool} (hd : p o.D = false) (hx : ∀ x ∈ os.map Ow.D, p x = true) : (storeL (os ++ [o])).filter p = storeL os := by
  unfold storeL
  rw [List.map_append]
  exact sort_without (by have := ali_D (os ++ [o]); rwa [List.map_append] at this) hd hx
theorem sortable_store {os : List Ow} {o : Ow} (h : ∀ o ∈ os, o.Rd) (ho : o.Rd) : sortable (storeL os ++ [o.D]) = true := by
  have mem : ∀ x ∈ storeL os ++ [o.D], ∃ p : Ow, p.Rd ∧ x = p.D := fun x hx => by
    rcases List.mem_append.mp hx with z | z
    · obtain ⟨p, hp, e⟩ := storeL_in z
      exact ⟨p, h p hp, e⟩
    · exact ⟨o, ho, by simpa using z⟩
  refine sortable_of (fun x hx => ?_) fun x hx y hy => ?_
  · obtain ⟨p, hp, rfl⟩ := mem x hx
    exact ⟨rfl, (dpt_D hp).mono (by decide)⟩
  · obtain ⟨p, hp, rfl⟩ := mem x hx
    obtain ⟨q, hq, rfl⟩ := mem y hy
    exact alike_D _ _
theorem dpt_store {os : List Ow} (h : ∀ o ∈ os, o.Rd) : Dpt 5 (.tuple (storeL os)) := dpt_tup fun x hx => by
  obtain ⟨o, ho, rfl⟩ := storeL_in hx
  exact dpt_D (h o ho)
theorem dpt_list {os : List Ow} (h : ∀ o ∈ os, o.Rd) : Dpt 5 (.list (os.map Ow.D)) := dpt_lst fun x hx => by
  obtain ⟨o, ho, rfl⟩ := List.mem_map.mp hx
  exact dpt_D (h o ho)
def lotsD (os : List Ow) : PyData := .tuple [.tuple [], .tuple (storeL os), .tuple []]
theorem hasIn_store {o : Ow} {os : List Ow} (h : ∀ p ∈ os, p.Rd) : hasIn o.D (storeL os) = decide (o.D ∈ os.map Ow.D) := by
  rw [← hasIn_D h]
  unfold hasIn
  exact List.Perm.any_eq (List.mergeSort_perm _ le)
section
variable {n : Nat} {M : Sto}
theorem c_with {os : List Ow} {o : Ow} (h : ∀ o ∈ os, o.Rd) (ho : o.Rd) (hl : os.length ≤ 100) : call (n + 1) .with_thing [.d (.tuple (storeL os)), .d o.D] M = .ok (.d (.tuple (storeL (os ++ [o])))) M := by
  show runB (call n) ir_with_thing _ _ = _
  have s := sortable_store h ho
  have l : (storeL os).length + 1 ≤ lim := by rw [storeL_len]; unfold lim; omega
  have e := storeL_add (os := os) (o := o)
  have b : biD .sorted [.tuple (storeL os ++ [o.D])] = some (.list (storeL (os ++ [o]))) := by
    have : biD .sorted [.tuple (storeL os ++ [o.D])] = if sortable (storeL os ++ [o.D]) then some (.list ((storeL os ++ [o.D]).mergeSort (PySem.W.dataLe false id))) else none := rfl
    rw [this, s, if_pos rfl]
    exact congrArg _ (congrArg _ e)
  have b2 : ∀ q, biD .tuple [.list q] = some (.tuple q) := fun _ => rfl
  generalize o.D = d at *
  simp [ir_with_thing, runB, exSs, exS, evE, evEs, R.bind, R.to, R.of, F.bind, toD, toDs, asDs, binD, cmpD, ixD, toSlD, fromSlD, isiD, tixD, noX, walked, seqD, boolsD, strsD, unpD, setAll, wipeG, pickD, stillE, List.lookup, fdb, Fn.cls, sh_int, sh_bool, sh_none, eqv_int, eqv_str, lim1, lim2, lim3, lim4, lim5, lim6, lim7, lim8, lim9, lim10, lim11, lim12, l, b, b2]
theorem c_without {os : List Ow} {o : Ow} (h : ∀ o ∈ os, o.Rd) (ho : o.Rd) (hn : o.D ∉ os.map Ow.D) (hl : os.length ≤ 100) : call (n + 1) .without_thing [.d (.tuple (storeL (os ++ [o]))), .d o.D] M = .ok (.d (.tuple (storeL os))) M := by
  show runB (call n) ir_without_thing _ _ = _
  have so := (dpt_D ho).sh (by decide)
  have all : ∀ p ∈ os ++ [o], p.Rd := fun p hp => by
    rcases List.mem_append.mp hp with z | z
    · exact h p z
    · have e : p = o := by simpa using z
      rw [e]; exact ho
  have q := ev_compIf (Φ := call n) (M := M) (G := [some (.d (.tuple (storeL (os ++ [o])))), some (.d o.D), none]) (it := .v 0) (i := 2) (elt := .v 2) (c := .cmp .ne (.v 2) (.v 1)) (d := .tuple (storeL (os ++ [o]))) (xs := storeL (os ++ [o])) (p := fun x => !decide (x = o.D)) (f := id) (by simp [evE]) rfl (by rw [storeL_len]; simp; unfold lim; omega) (fun x hx => by
      obtain ⟨p, hp, rfl⟩ := storeL_in hx
      have sp := (dpt_D (all p hp)).sh (by decide)
      have e := eqv_D (o := p) (p := o) (all p hp)
      simp [runB, exSs, exS, evE, evEs, R.bind, R.to, R.of, F.bind, toD, toDs, asDs, binD, cmpD, ixD, toSlD, fromSlD, biD, isiD, dmD, tixD, noX, walked, seqD, boolsD, strsD, unpD, setAll, wipeG, pickD, stillE, List.lookup, fdb, Fn.cls, sh_int, sh_bool, sh_none, eqv_int, eqv_str, lim1, lim2, lim3, lim4, lim5, lim6, lim7, lim8, lim9, lim10, lim11, lim12, wipeG, sp, so, e]) (fun x hx _ => by simp [evE, wipeG])
  rw [storeL_drop hn (by simp) (fun x hx => by
    simp
    intro e
    rw [e] at hx
    exact hn hx), List.map_id] at q
  simp only [ir_without_thing, runB, exSs, exS, List.length_cons, List.length_nil, List.map_cons, List.map_nil, List.replicate_succ, List.replicate_zero, List.cons_append, List.nil_append, if_true, evEs]
  have e2 : evE (call n) (.bi .tuple (.cons (.compIf 2 (.v 0) (.cmp .ne (.v 2) (.v 1)) (.v 2)) .nil)) [some (.d (.tuple (storeL (os ++ [o])))), some (.d o.D), none] M = .ok (.d (.tuple (storeL os))) M := by
    rw [evE, evEs, q]
    simp [R.bind, evEs, toDs, toD, biD, R.of]
  rw [e2]
  simp [R.to, F.bind]
end
end K75

set_option Elab.async false
set_option linter.all false
set_option autoImplicit false
set_option maxRecDepth 100000
set_option maxHeartbeats 4000000
/-! Mathematics, part 24: the desk. -/
namespace K75
open PySem
theorem eqv_b (x y : Bool) : PyData.eqv (.bool x) (.bool y) = decide (x = y) := by rw [PyData.eqv]; cases x <;> cases y <;> rfl
def deskO (os : List Ow) (u : Nat) : MO := .ins .desk [(.lots, .d (lotsD os)), (.done, .o 2), (.undone, .o u)]
def doneD (os : List Ow) : List PyData := os.map fun o => .tuple [.str (⟨#[112, 117, 116]⟩ : Str), .int 1, o.D]
/-- the store: the cup, the desk, what is done, a place, the lists, the rest -/
def St (c : List PyData) (os : List Ow) (u : Nat) (x3 : MO) (ls : List PyData) (Z : List MO) : Sto := .lst c :: deskO os u :: .lst (doneD os) :: x3 :: .lst ls :: Z
theorem doneD_add (os : List Ow) (o : Ow) : doneD (os ++ [o]) = doneD os ++ [.tuple [.str (⟨#[112, 117, 116]⟩ : Str), .int 1, o.D]] := by simp [doneD]
theorem doneD_len (os : List Ow) : (doneD os).length = os.length := by simp [doneD]
section
variable {n : Nat} {M : Sto}
theorem c_step_put {os : List Ow} {o : Ow} (h : ∀ o ∈ os, o.Rd) (ho : o.Rd) (hl : os.length ≤ 100) : call (n + 2) .stepped [.d (lotsD os), .d (.str (⟨#[112, 117, 116]⟩ : Str)), .d (.int 1), .d o.D] M = .ok (.d (lotsD (os ++ [o]))) M := by
  show runB (call (n + 1)) ir_stepped _ _ = _
  have w := c_with (n := n) (M := M) h ho hl
  have q := sh_of (⟨#[112, 117, 116]⟩ : Str) rfl
  unfold lotsD
  generalize o.D = d at *
  generalize storeL os = s at *
  generalize storeL (os ++ [o]) = s2 at *
  simp [ir_stepped, runB, exSs, exS, evE, evEs, R.bind, R.to, R.of, F.bind, toD, toDs, asDs, binD, cmpD, ixD, toSlD, fromSlD, biD, isiD, dmD, tixD, noX, walked, seqD, boolsD, strsD, unpD, setAll, wipeG, pickD, stillE, List.lookup, fdb, Fn.cls, sh_int, sh_bool, sh_none, eqv_int, eqv_str, lim1, lim2, lim3, lim4, lim5, lim6, lim7, lim8, lim9, lim10, lim11, lim12, q, w]
theorem c_step_out {os : List Ow} {o : Ow} (h : ∀ o ∈ os, o.Rd) (ho : o.Rd) (hn : o.D ∉ os.map Ow.D) (hl : os.length ≤ 100) : call (n + 2) .stepped [.d (lotsD (os ++ [o])), .d (.str (⟨#[111, 117, 116]⟩ : Str)), .d (.int 1), .d o.D] M = .ok (.d (lotsD os)) M := by
  show runB (call (n + 1)) ir_stepped _ _ = _
  have w := c_without (n := n) (M := M) h ho hn hl
  have q := sh_of (⟨#[112, 117, 116]⟩ : Str) rfl
  have q2 := sh_of (⟨#[111, 117, 116]⟩ : Str) rfl
  unfold lotsD
  generalize o.D = d at *
  generalize storeL os = s at *
  generalize storeL (os ++ [o]) = s2 at *
  simp [ir_stepped, runB, exSs, exS, evE, evEs, R.bind, R.to, R.of, F.bind, toD, toDs, asDs, binD, cmpD, ixD, toSlD, fromSlD, biD, isiD, dmD, tixD, noX, walked, seqD, boolsD, strsD, unpD, setAll, wipeG, pickD, stillE, List.lookup, fdb, Fn.cls, sh_int, sh_bool, sh_none, eqv_int, eqv_str, lim1, lim2, lim3, lim4, lim5, lim6, lim7, lim8, lim9, lim10, lim11, lim12, q, q2, w]
theorem c_can {os : List Ow} {o : Ow} (h : ∀ o ∈ os, o.Rd) (ho : o.Rd) (hn : o.D ∉ os.map Ow.D) : call (n + 1) .can_step [.d (lotsD os), .d (.str (⟨#[112, 117, 116]⟩ : Str)), .d (.int 1), .d o.D] M = .ok (.d (.bool true)) M := by
  show runB (call n) ir_can_step _ _ = _
  have q := sh_of (⟨#[112, 117, 116]⟩ : Str) rfl
  have q2 := sh_of (⟨#[111, 117, 116]⟩ : Str) rfl
  have s1 := (dpt_D ho).sh (by decide)
  have s2 := (dpt_store h).sh (by decide)
  have i := hasIn_store (o := o) h
  have f : decide (o.D ∈ os.map Ow.D) = false := by simpa using hn
  rw [f] at i
  unfold lotsD
  generalize o.D = d at *
  generalize storeL os = s at *
  simp [ir_can_step, runB, exSs, exS, evE, evEs, R.bind, R.to, R.of, F.bind, toD, toDs, asDs, binD, cmpD, ixD, toSlD, fromSlD, biD, isiD, dmD, tixD, noX, walked, seqD, boolsD, strsD, unpD, setAll, wipeG, pickD, stillE, List.lookup, fdb, Fn.cls, sh_int, sh_bool, sh_none, eqv_int, eqv_str, lim1, lim2, lim3, lim4, lim5, lim6, lim7, lim8, lim9, lim10, lim11, lim12, s1, s2, i, q, q2, eqv_b]
theorem eqv_l0 {x : PyData} {r : List PyData} : PyData.eqv (.list (r ++ [x])) (.list []) = false := by
  rw [PyData.eqv]
  cases r <;> simp [PyData.eqvAll]
theorem dpt_done {os : List Ow} (h : ∀ o ∈ os, o.Rd) : Dpt 6 (.list (doneD os)) := dpt_lst fun x hx => by
  obtain ⟨o, ho, rfl⟩ := List.mem_map.mp hx
  refine dpt_tup fun y hy => ?_
  simp only [List.mem_cons, List.not_mem_nil, or_false] at hy
  rcases hy with e | e | e <;> subst e
  · have := sh_of (⟨#[112, 117, 116]⟩ : Str) rfl
    unfold SeqAt.shaped at this
    rw [Bool.and_eq_true] at this
    exact ⟨this.1, by simp [PyData.depth]⟩
  · exact (dpt_int _).mono (by decide)
  · exact dpt_D (h o ho)
section
variable {c ls : List PyData} {os : List Ow} {u : Nat} {x3 : MO} {Z : List MO}
theorem c_store : call (n + 1) .d_store [.o 1] (St c os u x3 ls Z) = .ok (.d (lotsD os)) (St c os u x3 ls Z) := by
  show runB (call n) ir_d_store [.o 1] (St c os u x3 ls Z) = _
  simp [ir_d_store, runB, exSs, exS, evE, evEs, R.bind, R.to, R.of, F.bind, toD, toDs, asDs, binD, cmpD, ixD, toSlD, fromSlD, biD, isiD, dmD, tixD, noX, walked, seqD, boolsD, strsD, unpD, setAll, wipeG, pickD, stillE, List.lookup, fdb, Fn.cls, sh_int, sh_bool, sh_none, eqv_int, eqv_str, lim1, lim2, lim3, lim4, lim5, lim6, lim7, lim8, lim9, lim10, lim11, lim12, St, deskO]
theorem c_does {o : Ow} (h : ∀ o ∈ os, o.Rd) (ho : o.Rd) (hl : os.length < 12) :
    call (n + 3) .d_does [.o 1, .d (.str (⟨#[112, 117, 116]⟩ : Str)), .d (.int 1), .d o.D] (St c os u x3 ls Z) = .ok (.d .none) (St c (os ++ [o]) (Z.length + 5) x3 ls (Z ++ [.lst []])) := by
  show runB (call (n + 2)) ir_d_does _ _ = _
  have dl := doneD_len os
  have da := doneD_add os o
  have st := c_step_put (n := n) (M := St c os u x3 ls Z) h ho (by omega)
  have q := sh_of (⟨#[112, 117, 116]⟩ : Str) rfl
  have sl := storeL_len os
  have k1 : ¬ (os.length = 12) := by omega
  have k2 : ¬ (os.length = 200) := by omega
  have k3 : ¬ ((os.length : Int) = 12) := by omega
  have k4 : ¬ ((os.length : Int) = 200) := by omega
  have k5 : os.length < lim := by unfold lim; omega
  have e1 : lotsD os = .tuple [.tuple [], .tuple (storeL os), .tuple []] := rfl
  unfold St deskO at *
  rw [da]
  generalize lotsD (os ++ [o]) = L2 at *
  rw [e1] at st ⊢
  generalize o.D = d at *
  simp [ir_d_does, runB, exSs, exS, evE, evEs, R.bind, R.to, R.of, F.bind, toD, toDs, asDs, binD, cmpD, ixD, toSlD, fromSlD, biD, isiD, dmD, tixD, noX, walked, seqD, boolsD, strsD, unpD, setAll, wipeG, pickD, stillE, List.lookup, fdb, Fn.cls, sh_int, sh_bool, sh_none, eqv_int, eqv_str, lim1, lim2, lim3, lim4, lim5, lim6, lim7, lim8, lim9, lim10, lim11, lim12, q, sl, dl, k1, k2, k3, k4, k5, st, putFd]
theorem c_put {o : Ow} {k : Nat} (h : ∀ o ∈ os, o.Rd) (g : Gd k o) (hn : o.D ∉ os.map Ow.D) (hl : os.length < 12) :
    call (n + 12) .d_put [.o 1, .d (.str (tx o.T))] (St c os u x3 ls Z) = .ok (.d .none) (St c (os ++ [o]) (Z.length + 5) x3 ls (Z ++ [.lst []])) := by
  show runB (call (n + 11)) ir_d_put _ _ = _
  have rt := c_read_thing (n := n) (M := St c os u x3 ls Z) g.fit (T := tx o.T) (okT g.rd) rfl
  have cn := c_can (n := n + 10) (M := St c os u x3 ls Z) h g.rd hn
  have ds := c_does (n := n + 8) (c := c) (ls := ls) (u := u) (x3 := x3) (Z := Z) h g.rd hl
  have at1 : (St c os u x3 ls Z)[1]? = some (deskO os u) := rfl
  generalize St c os u x3 ls Z = M at *
  generalize St c (os ++ [o]) (Z.length + 5) x3 ls (Z ++ [.lst []]) = M2 at *
  generalize tx o.T = T at *
  unfold deskO at at1
  generalize o.D = d at *
  simp [ir_d_put, runB, exSs, exS, evE, evEs, R.bind, R.to, R.of, F.bind, toD, toDs, asDs, binD, cmpD, ixD, toSlD, fromSlD, biD, isiD, dmD, tixD, noX, walked, seqD, boolsD, strsD, unpD, setAll, wipeG, pickD, stillE, List.lookup, fdb, Fn.cls, sh_int, sh_bool, sh_none, eqv_int, eqv_str, lim1, lim2, lim3, lim4, lim5, lim6, lim7, lim8, lim9, lim10, lim11, lim12, at1, rt, cn, ds]
theorem c_undo {o : Ow} (h : ∀ o ∈ os, o.Rd) (ho : o.Rd) (hn : o.D ∉ os.map Ow.D) (hl : os.length ≤ 100) :
    call (n + 4) .d_undo [.o 1] (St c (os ++ [o]) (Z.length + 5) x3 ls (Z ++ [.lst []])) = .ok (.d (.tuple [.str (⟨#[112, 117, 116]⟩ : Str), .str (tx o.T)])) (St c os (Z.length + 5) x3 ls (Z ++ [.lst [.tuple [.str (⟨#[112, 117, 116]⟩ : Str), .int 1, o.D]]])) := by
  show runB (call (n + 3)) ir_d_undo _ _ = _
  have da := doneD_add os o
  have st := fun M => c_step_out (n := n + 1) (M := M) h ho hn hl
  have tt := fun M => c_thing_text (n := n) (M := M) ho
  have q := sh_of (⟨#[112, 117, 116]⟩ : Str) rfl
  have all : ∀ p ∈ os ++ [o], p.Rd := fun p hp => by
    rcases List.mem_append.mp hp with z | z
    · exact h p z
    · have e : p = o := by simpa using z
      rw [e]; exact ho
  have s1 := (dpt_done all).sh (by decide)
  have s0 : SeqAt.shaped (.list []) = true := by decide +kernel
  rw [da] at s1
  have ne := eqv_l0 (x := .tuple [.str (⟨#[112, 117, 116]⟩ : Str), .int 1, o.D]) (r := doneD os)
  unfold St deskO at *
  rw [da]
  generalize lotsD (os ++ [o]) = L2 at *
  generalize lotsD os = L at *
  generalize tx o.T = T at *
  generalize o.D = d at *
  have ll : 0 < lim := by decide
  simp [ir_d_undo, runB, exSs, exS, evE, evEs, R.bind, R.to, R.of, F.bind, toD, toDs, asDs, binD, cmpD, ixD, toSlD, fromSlD, biD, isiD, dmD, tixD, noX, walked, seqD, boolsD, strsD, unpD, setAll, wipeG, pickD, stillE, List.lookup, fdb, Fn.cls, sh_int, sh_bool, sh_none, eqv_int, eqv_str, lim1, lim2, lim3, lim4, lim5, lim6, lim7, lim8, lim9, lim10, lim11, lim12, q, s1, s0, ne, st, tt, putFd, at_end, set_end, ll]
end
end
end K75

set_option Elab.async false
set_option linter.all false
set_option autoImplicit false
set_option maxRecDepth 100000
set_option maxHeartbeats 4000000
/-! Mathematics, part 25: the newest list. -/
namespace K75
open PySem PySem.W
/-- the plain scope -/
def plSc : Sc := ⟨([97, 108, 108] : List Nat), false, []⟩
def plD : PyData := .tuple [.str (⟨#[97, 108, 108]⟩ : Str), .bool false, .tuple []]
theorem plD_is : plSc.D = plD := rfl
/-- a list of this name and key, whole, of all -/
def isC (a : Nm) (key : Nat) (o : Ow) : Bool := decide (o.a.D = a.D) && (decide ((o.key : Int) = key) && (o.whole && decide (o.sc.D = plD)))
/-- the newest -/
structure Nw (os : List Ow) (a : Nm) (key : Nat) (m : Ow) : Prop where
  mem : m ∈ os
  c : isC a key m = true
  top : ∀ o ∈ os, isC a key o = true → o.num < m.num ∨ (o.num = m.num ∧ dataLt m.D o.D = false)
theorem Nw.one {os : List Ow} {a : Nm} {key : Nat} {m p : Ow} (h1 : Nw os a key m) (h2 : Nw os a key p) : m = p := by
  have t1 := h1.top p h2.mem h2.c
  have t2 := h2.top m h1.mem h1.c
  rcases t1 with t1 | ⟨t1, l1⟩
  · rcases t2 with t2 | ⟨t2, l2⟩ <;> omega
  · rcases t2 with t2 | ⟨t2, l2⟩
    · omega
    · exact ow_inj (lt_anti (alike_D m p) l1 l2)
def NoC (os : List Ow) (a : Nm) (key : Nat) : Prop := ∀ o ∈ os, isC a key o = false
theorem base_m1 (o : Ow) : decide ((o.base : Int) = -1) = o.whole := by
  unfold Ow.base
  cases o.whole <;> rfl
theorem base_neg (o : Ow) : decide ((o.base : Int) < 0) = o.whole := by
  unfold Ow.base
  cases o.whole <;> rfl
theorem sh_pl : SeqAt.shaped plD = true := by decide +kernel
theorem eqv_two {a b : Nm} {i j : Int} (o : a.Ok) : PyData.eqv (.tuple [a.D, .int i]) (.tuple [b.D, .int j]) = (decide (a.D = b.D) && decide (i = j)) := by
  have d : Dpt 2 (.tuple [a.D, .int i]) := dpt_tup fun y hy => by
    simp only [List.mem_cons, List.not_mem_nil, or_false] at hy
    rcases hy with e | e <;> subst e
    · exact dpt_nm o
    · exact (dpt_int _).mono (by decide)
  rw [eqv_is (by simp [alike, alikeAll, alike_nm]) d.1]
  by_cases h1 : a.D = b.D <;> by_cases h2 : i = j <;> simp [h1, h2]
theorem sh_two {a : Nm} {i : Int} (o : a.Ok) : SeqAt.shaped (.tuple [a.D, .int i]) = true := by
  have d : Dpt 2 (.tuple [a.D, .int i]) := dpt_tup fun y hy => by
    simp only [List.mem_cons, List.not_mem_nil, or_false] at hy
    rcases hy with e | e <;> subst e
    · exact dpt_nm o
    · exact (dpt_int _).mono (by decide)
  exact d.sh (by decide)
theorem eqv_pl (s : Sc) (h : s.D.canLay0 = true) : PyData.eqv s.D plD = decide (s.D = plD) := eqv_is (by rw [← plD_is]; exact alike_sc _ _) h
section
variable {n : Nat} {M : Sto}
/-- what the condition says -/
def pC (a : Nm) (key : Nat) : PyData → Bool
  | .tuple [n, .int k, _, .int b, _, _, s, _, _] => decide (n = a.D) && (decide (k = key) && (decide (b = -1) && decide (s = plD)))
  | _ => false
theorem pC_is (a : Nm) (key : Nat) (o : Ow) : pC a key o.D = isC a key o := by
  show (decide (o.a.D = a.D) && (decide ((o.key : Int) = key) && (decide (o.base = -1) && decide (o.sc.D = plD)))) = _
  rw [base_m1]
  rfl
def numT : PyData → PyData
  | .tuple (a :: b :: c :: r) => .tuple [c, .tuple (a :: b :: c :: r)]
  | d => d
theorem numT_is (o : Ow) : numT o.D = .tuple [.int o.num, o.D] := rfl
def C_lnew : E := .and (.cmp .eq (.slTo (.v 4) (.k (.int 2))) (.tup (.cons (.v 1) (.cons (.v 2) .nil)))) (.and (.cmp .eq (.ix (.v 4) (.k (.int 3))) (.neg 1)) (.cmp .eq (.ix (.v 4) (.k (.int 6))) (.tup (.cons (.k (.str (⟨#[97, 108, 108]⟩ : Str))) (.cons (.k (.bool false)) (.cons (.tup .nil) .nil))))))
def A_lnew : E := .compIf 4 (.v 0) C_lnew (.tup (.cons (.ix (.v 4) (.k (.int 2))) (.cons (.v 4) .nil)))
theorem ir_lnew : ir_l_newest = ⟨3, 2, (.cons (.setC 3 A_lnew)
    (.cons (.ret (.ite (.cmp .ne (.v 3) (.lst .nil)) (.ix (.bi .max (.cons (.v 3) .nil)) (.k (.int 1))) (.tup (.cons (.v 1) (.cons (.v 2) (.cons (.neg 1) (.cons (.neg 1) (.cons (.k (.int 0)) (.cons (.k (.int 0)) (.cons (.tup (.cons (.k (.str (⟨#[97, 108, 108]⟩ : Str))) (.cons (.k (.bool false)) (.cons (.tup .nil) .nil)))) (.cons (.tup .nil) (.cons (.k (.int 0)) .nil))))))))))))
    .nil)), false⟩ := rfl
theorem lnew_cond {Φ : Env} {a : Nm} (oa : a.Ok) {key : Nat} {o : Ow} (g : o.Rd) {v0 v3 : Option Val} : evE Φ C_lnew [v0, some (.d a.D), some (.d (.int key)), v3, some (.d o.D)] M = .ok (.d (.bool (isC a key o))) M := by
  have e : o.D = .tuple [o.a.D, .int o.key, .int o.num, .int o.base, .int o.since, .int o.til, o.sc.D, .tuple (o.ents.map (En.D o.a)), .int o.sg] := rfl
  have q1 := sh_two (i := o.key) g.a
  have q2 := sh_two (i := key) oa
  have q3 := eqv_two (b := a) (i := o.key) (j := key) g.a
  have ds := dpt_sc g.kind g.why
  have q4 := ds.sh (by decide)
  have q5 := sh_pl
  have q6 := eqv_pl o.sc ds.1
  have q7 := base_m1 o
  unfold isC
  unfold plD at *
  rw [e]
  generalize o.a.D = n1 at *
  generalize a.D = n2 at *
  generalize o.sc.D = s at *
  by_cases h1 : n1 = n2
  · by_cases h2 : (o.key : Int) = key
    · by_cases h3 : o.base = -1
      · have h4 : o.whole = true := by rw [← q7]; simpa using h3
        simp [C_lnew, runB, exSs, exS, evE, evEs, R.bind, R.to, R.of, F.bind, toD, toDs, asDs, binD, cmpD, ixD, toSlD, fromSlD, biD, isiD, dmD, tixD, noX, walked, seqD, boolsD, strsD, unpD, setAll, wipeG, pickD, stillE, List.lookup, fdb, Fn.cls, sh_int, sh_bool, sh_none, eqv_int, eqv_str, lim1, lim2, lim3, lim4, lim5, lim6, lim7, lim8, lim9, lim10, lim11, lim12, q1, q2, q3, q4, q5, q6, h1, h2, h3, h4]
        simp [← h2, h1] at q2
        simp [q2, q1, h1, ← h2]
        try simp_all
      · have h4 : o.whole = false := by rw [← q7]; simpa using h3
        simp [C_lnew, runB, exSs, exS, evE, evEs, R.bind, R.to, R.of, F.bind, toD, toDs, asDs, binD, cmpD, ixD, toSlD, fromSlD, biD, isiD, dmD, tixD, noX, walked, seqD, boolsD, strsD, unpD, setAll, wipeG, pickD, stillE, List.lookup, fdb, Fn.cls, sh_int, sh_bool, sh_none, eqv_int, eqv_str, lim1, lim2, lim3, lim4, lim5, lim6, lim7, lim8, lim9, lim10, lim11, lim12, q1, q2, q3, q4, q5, q6, h1, h2, h3, h4]
        try simp_all
    · simp [C_lnew, runB, exSs, exS, evE, evEs, R.bind, R.to, R.of, F.bind, toD, toDs, asDs, binD, cmpD, ixD, toSlD, fromSlD, biD, isiD, dmD, tixD, noX, walked, seqD, boolsD, strsD, unpD, setAll, wipeG, pickD, stillE, List.lookup, fdb, Fn.cls, sh_int, sh_bool, sh_none, eqv_int, eqv_str, lim1, lim2, lim3, lim4, lim5, lim6, lim7, lim8, lim9, lim10, lim11, lim12, q1, q2, q3, q4, q5, q6, h1, h2]
      try simp_all
  · simp [C_lnew, runB, exSs, exS, evE, evEs, R.bind, R.to, R.of, F.bind, toD, toDs, asDs, binD, cmpD, ixD, toSlD, fromSlD, biD, isiD, dmD, tixD, noX, walked, seqD, boolsD, strsD, unpD, setAll, wipeG, pickD, stillE, List.lookup, fdb, Fn.cls, sh_int, sh_bool, sh_none, eqv_int, eqv_str, lim1, lim2, lim3, lim4, lim5, lim6, lim7, lim8, lim9, lim10, lim11, lim12, q1, q2, q3, q4, q5, q6, h1]
end
end K75

set_option Elab.async false
set_option linter.all false
set_option autoImplicit false
set_option maxRecDepth 100000
set_option maxHeartbeats 4000000
/-! Mathematics, part 26: the newest list, as both find it. -/
namespace K75
open PySem PySem.W
section
variable {Φ : Env} {G : Loc} {M : Sto} {it elt c : E} {i k : Nat} {xs : List PyData} {f : PyData → PyData} {p : PyData → Bool}
theorem stillE_ok {v : Val} {h : Loc → Sto → R Val} {w : Val} (e : h G M = .ok w M) : stillE v h G M = .ok w M := by
  cases v with
  | d x => exact e
  | o k => simp [stillE, e]
theorem ev_compIf_o (h1 : evE Φ it G M = .ok (.o k) M) (h2 : M[k]? = some (.lst xs)) (hl : xs.length ≤ lim) (hc : ∀ x ∈ xs, evE Φ c ((wipeG G [i]).set i (some (.d x))) M = .ok (.d (.bool (p x))) M) (h : ∀ x ∈ xs, p x = true → evE Φ elt ((wipeG G [i]).set i (some (.d x))) M = .ok (.d (f x)) M) :
    evE Φ (.compIf i it c elt) G M = .ok (.d (.list ((xs.filter p).map f))) M := by
  have go := compL_filter (M := M) (put := fun x => some ((wipeG G [i]).set i (some (.d x)))) (c := stillE (.o k) fun G M => evE Φ c G M) (elt := stillE (.o k) fun G M => evE Φ elt G M) (p := p) (f := f) (xs := xs) (acc := []) (fun x hx => ⟨_, rfl, stillE_ok (hc x hx), fun hp => stillE_ok (h x hx hp)⟩) (by simpa using hl)
  have w : walked M (.o k) = some xs := by simp [walked, toD, h2, seqD]
  unfold evE
  simp only [h1, R.bind, w, go, noX, List.nil_append]
theorem ev_compU_o {js : List Nat} (h1 : evE Φ it G M = .ok (.o k) M) (h2 : M[k]? = some (.lst xs)) (hl : xs.length ≤ lim) (h : ∀ x ∈ xs, ∃ G2, unpD (wipeG G js) js x = some G2 ∧ evE Φ elt G2 M = .ok (.d (f x)) M) :
    evE Φ (.compU js it elt) G M = .ok (.d (.list (xs.map f))) M := by
  have go := compL_map (M := M) (put := fun x => unpD (wipeG G js) js x) (c := fun _ M => .ok (.d (.bool true)) M) (elt := stillE (.o k) fun G M => evE Φ elt G M) (f := f) (xs := xs) (acc := []) (fun x hx => by
    obtain ⟨G2, e1, e2⟩ := h x hx
    exact ⟨G2, e1, rfl, stillE_ok e2⟩) (by simpa using hl)
  have w : walked M (.o k) = some xs := by simp [walked, toD, h2, seqD]
  unfold evE
  simp only [h1, R.bind, w, go, noX, List.nil_append]
end
theorem eqv_lnil (L : List PyData) : PyData.eqv (.list L) (.list []) = decide (L = []) := by
  rw [PyData.eqv]
  cases L <;> simp [PyData.eqvAll]
section
variable {n : Nat} {M : Sto}
def dflt (a : Nm) (key : Nat) : PyData := .tuple [a.D, .int key, .int (-1), .int (-1), .int 0, .int 0, plD, .tuple [], .int 0]
theorem isC_filter (a : Nm) (key : Nat) (os : List Ow) : ((os.map Ow.D).filter (pC a key)).map numT = (os.filter (isC a key)).map fun o => .tuple [.int o.num, o.D] := by
  rw [List.filter_map, List.map_map]
  have e : pC a key ∘ Ow.D = isC a key := by funext o; exact pC_is a key o
  rw [e]
  rfl
theorem dpt_pair {o : Ow} (g : o.Rd) : Dpt 5 (.tuple [.int o.num, o.D]) := dpt_tup fun y hy => by
  simp only [List.mem_cons, List.not_mem_nil, or_false] at hy
  rcases hy with e | e <;> subst e
  · exact (dpt_int _).mono (by decide)
  · exact dpt_D g
theorem c_l_newest {os : List Ow} {a : Nm} {key k : Nat} (oa : a.Ok) (h : ∀ o ∈ os, o.Rd) (hl : os.length ≤ 100) (hM : M[k]? = some (.lst (os.map Ow.D))) :
    (NoC os a key ∧ call (n + 1) .l_newest [.o k, .d a.D, .d (.int key)] M = .ok (.d (dflt a key)) M) ∨ ∃ m, Nw os a key m ∧ call (n + 1) .l_newest [.o k, .d a.D, .d (.int key)] M = .ok (.d m.D) M := by
  have q : evE (call n) A_lnew [some (.o k), some (.d a.D), some (.d (.int key)), none, none] M = .ok (.d (.list ((os.filter (isC a key)).map fun o => .tuple [.int o.num, o.D]))) M := by
    have q := ev_compIf_o (Φ := call n) (M := M) (G := [some (.o k), some (.d a.D), some (.d (.int key)), none, none]) (it := .v 0) (i := 4) (k := k) (c := C_lnew) (elt := .tup (.cons (.ix (.v 4) (.k (.int 2))) (.cons (.v 4) .nil))) (xs := os.map Ow.D) (p := pC a key) (f := numT) (by simp [evE]) hM (by simp; unfold lim; omega) (fun x hx => by
        obtain ⟨o, ho, rfl⟩ := List.mem_map.mp hx
        rw [pC_is]
        exact lnew_cond oa (h o ho)) (fun x hx _ => by
        obtain ⟨o, ho, rfl⟩ := List.mem_map.mp hx
        rw [numT_is]
        have e : ixD o.D (.int 2) = some (.int o.num) := rfl
        generalize o.D = d at *
        have ll : 2 ≤ lim := by decide
        simp [evE, evEs, R.bind, wipeG, toD, e, R.of, asDs, ll])
    unfold A_lnew
    rw [q, isC_filter]
  have sh : SeqAt.shaped (.list ((os.filter (isC a key)).map fun o => PyData.tuple [.int o.num, o.D])) = true := (dpt_lst (k := 5) fun x hx => by
    obtain ⟨o, ho, rfl⟩ := List.mem_map.mp hx
    exact dpt_pair (h o (List.mem_filter.mp ho).1)).sh (by decide)
  have sh0 : SeqAt.shaped (.list []) = true := by decide +kernel
  have en := eqv_lnil ((os.filter (isC a key)).map fun o => PyData.tuple [.int o.num, o.D])
  by_cases hf : os.filter (isC a key) = []
  · left
    refine ⟨fun o ho => ?_, ?_⟩
    · have := List.filter_eq_nil_iff.mp hf o ho
      simpa using this
    · show runB (call n) ir_l_newest _ _ = _
      rw [hf, List.map_nil] at q
      have sp := sh_pl
      have en0 := eqv_lnil []
      rw [ir_lnew]
      unfold dflt plD
      simp [runB, exSs, exS, evE, evEs, R.bind, R.to, R.of, F.bind, toD, toDs, asDs, binD, cmpD, ixD, toSlD, fromSlD, biD, isiD, dmD, tixD, noX, walked, seqD, boolsD, strsD, unpD, setAll, wipeG, pickD, stillE, List.lookup, fdb, Fn.cls, sh_int, sh_bool, sh_none, eqv_int, eqv_str, lim1, lim2, lim3, lim4, lim5, lim6, lim7, lim8, lim9, lim10, lim11, lim12, q, sh0, en0]
  · right
    obtain ⟨o1, r1, e1⟩ : ∃ o1 r1, os.filter (isC a key) = o1 :: r1 := by
      cases e : os.filter (isC a key) with
      | nil => exact absurd e hf
      | cons o1 r1 => exact ⟨o1, r1, rfl⟩
    have all : ∀ o ∈ o1 :: r1, o ∈ os ∧ isC a key o = true := fun o ho => by
      rw [← e1] at ho
      exact List.mem_filter.mp ho
    have srt : sortable ((o1 :: r1).map fun o => PyData.tuple [.int o.num, o.D]) = true := by
      refine sortable_of (fun x hx => ?_) fun x hx y hy => ?_
      · obtain ⟨o, ho, rfl⟩ := List.mem_map.mp hx
        exact ⟨rfl, (dpt_pair (h o (all o ho).1)).mono (by decide)⟩
      · obtain ⟨o, ho, rfl⟩ := List.mem_map.mp hx
        obtain ⟨p, hp, rfl⟩ := List.mem_map.mp hy
        simp [alike, alikeAll, alike_D]
    obtain ⟨m1, m2⟩ := maxFrom_is (r1.map fun o => PyData.tuple [.int o.num, o.D]) (.tuple [.int o1.num, o1.D])
    obtain ⟨m, hm, em⟩ := List.mem_map.mp (show maxFrom (.tuple [.int o1.num, o1.D]) (r1.map fun o => PyData.tuple [.int o.num, o.D]) ∈ (o1 :: r1).map fun o => PyData.tuple [.int o.num, o.D] from m1)
    refine ⟨m, ⟨(all m hm).1, (all m hm).2, fun p hp hc => ?_⟩, ?_⟩
    · have pin : p ∈ o1 :: r1 := by
        rw [← e1]
        exact List.mem_filter.mpr ⟨hp, hc⟩
      have z := m2 (.tuple [.int p.num, p.D]) (show _ ∈ (o1 :: r1).map fun o => PyData.tuple [.int o.num, o.D] from List.mem_map.mpr ⟨p, pin, rfl⟩)
      rw [← em, lt_pair (alike_D m p)] at z
      by_cases hn : (m.num : Int) = p.num
      · rw [if_pos hn] at z
        exact .inr ⟨by omega, z⟩
      · rw [if_neg hn] at z
        have : ¬ (m.num : Int) < p.num := by simpa using z
        exact .inl (by omega)
    · show runB (call n) ir_l_newest _ _ = _
      rw [e1] at q en sh
      have bm : biD .max [.list ((o1 :: r1).map fun o => PyData.tuple [.int o.num, o.D])] = some (.tuple [.int m.num, m.D]) := by
        have : biD .max [.list ((o1 :: r1).map fun o => PyData.tuple [.int o.num, o.D])] = if sortable ((o1 :: r1).map fun o => PyData.tuple [.int o.num, o.D]) then some (maxFrom (.tuple [.int o1.num, o1.D]) (r1.map fun o => PyData.tuple [.int o.num, o.D])) else none := rfl
        rw [this, srt, if_pos rfl, em]
      have ne : ((o1 :: r1).map fun o => PyData.tuple [.int o.num, o.D]) ≠ [] := by simp
      rw [decide_eq_false ne] at en
      rw [ir_lnew]
      generalize ((o1 :: r1).map fun o => PyData.tuple [.int o.num, o.D]) = L at *
      generalize m.D = d at *
      simp [runB, exSs, exS, evE, evEs, R.bind, R.to, R.of, F.bind, toD, toDs, asDs, binD, cmpD, ixD, toSlD, fromSlD, isiD, tixD, noX, walked, seqD, boolsD, strsD, unpD, setAll, wipeG, pickD, stillE, List.lookup, fdb, Fn.cls, sh_int, sh_bool, sh_none, eqv_int, eqv_str, lim1, lim2, lim3, lim4, lim5, lim6, lim7, lim8, lim9, lim10, lim11, lim12, q, sh, sh0, en, bm]
/-! ### as the desk finds it -/
def C_npl : E := .and (.cmp .eq (.slTo (.v 4) (.k (.int 2))) (.tup (.cons (.v 1) (.cons (.v 2) .nil)))) (.and (.cmp .lt (.ix (.v 4) (.k (.int 3))) (.k (.int 0))) (.cmp .eq (.ix (.v 4) (.k (.int 6))) (.g (⟨#[80, 76, 65, 73, 78, 95, 100, 101, 115, 107]⟩ : Str) (.tuple [(.str (⟨#[97, 108, 108]⟩ : Str)), (.bool false), (.tuple [])]))))
def B_npl : Ss := .cons (.ite C_npl (.cons (.ite (.or (.cmp .is_ (.v 3) (.k .none)) (.cmp .ge (.ix (.v 4) (.k (.int 2))) (.ix (.v 3) (.k (.int 2))))) (.cons (.set 3 (.v 4)) .nil) .nil) .nil) .nil) .nil
theorem ir_npl : ir_newest_plain = ⟨3, 2, (.cons (.set 3 (.k .none)) (.cons (.forN 4 (.ix (.v 0) (.k (.int 1))) B_npl) (.cons (.ret (.v 3)) .nil))), false⟩ := rfl
theorem npl_cond {Φ : Env} {a : Nm} (oa : a.Ok) {key : Nat} {o : Ow} (g : o.Rd) {v0 v3 : Option Val} : evE Φ C_npl [v0, some (.d a.D), some (.d (.int key)), v3, some (.d o.D)] M = .ok (.d (.bool (isC a key o))) M := by
  have e : o.D = .tuple [o.a.D, .int o.key, .int o.num, .int o.base, .int o.since, .int o.til, o.sc.D, .tuple (o.ents.map (En.D o.a)), .int o.sg] := rfl
  have q1 := sh_two (i := o.key) g.a
  have q2 := sh_two (i := key) oa
  have q3 := eqv_two (b := a) (i := o.key) (j := key) g.a
  have ds := dpt_sc g.kind g.why
  have q4 := ds.sh (by decide)
  have q5 := sh_pl
  have q6 := eqv_pl o.sc ds.1
  have q7 := base_neg o
  unfold isC
  unfold plD at *
  rw [e]
  generalize o.a.D = n1 at *
  generalize a.D = n2 at *
  generalize o.sc.D = s at *
  by_cases h1 : n1 = n2
  · by_cases h2 : (o.key : Int) = key
    · by_cases h3 : o.base < 0
      · have h4 : o.whole = true := by rw [← q7]; simpa using h3
        simp [C_npl, runB, exSs, exS, evE, evEs, R.bind, R.to, R.of, F.bind, toD, toDs, asDs, binD, cmpD, ixD, toSlD, fromSlD, biD, isiD, dmD, tixD, noX, walked, seqD, boolsD, strsD, unpD, setAll, wipeG, pickD, stillE, List.lookup, fdb, Fn.cls, sh_int, sh_bool, sh_none, eqv_int, eqv_str, lim1, lim2, lim3, lim4, lim5, lim6, lim7, lim8, lim9, lim10, lim11, lim12, q1, q2, q3, q4, q5, q6, h1, h2, h3, h4]
        simp [← h2, h1] at q2
        simp [q2, q1, h1, ← h2]
        try simp_all
      · have h4 : o.whole = false := by rw [← q7]; simpa using h3
        simp [C_npl, runB, exSs, exS, evE, evEs, R.bind, R.to, R.of, F.bind, toD, toDs, asDs, binD, cmpD, ixD, toSlD, fromSlD, biD, isiD, dmD, tixD, noX, walked, seqD, boolsD, strsD, unpD, setAll, wipeG, pickD, stillE, List.lookup, fdb, Fn.cls, sh_int, sh_bool, sh_none, eqv_int, eqv_str, lim1, lim2, lim3, lim4, lim5, lim6, lim7, lim8, lim9, lim10, lim11, lim12, q1, q2, q3, q4, q5, q6, h1, h2, h3, h4]
        try simp_all
    · simp [C_npl, runB, exSs, exS, evE, evEs, R.bind, R.to, R.of, F.bind, toD, toDs, asDs, binD, cmpD, ixD, toSlD, fromSlD, biD, isiD, dmD, tixD, noX, walked, seqD, boolsD, strsD, unpD, setAll, wipeG, pickD, stillE, List.lookup, fdb, Fn.cls, sh_int, sh_bool, sh_none, eqv_int, eqv_str, lim1, lim2, lim3, lim4, lim5, lim6, lim7, lim8, lim9, lim10, lim11, lim12, q1, q2, q3, q4, q5, q6, h1, h2]
      try simp_all
  · simp [C_npl, runB, exSs, exS, evE, evEs, R.bind, R.to, R.of, F.bind, toD, toDs, asDs, binD, cmpD, ixD, toSlD, fromSlD, biD, isiD, dmD, tixD, noX, walked, seqD, boolsD, strsD, unpD, setAll, wipeG, pickD, stillE, List.lookup, fdb, Fn.cls, sh_int, sh_bool, sh_none, eqv_int, eqv_str, lim1, lim2, lim3, lim4, lim5, lim6, lim7, lim8, lim9, lim10, lim11, lim12, q1, q2, q3, q4, q5, q6, h1]
end
end K75

set_option Elab.async false
set_option linter.all false
set_option autoImplicit false
set_option maxRecDepth 100000
set_option maxHeartbeats 4000000
/-! Mathematics, part 27: the newest list, as the desk finds it. -/
namespace K75
open PySem PySem.W
section
variable {n : Nat} {M : Sto}
theorem npl_no {Φ : Env} {a : Nm} (oa : a.Ok) {key : Nat} {o : Ow} (g : o.Rd) (hc : isC a key o = false) {v0 v3 : Option Val} : exSs Φ B_npl [v0, some (.d a.D), some (.d (.int key)), v3, some (.d o.D)] M = .nx [v0, some (.d a.D), some (.d (.int key)), v3, some (.d o.D)] M := by
  have q := npl_cond (Φ := Φ) (M := M) oa (key := key) g (v0 := v0) (v3 := v3)
  rw [hc] at q
  simp [B_npl, exSs, exS, q, R.to, F.bind]
theorem npl_first {Φ : Env} {a : Nm} (oa : a.Ok) {key : Nat} {o : Ow} (g : o.Rd) (hc : isC a key o = true) {v0 : Option Val} : exSs Φ B_npl [v0, some (.d a.D), some (.d (.int key)), some (.d .none), some (.d o.D)] M = .nx [v0, some (.d a.D), some (.d (.int key)), some (.d o.D), some (.d o.D)] M := by
  have q := npl_cond (Φ := Φ) (M := M) oa (key := key) g (v0 := v0) (v3 := some (.d .none))
  rw [hc] at q
  simp [B_npl, exSs, exS, evE, R.bind, toD, cmpD, R.of, q, R.to, F.bind]
theorem npl_next {Φ : Env} {a : Nm} (oa : a.Ok) {key : Nat} {o m : Ow} (g : o.Rd) (hc : isC a key o = true) {v0 : Option Val} : exSs Φ B_npl [v0, some (.d a.D), some (.d (.int key)), some (.d m.D), some (.d o.D)] M = .nx [v0, some (.d a.D), some (.d (.int key)), some (.d (if m.num ≤ o.num then o.D else m.D)), some (.d o.D)] M := by
  have q := npl_cond (Φ := Φ) (M := M) oa (key := key) g (v0 := v0) (v3 := some (.d m.D))
  rw [hc] at q
  have e1 : ixD o.D (.int 2) = some (.int o.num) := rfl
  have e2 : ixD m.D (.int 2) = some (.int m.num) := rfl
  have e3 : cmpD .is_ m.D .none = some false := rfl
  have e4 : cmpD .ge (.int o.num) (.int m.num) = some (decide ((m.num : Int) ≤ o.num)) := rfl
  by_cases h : m.num ≤ o.num
  · have h2 : (m.num : Int) ≤ o.num := by omega
    simp [B_npl, exSs, exS, evE, R.bind, toD, R.of, q, R.to, F.bind, e1, e2, e3, e4, h]
  · have h2 : ¬ (m.num : Int) ≤ o.num := by omega
    simp [B_npl, exSs, exS, evE, R.bind, toD, R.of, q, R.to, F.bind, e1, e2, e3, e4, h]
/-- the best of what was seen -/
def Best (os : List Ow) (a : Nm) (key : Nat) (pre : List PyData) (v3 : PyData) : Prop :=
  (v3 = .none ∧ ∀ o ∈ os, o.D ∈ pre → isC a key o = false) ∨ ∃ m ∈ os, v3 = m.D ∧ m.D ∈ pre ∧ isC a key m = true ∧ ∀ o ∈ os, o.D ∈ pre → isC a key o = true → o.num < m.num ∨ (o.num = m.num ∧ dataLt m.D o.D = false)
theorem c_newest {os : List Ow} {a : Nm} {key : Nat} (oa : a.Ok) (h : ∀ o ∈ os, o.Rd) :
    (NoC os a key ∧ call (n + 1) .newest_plain [.d (lotsD os), .d a.D, .d (.int key)] M = .ok (.d .none) M) ∨ ∃ m, Nw os a key m ∧ call (n + 1) .newest_plain [.d (lotsD os), .d a.D, .d (.int key)] M = .ok (.d m.D) M := by
  have pw : (storeL os).Pairwise fun x y => le x y = true := sort_pairwise le_total _
  obtain ⟨G2, M2, go, rfl, v3, x4, rfl, pre, e, best⟩ := forL_inv (put := fun x G => some (G.set 4 (some (.d x)))) (b := fun G M => exSs (call n) B_npl G M)
    (P := fun xs G M' => M' = M ∧ ∃ v3 x4, G = [some (.d (lotsD os)), some (.d a.D), some (.d (.int key)), some (.d v3), x4] ∧ ∃ pre, storeL os = pre ++ xs ∧ Best os a key pre v3)
    (fun x r G M' ⟨hM, v3, x4, hG, pre, e, best⟩ => by
      subst hM hG
      obtain ⟨o, ho, rfl⟩ := storeL_in (show x ∈ storeL os by rw [e]; simp)
      have e2 : storeL os = (pre ++ [o.D]) ++ r := by rw [e]; simp
      have pw2 := pw
      rw [e] at pw2
      have before : ∀ y ∈ pre, le y o.D = true := fun y hy => (List.pairwise_append.mp pw2).2.2 y hy o.D List.mem_cons_self
      have mem : ∀ p : Ow, p.D ∈ pre ++ [o.D] → p.D ∈ pre ∨ p = o := fun p hp => by
        rcases List.mem_append.mp hp with z | z
        · exact .inl z
        · exact .inr (ow_inj (by simpa using z))
      cases hc : isC a key o with
      | false =>
        refine ⟨_, _, _, rfl, npl_no oa (h o ho) hc, rfl, _, _, rfl, _, e2, ?_⟩
        rcases best with ⟨b1, b2⟩ | ⟨m, b1, b2, b3, b4, b5⟩
        · refine .inl ⟨b1, fun p hp hq => ?_⟩
          rcases mem p hq with z | z
          · exact b2 p hp z
          · rw [z]; exact hc
        · refine .inr ⟨m, b1, b2, List.mem_append_left _ b3, b4, fun p hp hq hcp => ?_⟩
          rcases mem p hq with z | z
          · exact b5 p hp z hcp
          · rw [z, hc] at hcp; exact absurd hcp (by simp)
      | true =>
        rcases best with ⟨b1, b2⟩ | ⟨m, b1, b2, b3, b4, b5⟩
        · subst b1
          refine ⟨_, _, _, rfl, npl_first oa (h o ho) hc, rfl, _, _, rfl, _, e2, ?_⟩
          refine .inr ⟨o, ho, rfl, by simp, hc, fun p hp hq hcp => ?_⟩
          rcases mem p hq with z | z
          · rw [b2 p hp z] at hcp; exact absurd hcp (by simp)
          · rw [z]; exact .inr ⟨rfl, lt_self _⟩
        · subst b2
          refine ⟨_, _, _, rfl, npl_next oa (h o ho) hc, rfl, _, _, rfl, _, e2, ?_⟩
          by_cases hn : m.num ≤ o.num
          · rw [if_pos hn]
            refine .inr ⟨o, ho, rfl, by simp, hc, fun p hp hq hcp => ?_⟩
            rcases mem p hq with z | z
            · have bl := before _ z
              rw [le_def, Bool.not_eq_true'] at bl
              rcases b5 p hp z hcp with t | ⟨t, _⟩
              · exact .inl (by omega)
              · by_cases hs : p.num < o.num
                · exact .inl hs
                · exact .inr ⟨by omega, bl⟩
            · rw [z]; exact .inr ⟨rfl, lt_self _⟩
          · rw [if_neg hn]
            refine .inr ⟨m, b1, rfl, List.mem_append_left _ b3, b4, fun p hp hq hcp => ?_⟩
            rcases mem p hq with z | z
            · exact b5 p hp z hcp
            · rw [z]; exact .inl (by omega))
    (xs := storeL os) (G := [some (.d (lotsD os)), some (.d a.D), some (.d (.int key)), some (.d .none), none]) (M := M) ⟨rfl, _, _, rfl, [], rfl, .inl ⟨rfl, fun o _ h => by simp at h⟩⟩
  have res : call (n + 1) .newest_plain [.d (lotsD os), .d a.D, .d (.int key)] M2 = .ok (.d v3) M2 := by
    show runB (call n) ir_newest_plain _ _ = _
    rw [ir_npl]
    have i1 : ixD (lotsD os) (.int 1) = some (.tuple (storeL os)) := rfl
    have sq : seqD (.tuple (storeL os)) = some (storeL os) := rfl
    generalize storeL os = s at *
    generalize lotsD os = L at *
    simp [exSs, exS, evE, runB, R.bind, R.to, R.of, F.bind, toD, i1, sq, go]
  rw [List.append_nil] at e
  have all : ∀ o ∈ os, o.D ∈ pre := fun o ho => by
    rw [← e]
    exact storeL_mem.mpr (List.mem_map_of_mem ho)
  rcases best with ⟨b1, b2⟩ | ⟨m, b1, b2, b3, b4, b5⟩
  · subst b1
    exact .inl ⟨fun o ho => b2 o ho (all o ho), res⟩
  · subst b2
    exact .inr ⟨m, ⟨b1, b4, fun o ho hc => b5 o ho (all o ho) hc⟩, res⟩
end
end K75

set_option Elab.async false
set_option linter.all false
set_option autoImplicit false
set_option maxRecDepth 100000
set_option maxHeartbeats 4000000
/-! Mathematics, part 28: what is told, its flaws. -/
namespace K75
open PySem PySem.W
structure Told where
  t0 : PyData
  t1 : PyData
  t2 : PyData
  t3 : PyData
  t4 : PyData
  t5 : PyData
  t6 : PyData
def Told.L (t : Told) : List PyData := [t.t0, t.t1, t.t2, t.t3, t.t4, t.t5, t.t6]
def Told.D (t : Told) : PyData := .tuple t.L
def goodR : PyData → Bool
  | .str s => decide (s ∈ reasons7)
  | _ => false
theorem goodR_is (d : PyData) : hasIn d (reasons7.map .str) = goodR d := by
  cases d with
  | str s => rw [hasIn_str]; rfl
  | _ => simp [hasIn, reasons7, PyData.eqv, goodR]
structure Told.Ok (t : Told) : Prop where
  n : (∃ a : Nm, a.Ok ∧ t.t0 = a.D) ∨ tupB t.t0 1 4 = false
  w3 : wholeB t.t3 0 1000000000 = true → t.t3 = .int 5
  s4 : SeqAt.shaped t.t4 = true
  r4 : goodR t.t4 = true → ∃ w ∈ whys, t.t4 = .str (tx w)
def Told.bad (t : Told) (w : Bool) : Option Xc :=
  if !tupB t.t0 1 4 then some .name
  else if !(wholeB t.t1 0 4294967295 && wholeB t.t2 0 1000000) then some .number
  else if w && !wholeB t.t3 0 1000000000 then some .number
  else if w && !goodR t.t4 then some .word
  else if wholeB t.t5 0 1000000000 && wholeB t.t6 (asI t.t5) 1000000000 then none
  else some .number
def Xc.st : Xc → Str
  | .name => (⟨#[110, 97, 109, 101]⟩ : Str)
  | .number => (⟨#[110, 117, 109, 98, 101, 114]⟩ : Str)
  | .word => (⟨#[119, 111, 114, 100]⟩ : Str)
  | .isThere => (⟨#[73, 115, 84, 104, 101, 114, 101]⟩ : Str)
  | .notThere => (⟨#[78, 111, 116, 84, 104, 101, 114, 101]⟩ : Str)
def flawS : Option Xc → Str
  | some c => c.st
  | none => (⟨#[]⟩ : Str)
section
variable {n : Nat} {M : Sto}
def C_fl : E := .or (.not (.isi (.v 2) .tuple)) (.not (.chain (.k (.int 1)) (.bi .len (.cons (.v 2) .nil)) (.k (.int 4))))
def C_fw : E := .and (.v 0) (.cmp .notIn (.v 6) (.lst (.cons (.k (.str (⟨#[99, 101, 97, 115, 101, 100]⟩ : Str))) (.cons (.k (.str (⟨#[99, 104, 97, 110, 103, 101, 100]⟩ : Str))) (.cons (.k (.str (⟨#[104, 101, 97, 100]⟩ : Str))) (.cons (.k (.str (⟨#[104, 111, 108, 100]⟩ : Str))) (.cons (.k (.str (⟨#[107, 101, 121]⟩ : Str))) (.cons (.k (.str (⟨#[114, 101, 112, 108, 97, 99, 101, 100]⟩ : Str))) (.cons (.k (.str (⟨#[114, 105, 103, 104, 116, 115]⟩ : Str))) .nil)))))))))
def C_fk : E := .or (.not (.call .l_is_number (.cons (.v 3) (.cons (.k (.int 0)) (.cons (.k (.int 4294967295)) .nil))))) (.not (.call .l_is_number (.cons (.v 4) (.cons (.k (.int 0)) (.cons (.k (.int 1000000)) .nil)))))
def C_fn : E := .and (.v 0) (.not (.call .l_is_number (.cons (.v 5) (.cons (.k (.int 0)) (.cons (.k (.int 1000000000)) .nil)))))
def C_ft : E := .and (.call .l_is_number (.cons (.v 7) (.cons (.k (.int 0)) (.cons (.k (.int 1000000000)) .nil)))) (.call .l_is_number (.cons (.v 8) (.cons (.v 7) (.cons (.k (.int 1000000000)) .nil))))
theorem ir_lfl : ir_l_flaw = ⟨2, 7, (.cons (.unp [2, 3, 4, 5, 6, 7, 8] (.v 1))
    (.cons (.ite C_fl (.cons (.ret (.k (.str (⟨#[110, 97, 109, 101]⟩ : Str)))) .nil) .nil)
    (.cons (.ite C_fk (.cons (.ret (.k (.str (⟨#[110, 117, 109, 98, 101, 114]⟩ : Str)))) .nil) .nil)
    (.cons (.ite C_fn (.cons (.ret (.k (.str (⟨#[110, 117, 109, 98, 101, 114]⟩ : Str)))) .nil) .nil)
    (.cons (.ite C_fw (.cons (.ret (.k (.str (⟨#[119, 111, 114, 100]⟩ : Str)))) .nil) .nil)
    (.cons (.ret (.ite C_ft (.k (.str (⟨#[]⟩ : Str))) (.k (.str (⟨#[110, 117, 109, 98, 101, 114]⟩ : Str)))))
    .nil)))))), false⟩ := rfl
theorem c_l_flaw {t : Told} (ok : t.Ok) (w : Bool) : call (n + 2) .l_flaw [.d (.bool w), .d t.D] M = .ok (.d (.str (flawS (t.bad w)))) M := by
  show runB (call (n + 1)) ir_l_flaw _ _ = _
  have G : Loc := [some (.d (.bool w)), some (.d t.D), some (.d t.t0), some (.d t.t1), some (.d t.t2), some (.d t.t3), some (.d t.t4), some (.d t.t5), some (.d t.t6)]
  have c1 : evE (call (n + 1)) C_fl [some (.d (.bool w)), some (.d t.D), some (.d t.t0), some (.d t.t1), some (.d t.t2), some (.d t.t3), some (.d t.t4), some (.d t.t5), some (.d t.t6)] M = .ok (.d (.bool (!tupB t.t0 1 4))) M := by
    generalize t.t0 = d
    cases d with
    | tuple xs => by_cases h1 : (1 : Int) ≤ (xs.length : Int) <;> by_cases h2 : (xs.length : Int) ≤ 4 <;> simp [C_fl, runB, exSs, exS, evE, evEs, R.bind, R.to, R.of, F.bind, toD, toDs, asDs, binD, cmpD, ixD, toSlD, fromSlD, biD, isiD, dmD, tixD, noX, walked, seqD, boolsD, strsD, unpD, setAll, wipeG, pickD, stillE, List.lookup, fdb, Fn.cls, sh_int, sh_bool, sh_none, eqv_int, eqv_str, lim1, lim2, lim3, lim4, lim5, lim6, lim7, lim8, lim9, lim10, lim11, lim12, tupB, h1, h2]
    | _ => simp [C_fl, runB, exSs, exS, evE, evEs, R.bind, R.to, R.of, F.bind, toD, toDs, asDs, binD, cmpD, ixD, toSlD, fromSlD, biD, isiD, dmD, tixD, noX, walked, seqD, boolsD, strsD, unpD, setAll, wipeG, pickD, stillE, List.lookup, fdb, Fn.cls, sh_int, sh_bool, sh_none, eqv_int, eqv_str, lim1, lim2, lim3, lim4, lim5, lim6, lim7, lim8, lim9, lim10, lim11, lim12, tupB]
  have c2 : evE (call (n + 1)) C_fk [some (.d (.bool w)), some (.d t.D), some (.d t.t0), some (.d t.t1), some (.d t.t2), some (.d t.t3), some (.d t.t4), some (.d t.t5), some (.d t.t6)] M = .ok (.d (.bool (!(wholeB t.t1 0 4294967295 && wholeB t.t2 0 1000000)))) M := by
    cases h1 : wholeB t.t1 0 4294967295 <;> cases h2 : wholeB t.t2 0 1000000 <;> simp [C_fk, runB, exSs, exS, evE, evEs, R.bind, R.to, R.of, F.bind, toD, toDs, asDs, binD, cmpD, ixD, toSlD, fromSlD, biD, isiD, dmD, tixD, noX, walked, seqD, boolsD, strsD, unpD, setAll, wipeG, pickD, stillE, List.lookup, fdb, Fn.cls, sh_int, sh_bool, sh_none, eqv_int, eqv_str, lim1, lim2, lim3, lim4, lim5, lim6, lim7, lim8, lim9, lim10, lim11, lim12, c_l_is_number, h1, h2]
  have c3 : evE (call (n + 1)) C_fn [some (.d (.bool w)), some (.d t.D), some (.d t.t0), some (.d t.t1), some (.d t.t2), some (.d t.t3), some (.d t.t4), some (.d t.t5), some (.d t.t6)] M = .ok (.d (.bool (w && !wholeB t.t3 0 1000000000))) M := by
    cases w <;> cases h1 : wholeB t.t3 0 1000000000 <;> simp [C_fn, runB, exSs, exS, evE, evEs, R.bind, R.to, R.of, F.bind, toD, toDs, asDs, binD, cmpD, ixD, toSlD, fromSlD, biD, isiD, dmD, tixD, noX, walked, seqD, boolsD, strsD, unpD, setAll, wipeG, pickD, stillE, List.lookup, fdb, Fn.cls, sh_int, sh_bool, sh_none, eqv_int, eqv_str, lim1, lim2, lim3, lim4, lim5, lim6, lim7, lim8, lim9, lim10, lim11, lim12, c_l_is_number, h1]
  have c4 : evE (call (n + 1)) C_fw [some (.d (.bool w)), some (.d t.D), some (.d t.t0), some (.d t.t1), some (.d t.t2), some (.d t.t3), some (.d t.t4), some (.d t.t5), some (.d t.t6)] M = .ok (.d (.bool (w && !goodR t.t4))) M := by
    have s3 : SeqAt.shaped (.list (reasons7.map .str)) = true := by decide +kernel
    have g := goodR_is t.t4
    have s4 := ok.s4
    simp only [reasons7, List.map_cons, List.map_nil] at s3 g
    generalize t.t4 = d at *
    cases w with
    | false => simp [C_fw, runB, exSs, exS, evE, evEs, R.bind, R.to, R.of, F.bind, toD, toDs, asDs, binD, cmpD, ixD, toSlD, fromSlD, biD, isiD, dmD, tixD, noX, walked, seqD, boolsD, strsD, unpD, setAll, wipeG, pickD, stillE, List.lookup, fdb, Fn.cls, sh_int, sh_bool, sh_none, eqv_int, eqv_str, lim1, lim2, lim3, lim4, lim5, lim6, lim7, lim8, lim9, lim10, lim11, lim12]
    | true => cases d <;> simp [C_fw, runB, exSs, exS, evE, evEs, R.bind, R.to, R.of, F.bind, toD, toDs, asDs, binD, cmpD, ixD, toSlD, fromSlD, biD, isiD, dmD, tixD, noX, walked, seqD, boolsD, strsD, unpD, setAll, wipeG, pickD, stillE, List.lookup, fdb, Fn.cls, sh_int, sh_bool, sh_none, eqv_int, eqv_str, lim1, lim2, lim3, lim4, lim5, lim6, lim7, lim8, lim9, lim10, lim11, lim12, s3, s4, g]
  have c5 : evE (call (n + 1)) C_ft [some (.d (.bool w)), some (.d t.D), some (.d t.t0), some (.d t.t1), some (.d t.t2), some (.d t.t3), some (.d t.t4), some (.d t.t5), some (.d t.t6)] M = .ok (.d (.bool (wholeB t.t5 0 1000000000 && wholeB t.t6 (asI t.t5) 1000000000))) M := by
    cases h1 : wholeB t.t5 0 1000000000 with
    | false => simp [C_ft, runB, exSs, exS, evE, evEs, R.bind, R.to, R.of, F.bind, toD, toDs, asDs, binD, cmpD, ixD, toSlD, fromSlD, biD, isiD, dmD, tixD, noX, walked, seqD, boolsD, strsD, unpD, setAll, wipeG, pickD, stillE, List.lookup, fdb, Fn.cls, sh_int, sh_bool, sh_none, eqv_int, eqv_str, lim1, lim2, lim3, lim4, lim5, lim6, lim7, lim8, lim9, lim10, lim11, lim12, c_l_is_number, h1]
    | true =>
      obtain ⟨i, e, _⟩ := wholeB_true h1
      rw [e] at h1 ⊢
      simp [C_ft, runB, exSs, exS, evE, evEs, R.bind, R.to, R.of, F.bind, toD, toDs, asDs, binD, cmpD, ixD, toSlD, fromSlD, biD, isiD, dmD, tixD, noX, walked, seqD, boolsD, strsD, unpD, setAll, wipeG, pickD, stillE, List.lookup, fdb, Fn.cls, sh_int, sh_bool, sh_none, eqv_int, eqv_str, lim1, lim2, lim3, lim4, lim5, lim6, lim7, lim8, lim9, lim10, lim11, lim12, c_l_is_number, h1, asI]
  have e : t.D = .tuple [t.t0, t.t1, t.t2, t.t3, t.t4, t.t5, t.t6] := rfl
  rw [ir_lfl]
  unfold Told.bad
  rw [e] at c1 c2 c3 c4 c5 ⊢
  cases h1 : tupB t.t0 1 4 with
  | false => simp [runB, exSs, exS, evE, R.to, F.bind, unpD, setAll, c1, h1, flawS, Xc.st]
  | true =>
    cases h2 : (wholeB t.t1 0 4294967295 && wholeB t.t2 0 1000000) with
    | false => simp [runB, exSs, exS, evE, R.to, F.bind, unpD, setAll, c1, c2, h1, h2, flawS, Xc.st]
    | true =>
      cases h3 : (w && !wholeB t.t3 0 1000000000) with
      | true => simp [runB, exSs, exS, evE, R.to, F.bind, unpD, setAll, c1, c2, c3, h1, h2, h3, flawS, Xc.st]
      | false =>
        cases h4 : (w && !goodR t.t4) with
        | true => simp [runB, exSs, exS, evE, R.to, F.bind, unpD, setAll, c1, c2, c3, c4, h1, h2, h3, h4, flawS, Xc.st]
        | false => cases h5 : (wholeB t.t5 0 1000000000 && wholeB t.t6 (asI t.t5) 1000000000) <;> simp [runB, exSs, exS, evE, R.to, R.bind, F.bind, unpD, setAll, c1, c2, c3, c4, c5, h1, h2, h3, h4, h5, flawS, Xc.st]
end
end K75

set_option Elab.async false
set_option linter.all false
set_option autoImplicit false
set_option maxRecDepth 100000
set_option maxHeartbeats 4000000
/-! Mathematics, part 29: a new list is put. -/
namespace K75
open PySem PySem.W
def NwO (os : List Ow) (a : Nm) (key : Nat) : Option Ow → Prop
  | none => NoC os a key
  | some m => Nw os a key m
theorem NwO.one {os : List Ow} {a : Nm} {key : Nat} : ∀ {m p : Option Ow}, NwO os a key m → NwO os a key p → m = p
  | none, none, _, _ => rfl
  | none, some p, h1, h2 => by
    have h3 : Nw os a key p := h2
    have := h1 p h3.mem
    rw [h3.c] at this
    exact absurd this (by simp)
  | some p, none, h2, h1 => by
    have h3 : Nw os a key p := h2
    have := h1 p h3.mem
    rw [h3.c] at this
    exact absurd this (by simp)
  | some m, some p, h1, h2 => congrArg some (Nw.one h1 h2)
def optD : Option Ow → PyData
  | none => .none
  | some m => m.D
def optL (a : Nm) (key : Nat) : Option Ow → PyData
  | none => dflt a key
  | some m => m.D
def entsO : Option Ow → List En
  | none => []
  | some m => m.ents
def numO : Option Ow → Nat
  | none => 0
  | some m => m.num + 1
section
variable {n : Nat} {M : Sto}
theorem c_newest_o {os : List Ow} {a : Nm} {key : Nat} {m : Option Ow} (oa : a.Ok) (h : ∀ o ∈ os, o.Rd) (hm : NwO os a key m) : call (n + 1) .newest_plain [.d (lotsD os), .d a.D, .d (.int key)] M = .ok (.d (optD m)) M := by
  rcases c_newest (n := n) (M := M) (key := key) oa h with ⟨h1, h2⟩ | ⟨p, h1, h2⟩
  · rw [NwO.one hm (p := none) h1]; exact h2
  · rw [NwO.one hm (p := some p) h1]; exact h2
theorem c_l_newest_o {os : List Ow} {a : Nm} {key k : Nat} {m : Option Ow} (oa : a.Ok) (h : ∀ o ∈ os, o.Rd) (hl : os.length ≤ 100) (hM : M[k]? = some (.lst (os.map Ow.D))) (hm : NwO os a key m) : call (n + 1) .l_newest [.o k, .d a.D, .d (.int key)] M = .ok (.d (optL a key m)) M := by
  rcases c_l_newest (n := n) (M := M) (key := key) oa h hl hM with ⟨h1, h2⟩ | ⟨p, h1, h2⟩
  · rw [NwO.one hm (p := none) h1]; exact h2
  · rw [NwO.one hm (p := some p) h1]; exact h2
theorem nwO_any {os : List Ow} {a : Nm} {key : Nat} (oa : a.Ok) (h : ∀ o ∈ os, o.Rd) : ∃ m, NwO os a key m := by
  rcases c_newest (n := 0) (M := []) (key := key) oa h with ⟨h1, h2⟩ | ⟨p, h1, h2⟩
  · exact ⟨none, h1⟩
  · exact ⟨some p, h1⟩
/-- the new list, not yet sealed; sealed -/
def mk0 (a : Nm) (key : Nat) (m : Option Ow) (since til : Nat) (ents : List En) : Ow := ⟨a, key, numO m, true, since, til, plSc, ents, 0⟩
def mkO (a : Nm) (key : Nat) (m : Option Ow) (since til : Nat) (ents : List En) : Ow := (mk0 a key m since til ents).done
theorem done_rd {o : Ow} (g : o.Rd) : o.done.Rd := { a := g.a, key := g.key, num := g.num, since := g.since, til := g.til, kind := g.kind, lot := g.lot, why := g.why, many := g.many, ents := g.ents, sg := done_le o }
def E_num : E := .ite (.cmp .is_ (.v 6) (.k .none)) (.k (.int 0)) (.bin .add (.ix (.v 6) (.k (.int 2))) (.k (.int 1)))
def E_row : E := .tup (.cons (.v 1) (.cons (.v 2) (.cons (.v 7) (.cons (.neg 1) (.cons (.v 4) (.cons (.v 5) (.cons (.g (⟨#[80, 76, 65, 73, 78, 95, 100, 101, 115, 107]⟩ : Str) (.tuple [(.str (⟨#[97, 108, 108]⟩ : Str)), (.bool false), (.tuple [])])) (.cons (.bi .tuple (.cons (.bi .sorted (.cons (.v 3) .nil)) .nil)) .nil))))))))
theorem ir_puts : ir_d_puts_list = ⟨6, 3, (.cons (.set 6 (.call .newest_plain (.cons (.fld (.v 0) .lots) (.cons (.v 1) (.cons (.v 2) .nil)))))
    (.cons (.set 7 E_num)
    (.cons (.ite (.cmp .gt (.bi .len (.cons (.v 3) .nil)) (.g (⟨#[69, 78, 84, 82, 73, 69, 83]⟩ : Str) (.int 30))) (.cons .never .nil) .nil)
    (.cons (.ite (.cmp .gt (.v 7) (.g (⟨#[78, 85, 77, 66, 69, 82, 83]⟩ : Str) (.int 1000000))) (.cons .never .nil) .nil)
    (.cons (.set 8 E_row)
    (.cons (.set 8 (.bin .add (.v 8) (.tup (.cons (.call .own_seal (.cons (.v 8) (.cons (.g (⟨#[76, 73, 83, 84, 95, 83, 69, 65, 76, 69, 82]⟩ : Str) (.int 1)) .nil))) .nil))))
    (.cons (.ex (.meth .d_does (.v 0) (.cons (.k (.str (⟨#[112, 117, 116]⟩ : Str))) (.cons (.k (.int 1)) (.cons (.v 8) .nil)))))
    (.cons (.ret (.call .thing_text (.cons (.k (.str (⟨#[108, 105, 115, 116]⟩ : Str))) (.cons (.v 8) .nil))))
    .nil)))))))), false⟩ := rfl
theorem ev_num {Φ : Env} {m : Option Ow} {G : Loc} (h6 : G[6]? = some (some (.d (optD m)))) : evE Φ E_num G M = .ok (.d (.int (numO m))) M := by
  cases m with
  | none => simp [E_num, evE, R.bind, h6, toD, optD, cmpD, R.of, numO]
  | some m =>
    have e2 : ixD m.D (.int 2) = some (.int m.num) := rfl
    have e3 : cmpD .is_ m.D .none = some false := rfl
    simp [E_num, evE, R.bind, h6, toD, optD, R.of, numO, e2, e3, binD]
section
variable {c ls : List PyData} {os : List Ow} {u : Nat} {x3 : MO} {Z : List MO}
theorem c_puts {a : Nm} {key since til : Nat} {m : Option Ow} {ents : List En} {L : List PyData} (h : ∀ o ∈ os, o.Rd) (hl : os.length < 12) (hm : NwO os a key m) (g : (mk0 a key m since til ents).Rd) (hs : sortable L = true) (hL : L.mergeSort le = ents.map (En.D a)) (l30 : L.length ≤ 30) :
    call (n + 8) .d_puts_list [.o 1, .d a.D, .d (.int key), .d (.tuple L), .d (.int since), .d (.int til)] (St c os u x3 ls Z) = .ok (.d (.str (tx (mkO a key m since til ents).T))) (St c (os ++ [mkO a key m since til ents]) (Z.length + 5) x3 ls (Z ++ [.lst []])) := by
  show runB (call (n + 7)) ir_d_puts_list _ _ = _
  have oa : a.Ok := g.a
  have s1 := c_newest_o (n := n + 6) (M := St c os u x3 ls Z) oa h hm
  have s2 := c_own_seal (n := n) (M := St c os u x3 ls Z) g
  have gd : (mkO a key m since til ents).Rd := done_rd g
  have s3 := c_does (n := n + 4) (c := c) (ls := ls) (u := u) (x3 := x3) (Z := Z) h gd hl
  have s4 := c_thing_text (n := n + 4) (M := St c (os ++ [mkO a key m since til ents]) (Z.length + 5) x3 ls (Z ++ [.lst []])) gd
  have at1 : (St c os u x3 ls Z)[1]? = some (deskO os u) := rfl
  have e8 : (mk0 a key m since til ents).D8 = [a.D, .int key, .int (numO m), .int (-1), .int since, .int til, plD, .tuple (ents.map (En.D a))] := rfl
  have eD : (mkO a key m since til ents).D = .tuple ((mk0 a key m since til ents).D8 ++ [.int (mk0 a key m since til ents).sealI]) := done_D _
  have hnum : numO m ≤ 1000000 := g.num
  have k1 : ¬ (30 : Int) < (L.length : Int) := by omega
  have k2 : ¬ (1000000 : Int) < (numO m : Int) := by omega
  have bs : biD .sorted [.tuple L] = some (.list (ents.map (En.D a))) := by
    have : biD .sorted [.tuple L] = if sortable L then some (.list (L.mergeSort (PySem.W.dataLe false id))) else none := rfl
    rw [this, hs, if_pos rfl]
    exact congrArg _ (congrArg _ hL)
  have row : ∀ x6 x8, evE (call (n + 7)) E_row [some (.o 1), some (.d a.D), some (.d (.int key)), some (.d (.tuple L)), some (.d (.int since)), some (.d (.int til)), x6, some (.d (.int (numO m))), x8] (St c os u x3 ls Z) = .ok (.d (.tuple (mk0 a key m since til ents).D8)) (St c os u x3 ls Z) := by
    intro x6 x8
    have ll : 8 ≤ lim := by decide
    have b2 : ∀ q, biD .tuple [.list q] = some (.tuple q) := fun _ => rfl
    rw [e8]
    unfold plD
    simp [E_row, evE, evEs, R.bind, toDs, toD, R.of, bs, b2, asDs, ll]
  have nm : ∀ x7 x8, evE (call (n + 7)) E_num [some (.o 1), some (.d a.D), some (.d (.int key)), some (.d (.tuple L)), some (.d (.int since)), some (.d (.int til)), some (.d (optD m)), x7, x8] (St c os u x3 ls Z) = .ok (.d (.int (numO m))) (St c os u x3 ls Z) := fun x7 x8 => ev_num rfl
  rw [eD] at s3 s4
  rw [ir_puts]
  generalize (mk0 a key m since til ents).sealI = sI at *
  generalize St c (os ++ [mkO a key m since til ents]) (Z.length + 5) x3 ls (Z ++ [.lst []]) = M2 at *
  generalize tx (mkO a key m since til ents).T = T at *
  generalize St c os u x3 ls Z = M1 at *
  unfold deskO at at1
  have l9 : (mk0 a key m since til ents).D8.length + 1 ≤ lim := by show 8 + 1 ≤ lim; decide
  have ll1 : 1 ≤ lim := by decide
  have bin : binD .add (.tuple (mk0 a key m since til ents).D8) (.tuple [.int sI]) = some (.tuple ((mk0 a key m since til ents).D8 ++ [.int sI])) := by
    have : binD .add (.tuple (mk0 a key m since til ents).D8) (.tuple [.int sI]) = if (mk0 a key m since til ents).D8.length + 1 ≤ lim then some (.tuple ((mk0 a key m since til ents).D8 ++ [.int sI])) else none := rfl
    rw [this, if_pos l9]
  generalize (mk0 a key m since til ents).D8 = d8 at *
  have lk : ∀ x y z, List.lookup Fd.lots [(.lots, x), (.done, y), (.undone, z)] = some (x : Val) := fun _ _ _ => rfl
  simp [runB, exSs, exS, evE, evEs, R.bind, R.to, R.of, F.bind, at1, lk, s1, nm, biD, toDs, toD, cmpD, k1, k2, row, s2, asDs, ll1, bin, Fn.cls, s3, s4]
end
end
end K75

set_option Elab.async false
set_option linter.all false
set_option autoImplicit false
set_option maxRecDepth 100000
set_option maxHeartbeats 4000000
/-! Mathematics, part 30: withdraw, give back. -/
namespace K75
open PySem PySem.W
theorem entsO_good {k : Nat} {os : List Ow} {a : Nm} {key : Nat} {m : Option Ow} (h : ∀ o ∈ os, Gd k o) (hm : NwO os a key m) : (∀ x ∈ entsO m, x.ser ≤ 1000000 ∧ x.why ∈ whys) ∧ (entsO m).Pairwise (fun x y => x.ser < y.ser) ∧ ((entsO m).length = 0 ∨ (entsO m).length + k ≤ 11) ∧ (numO m = 0 ∨ numO m + k ≤ 1008) := by
  cases m with
  | none => exact ⟨fun x hx => by simp [entsO] at hx, List.Pairwise.nil, .inl rfl, .inl rfl⟩
  | some m =>
    have h1 : Nw os a key m := hm
    have g := h m h1.mem
    refine ⟨g.rd.ents, g.asc, .inr g.few, .inr ?_⟩
    have := g.small
    show m.num + 1 + k ≤ 1008
    omega
theorem mk_gd {k : Nat} {os : List Ow} {a : Nm} {key since til : Nat} {m : Option Ow} {ents : List En} (hk : k ≤ 7) (h : ∀ o ∈ os, Gd (k + 1) o) (hm : NwO os a key m) (oa : a.Ok) (h1 : key ≤ 4294967295) (h2 : since ≤ til) (h3 : til ≤ 1000000000)
    (he : ents.length ≤ (entsO m).length + 1) (hx : ∀ x ∈ ents, x.ser ≤ 1000000 ∧ x.why ∈ whys) (ha : ents.Pairwise fun x y => x.ser < y.ser) : (mk0 a key m since til ents).Rd ∧ Gd k (mkO a key m since til ents) := by
  obtain ⟨_, _, g3, g4⟩ := entsO_good h hm
  have r : (mk0 a key m since til ents).Rd := by
    refine { a := oa, key := h1, num := ?_, since := ?_, til := h3, kind := ?_, lot := Nat.zero_le _, why := fun w hw => ?_, many := ?_, ents := hx, sg := Nat.zero_le _ }
    · show numO m ≤ 1000000
      omega
    · show since ≤ 1000000000
      omega
    · show ([97, 108, 108] : List Nat) ∈ kinds
      decide
    · have : w ∈ ([] : List (List Nat)) := hw
      simp at this
    · show ents.length ≤ 30
      omega
  refine ⟨r, ⟨done_rd r, fun q hq => ?_, ?_, h2, fun x hx => .inl rfl, ha, ?_, ?_⟩⟩
  · have : q ∈ ([] : List (PyData × PyData)) := hq
    simp at this
  · show (-1 : Int) ≤ (numO m : Int) - 1
    omega
  · show ents.length + k ≤ 11
    omega
  · show numO m + k ≤ 1007
    omega
/-- its name -/
theorem nw_a {os : List Ow} {a : Nm} {key : Nat} {m : Ow} (h : Nw os a key m) : m.a = a ∧ m.key = key := by
  have := h.c
  unfold isC at this
  simp only [Bool.and_eq_true, decide_eq_true_eq] at this
  exact ⟨nm_inj this.1, by omega⟩
theorem optD_ents {os : List Ow} {a : Nm} {key : Nat} {m : Ow} (h : Nw os a key m) : ixD m.D (.int 7) = some (.tuple (m.ents.map (En.D a))) := by
  rw [← (nw_a h).1]
  rfl
def entP (ser : Nat) : PyData → Bool
  | .tuple [_, .int i, _, _] => decide (i = (ser : Int))
  | _ => false
theorem entP_is (a : Nm) (ser : Nat) (e : En) : entP ser (e.D a) = decide (e.ser = ser) := by
  simp [entP, En.D]
  omega
section
variable {n : Nat} {M : Sto}
def E_old (i : Nat) : E := .ite (.cmp .is_ (.v i) (.k .none)) (.tup .nil) (.ix (.v i) (.k (.int 7)))
theorem ev_old {Φ : Env} {os : List Ow} {a : Nm} {key i : Nat} {m : Option Ow} {G : Loc} (hm : NwO os a key m) (h6 : G[i]? = some (some (.d (optD m)))) : evE Φ (E_old i) G M = .ok (.d (.tuple ((entsO m).map (En.D a)))) M := by
  cases m with
  | none => simp [E_old, evE, evEs, asDs, R.bind, h6, toD, optD, cmpD, R.of, entsO]
  | some m =>
    have e2 := optD_ents hm
    have e3 : cmpD .is_ m.D .none = some false := rfl
    simp [E_old, evE, R.bind, h6, toD, optD, R.of, entsO, e2, e3]
def C_wr : E := .or (.not (.isi (.v 5) .str)) (.cmp .notIn (.v 5) (.g (⟨#[82, 69, 65, 83, 79, 78, 83]⟩ : Str) (.tuple [(.str (⟨#[99, 101, 97, 115, 101, 100]⟩ : Str)), (.str (⟨#[99, 104, 97, 110, 103, 101, 100]⟩ : Str)), (.str (⟨#[104, 101, 97, 100]⟩ : Str)), (.str (⟨#[104, 111, 108, 100]⟩ : Str)), (.str (⟨#[107, 101, 121]⟩ : Str)), (.str (⟨#[114, 101, 112, 108, 97, 99, 101, 100]⟩ : Str)), (.str (⟨#[114, 105, 103, 104, 116, 115]⟩ : Str))])))
def A_any : E := .bi .any (.cons (.comp 10 (.v 9) (.cmp .eq (.ix (.v 10) (.k (.int 1))) (.v 3))) .nil)
theorem ir_wd : ir_d_withdraw = ⟨8, 3, (.cons (.ex (.call .need_name (.cons (.v 1) .nil)))
    (.cons (.ex (.call .need_key (.cons (.v 2) .nil)))
    (.cons (.ex (.call .need_times (.cons (.v 3) (.cons (.v 4) (.cons (.g (⟨#[84, 73, 77, 69, 83]⟩ : Str) (.int 1000000000)) .nil)))))
    (.cons (.ite C_wr (.cons (.rai .word) .nil) .nil)
    (.cons (.ex (.call .need_times (.cons (.v 3) (.cons (.v 6) (.cons (.v 7) .nil)))))
    (.cons (.set 8 (.call .newest_plain (.cons (.fld (.v 0) .lots) (.cons (.v 1) (.cons (.v 2) .nil)))))
    (.cons (.set 9 (E_old 8))
    (.cons (.ite A_any (.cons (.rai .isThere) .nil) .nil)
    (.cons (.ret (.meth .d_puts_list (.v 0) (.cons (.v 1) (.cons (.v 2) (.cons (.bin .add (.v 9) (.tup (.cons (.tup (.cons (.v 1) (.cons (.v 3) (.cons (.v 4) (.cons (.v 5) .nil))))) .nil))) (.cons (.v 6) (.cons (.v 7) .nil)))))))
    .nil))))))))), false⟩ := rfl
theorem wr_is {Φ : Env} {G : Loc} {d : PyData} (h : G[5]? = some (some (.d d))) (s4 : SeqAt.shaped d = true) : evE Φ C_wr G M = .ok (.d (.bool (!goodR d))) M := by
  have s3 : SeqAt.shaped (.tuple (reasons7.map .str)) = true := by decide +kernel
  have g := goodR_is d
  simp only [reasons7, List.map_cons, List.map_nil] at s3 g
  cases d <;> simp [C_wr, runB, exSs, exS, evE, evEs, R.bind, R.to, R.of, F.bind, toD, toDs, asDs, binD, cmpD, ixD, toSlD, fromSlD, biD, isiD, dmD, tixD, noX, walked, seqD, boolsD, strsD, unpD, setAll, wipeG, pickD, stillE, List.lookup, fdb, Fn.cls, sh_int, sh_bool, sh_none, eqv_int, eqv_str, lim1, lim2, lim3, lim4, lim5, lim6, lim7, lim8, lim9, lim10, lim11, lim12, h, s3, s4, g] <;> simp [goodR]
theorem wholeB_max {d : PyData} (h : wholeB d 0 1000000000 = true) : wholeB (.int 1000000000) (asI d) 1000000000 = true := by
  obtain ⟨i, rfl, h1, h2⟩ := wholeB_true h
  simp [wholeB, asI, h2]
theorem c_withdraw_bad {t : Told} (ok : t.Ok) {x : Xc} (hb : t.bad true = some x) : call (n + 9) .d_withdraw [.o 1, .d t.t0, .d t.t1, .d t.t2, .d t.t3, .d t.t4, .d t.t5, .d t.t6] M = .ex x M := by
  show runB (call (n + 8)) ir_d_withdraw _ _ = _
  have nk := c_need_key (n := n + 6) (M := M) t.t1
  have n1 := c_need_times (n := n + 6) (M := M) t.t2 t.t3 (.int 1000000000)
  have n2 := c_need_times (n := n + 6) (M := M) t.t2 t.t5 t.t6
  have wr : ∀ G : Loc, G[5]? = some (some (.d t.t4)) → evE (call (n + 8)) C_wr G M = .ok (.d (.bool (!goodR t.t4))) M := fun G hG => wr_is hG ok.s4
  unfold Told.bad at hb
  rw [ir_wd]
  rcases ok.n with ⟨a, oa, ea⟩ | hn
  · have nn := c_need_name (n := n + 4) (M := M) oa
    have t4 : tupB a.D 1 4 = true := by
      have := oa.len
      simp [tupB, Nm.D]
      omega
    rw [ea, t4] at hb
    rw [ea]
    cases h1 : wholeB t.t1 0 4294967295 with
    | false =>
      rw [h1] at hb nk
      simp at hb
      subst hb
      simp [runB, exSs, exS, evE, evEs, R.bind, R.to, F.bind, nn, nk]
    | true =>
      rw [h1] at hb nk
      cases h2 : wholeB t.t2 0 1000000 with
      | false =>
        rw [h2] at hb n1
        simp at hb
        subst hb
        simp at n1 nk
        simp [runB, exSs, exS, evE, evEs, R.bind, R.to, F.bind, nn, nk, n1]
      | true =>
        rw [h2] at hb n1 n2
        cases h3 : wholeB t.t3 0 1000000000 with
        | false =>
          rw [h3] at hb n1
          simp at hb
          subst hb
          simp at n1 nk
          simp [runB, exSs, exS, evE, evEs, R.bind, R.to, F.bind, nn, nk, n1]
        | true =>
          rw [h3, wholeB_max h3] at n1
          rw [h3] at hb
          simp at n1 nk
          cases h4 : goodR t.t4 with
          | false =>
            rw [h4] at hb
            simp at hb
            subst hb
            rw [h4] at wr
            simp [runB, exSs, exS, evE, evEs, R.bind, R.to, F.bind, nn, nk, n1, wr]
          | true =>
            rw [h4] at hb wr
            cases h5 : (wholeB t.t5 0 1000000000 && wholeB t.t6 (asI t.t5) 1000000000) with
            | true => rw [h5] at hb; simp at hb
            | false =>
              rw [h5] at hb n2
              simp at hb
              subst hb
              simp at n2
              simp [runB, exSs, exS, evE, evEs, R.bind, R.to, F.bind, nn, nk, n1, n2, wr]
  · have nn := c_need_name_no (n := n + 4) (M := M) hn
    rw [hn] at hb
    simp at hb
    subst hb
    simp [runB, exSs, exS, evE, evEs, R.bind, R.to, F.bind, nn]
end
end K75

set_option Elab.async false
set_option linter.all false
set_option autoImplicit false
set_option maxRecDepth 100000
set_option maxHeartbeats 4000000
/-! Mathematics, part 31: withdraw and give back, when nothing is wrong. -/
namespace K75
open PySem PySem.W
/-- what is told, when nothing is wrong -/
structure Fine (a : Nm) (key ser since til : Nat) : Prop where
  a : a.Ok
  key : key ≤ 4294967295
  ser : ser ≤ 1000000
  st : since ≤ til
  til : til ≤ 1000000000
theorem Fine.t1 {a : Nm} {key ser since til : Nat} (f : Fine a key ser since til) : wholeB (.int key) 0 4294967295 = true := wholeB_nat (b := 4294967295) f.key
theorem Fine.t2 {a : Nm} {key ser since til : Nat} (f : Fine a key ser since til) : wholeB (.int ser) 0 1000000 = true := wholeB_nat (b := 1000000) f.ser
theorem Fine.t5 {a : Nm} {key ser since til : Nat} (f : Fine a key ser since til) : wholeB (.int since) 0 1000000000 = true := wholeB_nat (b := 1000000000) (Nat.le_trans f.st f.til)
theorem Fine.t6 {a : Nm} {key ser since til : Nat} (f : Fine a key ser since til) : wholeB (.int til) (asI (.int since)) 1000000000 = true := by
  have h1 := f.st
  have h2 := f.til
  show (decide ((since : Int) ≤ til) && decide ((til : Int) ≤ 1000000000)) = true
  rw [Bool.and_eq_true, decide_eq_true_eq, decide_eq_true_eq]
  omega
def newT (o : Ow) : PyData := .str (tx o.T)
section
variable {n : Nat} {c ls : List PyData} {os : List Ow} {u : Nat} {x3 : MO} {Z : List MO}
section
variable {k key ser since til : Nat} {a : Nm} {m : Option Ow} {why : List Nat}
theorem goodR_why {w : List Nat} (h : w ∈ whys) : goodR (.str (tx w)) = true := by
  have := (why_ok w h).2.2.1
  simpa [goodR] using this
theorem any_is {Φ : Env} {M : Sto} {l : List En} {G : Loc} (h9 : G[9]? = some (some (.d (.tuple (l.map (En.D a)))))) (h3 : G[3]? = some (some (.d (.int ser)))) (h10 : 10 < G.length) (hl : l.length ≤ 1000) : evE Φ A_any G M = .ok (.d (.bool (l.any fun e => decide (e.ser = ser)))) M := by
  have q := ev_any (Φ := Φ) (M := M) (G := G) (it := .v 9) (i := 10) (elt := .cmp .eq (.ix (.v 10) (.k (.int 1))) (.v 3)) (d := .tuple (l.map (En.D a))) (xs := l.map (En.D a)) (p := entP ser) (by simp [evE, h9]) rfl (by simp; unfold lim; omega) fun x hx => by
    obtain ⟨e, he, rfl⟩ := List.mem_map.mp hx
    have g10 : ((wipeG G [10]).set 10 (some (.d (En.D a e))))[10]? = some (some (.d (En.D a e))) := by
      rw [List.getElem?_set_self (by simp [wipeG]; exact h10)]
    have g3 : ((wipeG G [10]).set 10 (some (.d (En.D a e))))[3]? = some (some (.d (.int ser))) := by
      simp [wipeG, List.getElem?_set, h3]
    have i1 : ixD (En.D a e) (.int 1) = some (.int e.ser) := rfl
    rw [entP_is]
    generalize (wipeG G [10]).set 10 (some (.d (En.D a e))) = G2 at *
    have dd : decide ((e.ser : Int) = ser) = decide (e.ser = ser) := by simp; omega
    simp [evE, R.bind, g10, g3, toD, i1, R.of, cmpD, sh_int, eqv_int, dd]
  unfold A_any
  rw [q, List.any_map]
  have e : entP ser ∘ En.D a = fun e => decide (e.ser = ser) := by funext x; exact entP_is a ser x
  rw [e]
theorem c_withdraw (hk : k ≤ 7) (f : Fine a key ser since til) (hw : why ∈ whys) (h : ∀ o ∈ os, Gd (k + 1) o) (hl : os.length < 12) (hm : NwO os a key m) :
    call (n + 9) .d_withdraw [.o 1, .d a.D, .d (.int key), .d (.int ser), .d (.int 5), .d (.str (tx why)), .d (.int since), .d (.int til)] (St c os u x3 ls Z) =
      if (entsO m).any (fun e => decide (e.ser = ser)) then .ex .isThere (St c os u x3 ls Z)
      else .ok (.d (newT (mkO a key m since til (insE ⟨ser, why⟩ (entsO m))))) (St c (os ++ [mkO a key m since til (insE ⟨ser, why⟩ (entsO m))]) (Z.length + 5) x3 ls (Z ++ [.lst []])) := by
  show runB (call (n + 8)) ir_d_withdraw _ _ = _
  have hr : ∀ o ∈ os, o.Rd := fun o ho => (h o ho).rd
  have nn := c_need_name (n := n + 4) (M := St c os u x3 ls Z) f.a
  have nk := c_need_key (n := n + 6) (M := St c os u x3 ls Z) (.int key)
  have n1 := c_need_times (n := n + 6) (M := St c os u x3 ls Z) (.int ser) (.int 5) (.int 1000000000)
  have n2 := c_need_times (n := n + 6) (M := St c os u x3 ls Z) (.int ser) (.int since) (.int til)
  rw [f.t1, if_pos rfl] at nk
  rw [f.t2, show wholeB (.int 5) 0 1000000000 = true from rfl, show wholeB (.int 1000000000) (asI (.int 5)) 1000000000 = true from rfl, Bool.and_self, Bool.and_self, if_pos rfl] at n1
  rw [f.t2, f.t5, f.t6, Bool.and_self, Bool.and_self, if_pos rfl] at n2
  have wr : ∀ G : Loc, G[5]? = some (some (.d (.str (tx why)))) → evE (call (n + 8)) C_wr G (St c os u x3 ls Z) = .ok (.d (.bool false)) (St c os u x3 ls Z) := fun G hG => by
    rw [wr_is hG (why_ok _ hw).1, goodR_why hw]
    rfl
  have s1 := c_newest_o (n := n + 7) (M := St c os u x3 ls Z) f.a hr hm
  have old := fun G hG => ev_old (Φ := call (n + 8)) (M := St c os u x3 ls Z) (i := 8) (G := G) hm hG
  obtain ⟨g1, g2, g3, g4⟩ := entsO_good h hm
  have hlen : (entsO m).length ≤ 1000 := by omega
  have any := fun G h9 h3 h10 => any_is (Φ := call (n + 8)) (M := St c os u x3 ls Z) (ser := ser) (a := a) (l := entsO m) (G := G) h9 h3 h10 hlen
  have at1 : (St c os u x3 ls Z)[1]? = some (deskO os u) := rfl
  unfold deskO at at1
  have lk : ∀ x y z, List.lookup Fd.lots [(.lots, x), (.done, y), (.undone, z)] = some (x : Val) := fun _ _ _ => rfl
  rw [ir_wd]
  cases hq : (entsO m).any fun e => decide (e.ser = ser) with
  | true =>
    rw [hq] at any
    generalize St c os u x3 ls Z = M at *
    simp [runB, exSs, exS, evE, evEs, R.bind, R.to, R.of, F.bind, nn, nk, n1, n2, wr, at1, lk, s1, old, any]
  | false =>
    have hne : ∀ x ∈ entsO m, x.ser ≠ ser := fun x hx e => by
      have := List.any_eq_false.mp hq x hx
      simp [e] at this
    have gi : ∀ x ∈ insE ⟨ser, why⟩ (entsO m), x.ser ≤ 1000000 ∧ x.why ∈ whys := fun x hx => by
      rcases insE_mem hx with z | z
      · exact g1 x z
      · rw [z]; exact ⟨f.ser, hw⟩
    obtain ⟨r0, _⟩ := mk_gd (since := since) (til := til) (ents := insE ⟨ser, why⟩ (entsO m)) hk h hm f.a f.key f.st f.til (by rw [insE_len]; exact Nat.le_refl _) gi (insE_asc g2 hne)
    have eA : (entsO m ++ [En.mk ser why]).map (En.D a) = (entsO m).map (En.D a) ++ [En.D a ⟨ser, why⟩] := by simp
    have sb : sortable ((entsO m).map (En.D a) ++ [En.D a ⟨ser, why⟩]) = true := by
      rw [← eA]
      exact sortable_ents f.a fun x hx => by
        rcases List.mem_append.mp hx with z | z
        · exact (g1 x z).2
        · have e : x = ⟨ser, why⟩ := by simpa using z
          rw [e]; exact hw
    have pt := c_puts (n := n) (c := c) (ls := ls) (u := u) (x3 := x3) (Z := Z) hr hl hm r0 sb (sort_insE f.a g2 hne) (by simp; omega)
    rw [hq] at any
    have lt : (entsO m).length + 1 ≤ lim := by unfold lim; omega
    have bin : binD .add (.tuple ((entsO m).map (En.D a))) (.tuple [.tuple [a.D, .int ser, .int 5, .str (tx why)]]) = some (.tuple ((entsO m).map (En.D a) ++ [En.D a ⟨ser, why⟩])) := by
      have : binD .add (.tuple ((entsO m).map (En.D a))) (.tuple [.tuple [a.D, .int ser, .int 5, .str (tx why)]]) = if ((entsO m).map (En.D a)).length + 1 ≤ lim then some (.tuple ((entsO m).map (En.D a) ++ [En.D a ⟨ser, why⟩])) else none := rfl
      rw [this, List.length_map, if_pos lt]
    have l1 : 1 ≤ lim := by decide
    have l4 : 4 ≤ lim := by decide
    unfold newT
    generalize mkO a key m since til (insE ⟨ser, why⟩ (entsO m)) = o at *
    generalize St c os u x3 ls Z = M at *
    generalize St c (os ++ [o]) (Z.length + 5) x3 ls (Z ++ [.lst []]) = M2 at *
    generalize (entsO m).map (En.D a) ++ [En.D a ⟨ser, why⟩] = L at *
    simp [runB, exSs, exS, evE, evEs, R.bind, R.to, R.of, F.bind, nn, nk, n1, n2, wr, at1, lk, s1, old, any, toD, asDs, l1, l4, bin, Fn.cls, pt]
/-! ### give back -/
def keepE (ser : Nat) (e : En) : Bool := !decide (e.ser = ser) || !decide (e.why = ([104, 111, 108, 100] : List Nat))
def keepP (ser : Nat) : PyData → Bool
  | .tuple [_, .int i, _, .str s] => !decide (i = (ser : Int)) || !decide (s = (⟨#[104, 111, 108, 100]⟩ : Str))
  | _ => false
theorem keepP_is (a : Nm) (ser : Nat) (e : En) : keepP ser (e.D a) = keepE ser e := by
  have h1 : decide ((e.ser : Int) = ser) = decide (e.ser = ser) := by simp; omega
  have h2 : decide (tx e.why = (⟨#[104, 111, 108, 100]⟩ : Str)) = decide (e.why = ([104, 111, 108, 100] : List Nat)) := by
    have : ((⟨#[104, 111, 108, 100]⟩ : Str) : Str) = tx ([104, 111, 108, 100] : List Nat) := rfl
    rw [this]
    exact decide_eq_decide.mpr ⟨tx_inj, fun h => by rw [h]⟩
  show (!decide ((e.ser : Int) = ser) || !decide (tx e.why = (⟨#[104, 111, 108, 100]⟩ : Str))) = _
  rw [h1, h2]
  rfl
def A_keep : E := .bi .tuple (.cons (.compIf 9 (.v 7) (.or (.cmp .ne (.ix (.v 9) (.k (.int 1))) (.v 3)) (.cmp .ne (.ix (.v 9) (.k (.int 3))) (.g (⟨#[72, 79, 76, 68]⟩ : Str) (.str (⟨#[104, 111, 108, 100]⟩ : Str))))) (.v 9)) .nil)
theorem ir_gb : ir_d_give_back = ⟨6, 4, (.cons (.ex (.call .need_name (.cons (.v 1) .nil)))
    (.cons (.ex (.call .need_key (.cons (.v 2) .nil)))
    (.cons (.ex (.call .need_times (.cons (.v 3) (.cons (.v 4) (.cons (.v 5) .nil)))))
    (.cons (.set 6 (.call .newest_plain (.cons (.fld (.v 0) .lots) (.cons (.v 1) (.cons (.v 2) .nil)))))
    (.cons (.set 7 (E_old 6))
    (.cons (.set 8 A_keep)
    (.cons (.ite (.cmp .eq (.bi .len (.cons (.v 8) .nil)) (.bi .len (.cons (.v 7) .nil))) (.cons (.rai .notThere) .nil) .nil)
    (.cons (.ret (.meth .d_puts_list (.v 0) (.cons (.v 1) (.cons (.v 2) (.cons (.v 8) (.cons (.v 4) (.cons (.v 5) .nil)))))))
    .nil)))))))), false⟩ := rfl
theorem keep_is {Φ : Env} {M : Sto} {l : List En} {G : Loc} (h7 : G[7]? = some (some (.d (.tuple (l.map (En.D a)))))) (h3 : G[3]? = some (some (.d (.int ser)))) (h9 : 9 < G.length) (hl : l.length ≤ 1000) (hw : ∀ x ∈ l, x.why ∈ whys) : evE Φ A_keep G M = .ok (.d (.tuple ((l.filter (keepE ser)).map (En.D a)))) M := by
  have q := ev_compIf (Φ := Φ) (M := M) (G := G) (it := .v 7) (i := 9) (c := .or (.cmp .ne (.ix (.v 9) (.k (.int 1))) (.v 3)) (.cmp .ne (.ix (.v 9) (.k (.int 3))) (.g (⟨#[72, 79, 76, 68]⟩ : Str) (.str (⟨#[104, 111, 108, 100]⟩ : Str))))) (elt := .v 9) (d := .tuple (l.map (En.D a))) (xs := l.map (En.D a)) (p := keepP ser) (f := id) (by simp [evE, h7]) rfl (by simp; unfold lim; omega) (fun x hx => by
    obtain ⟨e, he, rfl⟩ := List.mem_map.mp hx
    have g10 : ((wipeG G [9]).set 9 (some (.d (En.D a e))))[9]? = some (some (.d (En.D a e))) := by
      rw [List.getElem?_set_self (by simp [wipeG]; exact h9)]
    have g3 : ((wipeG G [9]).set 9 (some (.d (En.D a e))))[3]? = some (some (.d (.int ser))) := by
      simp [wipeG, List.getElem?_set, h3]
    have i1 : ixD (En.D a e) (.int 1) = some (.int e.ser) := rfl
    have i3 : ixD (En.D a e) (.int 3) = some (.str (tx e.why)) := rfl
    have s1 := (why_ok _ (hw e he)).1
    have s2 := sh_of (⟨#[104, 111, 108, 100]⟩ : Str) rfl
    have kp : keepP ser (En.D a e) = (!decide ((e.ser : Int) = ser) || !decide (tx e.why = (⟨#[104, 111, 108, 100]⟩ : Str))) := rfl
    rw [kp]
    generalize (wipeG G [9]).set 9 (some (.d (En.D a e))) = G2 at *
    generalize tx e.why = w at *
    by_cases q1 : (e.ser : Int) = ser <;> by_cases q2 : w = (⟨#[104, 111, 108, 100]⟩ : Str) <;> simp [evE, R.bind, g10, g3, toD, i1, i3, R.of, cmpD, sh_int, eqv_int, eqv_str, s1, s2, q1, q2]) (fun x hx _ => by
    have g10 : ((wipeG G [9]).set 9 (some (.d x)))[9]? = some (some (.d x)) := by
      rw [List.getElem?_set_self (by simp [wipeG]; exact h9)]
    simp [evE, g10])
  have e : keepP ser ∘ En.D a = keepE ser := by funext x; exact keepP_is a ser x
  rw [List.map_id, List.filter_map, e] at q
  unfold A_keep
  rw [evE, evEs, q]
  simp [R.bind, evEs, toDs, toD, biD, R.of]
theorem c_give_bad {t : Told} (ok : t.Ok) {x : Xc} {M : Sto} (hb : t.bad false = some x) : call (n + 9) .d_give_back [.o 1, .d t.t0, .d t.t1, .d t.t2, .d t.t5, .d t.t6] M = .ex x M := by
  show runB (call (n + 8)) ir_d_give_back _ _ = _
  have nk := c_need_key (n := n + 6) (M := M) t.t1
  have n2 := c_need_times (n := n + 6) (M := M) t.t2 t.t5 t.t6
  unfold Told.bad at hb
  rw [ir_gb]
  rcases ok.n with ⟨a, oa, ea⟩ | hn
  · have nn := c_need_name (n := n + 4) (M := M) oa
    have t4 : tupB a.D 1 4 = true := by
      have := oa.len
      simp [tupB, Nm.D]
      omega
    rw [ea, t4] at hb
    rw [ea]
    cases h1 : wholeB t.t1 0 4294967295 with
    | false =>
      rw [h1] at hb nk
      simp at hb
      subst hb
      simp [runB, exSs, exS, evE, evEs, R.bind, R.to, F.bind, nn, nk]
    | true =>
      rw [h1] at hb nk
      cases h2 : wholeB t.t2 0 1000000 with
      | false =>
        rw [h2] at hb n2
        simp at hb
        subst hb
        simp at n2 nk
        simp [runB, exSs, exS, evE, evEs, R.bind, R.to, F.bind, nn, nk, n2]
      | true =>
        rw [h2] at hb n2
        cases h5 : (wholeB t.t5 0 1000000000 && wholeB t.t6 (asI t.t5) 1000000000) with
        | true => rw [h5] at hb; simp at hb
        | false =>
          rw [h5] at hb n2
          simp at hb
          subst hb
          simp at n2 nk
          simp [runB, exSs, exS, evE, evEs, R.bind, R.to, F.bind, nn, nk, n2]
  · have nn := c_need_name_no (n := n + 4) (M := M) hn
    rw [hn] at hb
    simp at hb
    subst hb
    simp [runB, exSs, exS, evE, evEs, R.bind, R.to, F.bind, nn]
theorem filter_len {α : Type} {p : α → Bool} : ∀ {l : List α}, (∃ x ∈ l, p x = false) → (l.filter p).length < l.length
  | [], ⟨x, hx, _⟩ => by simp at hx
  | y :: r, ⟨x, hx, hp⟩ => by
    have le := List.length_filter_le p r
    rcases List.mem_cons.mp hx with z | z
    · rw [← z, List.filter_cons_of_neg (by simp [hp]), List.length_cons]
      omega
    · have ih := filter_len (p := p) (l := r) ⟨x, z, hp⟩
      by_cases q : p y = true
      · rw [List.filter_cons_of_pos q, List.length_cons, List.length_cons]
        omega
      · rw [List.filter_cons_of_neg q, List.length_cons]
        omega
theorem c_give (hk : k ≤ 7) (f : Fine a key ser since til) (h : ∀ o ∈ os, Gd (k + 1) o) (hl : os.length < 12) (hm : NwO os a key m) :
    call (n + 9) .d_give_back [.o 1, .d a.D, .d (.int key), .d (.int ser), .d (.int since), .d (.int til)] (St c os u x3 ls Z) =
      if (entsO m).all (keepE ser) then .ex .notThere (St c os u x3 ls Z)
      else .ok (.d (newT (mkO a key m since til ((entsO m).filter (keepE ser))))) (St c (os ++ [mkO a key m since til ((entsO m).filter (keepE ser))]) (Z.length + 5) x3 ls (Z ++ [.lst []])) := by
  show runB (call (n + 8)) ir_d_give_back _ _ = _
  have hr : ∀ o ∈ os, o.Rd := fun o ho => (h o ho).rd
  have nn := c_need_name (n := n + 4) (M := St c os u x3 ls Z) f.a
  have nk := c_need_key (n := n + 6) (M := St c os u x3 ls Z) (.int key)
  have n2 := c_need_times (n := n + 6) (M := St c os u x3 ls Z) (.int ser) (.int since) (.int til)
  rw [f.t1, if_pos rfl] at nk
  rw [f.t2, f.t5, f.t6, Bool.and_self, Bool.and_self, if_pos rfl] at n2
  have s1 := c_newest_o (n := n + 7) (M := St c os u x3 ls Z) f.a hr hm
  have old := fun G hG => ev_old (Φ := call (n + 8)) (M := St c os u x3 ls Z) (i := 6) (G := G) hm hG
  obtain ⟨g1, g2, g3, g4⟩ := entsO_good h hm
  have hlen : (entsO m).length ≤ 1000 := by omega
  have kp := fun G h7 h3 h9 => keep_is (Φ := call (n + 8)) (M := St c os u x3 ls Z) (ser := ser) (a := a) (l := entsO m) (G := G) h7 h3 h9 hlen fun x hx => (g1 x hx).2
  have at1 : (St c os u x3 ls Z)[1]? = some (deskO os u) := rfl
  unfold deskO at at1
  have lk : ∀ x y z, List.lookup Fd.lots [(.lots, x), (.done, y), (.undone, z)] = some (x : Val) := fun _ _ _ => rfl
  rw [ir_gb]
  cases hq : (entsO m).all (keepE ser) with
  | true =>
    have ef : (entsO m).filter (keepE ser) = entsO m := List.filter_eq_self.mpr fun x hx => List.all_eq_true.mp hq x hx
    rw [ef] at kp
    generalize St c os u x3 ls Z = M at *
    simp [runB, exSs, exS, evE, evEs, R.bind, R.to, R.of, F.bind, nn, nk, n2, at1, lk, s1, old, kp, toDs, toD, biD, cmpD, sh_int, eqv_int]
  | false =>
    have lf : ((entsO m).filter (keepE ser)).length < (entsO m).length := filter_len (by
      obtain ⟨x, hx, hp⟩ := List.all_eq_false.mp hq
      exact ⟨x, hx, by simpa using hp⟩)
    have nlf : ¬ (((entsO m).filter (keepE ser)).length : Int) = ((entsO m).length : Int) := by omega
    have gi : ∀ x ∈ (entsO m).filter (keepE ser), x.ser ≤ 1000000 ∧ x.why ∈ whys := fun x hx => g1 x (List.mem_filter.mp hx).1
    have ga := g2.filter (keepE ser)
    obtain ⟨r0, _⟩ := mk_gd (since := since) (til := til) (ents := (entsO m).filter (keepE ser)) hk h hm f.a f.key f.st f.til (by omega) gi ga
    have pt := c_puts (n := n) (c := c) (ls := ls) (u := u) (x3 := x3) (Z := Z) hr hl hm r0 (sortable_ents f.a fun x hx => (gi x hx).2) (sort_ents f.a ga) (by simp; omega)
    unfold newT
    generalize (entsO m).filter (keepE ser) = FF at *
    generalize mkO a key m since til FF = o at *
    generalize St c os u x3 ls Z = M at *
    generalize St c (os ++ [o]) (Z.length + 5) x3 ls (Z ++ [.lst []]) = M2 at *
    simp [runB, exSs, exS, evE, evEs, R.bind, R.to, R.of, F.bind, nn, nk, n2, at1, lk, s1, old, kp, toDs, toD, biD, cmpD, sh_int, eqv_int, nlf, Fn.cls, pt]
end
end
end K75

set_option Elab.async false
set_option linter.all false
set_option autoImplicit false
set_option maxRecDepth 100000
set_option maxHeartbeats 4000000
/-! Mathematics, part 32: data as they are shown; the same. -/
namespace K75
open PySem PySem.W
structure Shw (k : Nat) (d : PyData) : Prop where
  lo : Lo (TL.tl d.shown)
  len : d.shown.length ≤ k
  ok : d.showable = true
  nd : d.hasDict = false
theorem Shw.mono {j k : Nat} {d : PyData} (h : Shw j d) (hk : j ≤ k) : Shw k d := ⟨h.lo, Nat.le_trans h.len hk, h.ok, h.nd⟩
theorem shw_bool (b : Bool) : Shw 5 (.bool b) := by
  refine ⟨?_, ?_, rfl, rfl⟩
  · cases b <;> (unfold Lo; decide +kernel)
  · cases b <;> decide +kernel
theorem shw_nat {i : Nat} (h : i ≤ 4294967295) : Shw 10 (.int i) := by
  have e : TL.tl (PyData.int i).shown = TL.numL i := TL.tl_num i
  refine ⟨?_, ?_, ?_, rfl⟩
  · rw [e]; exact lo_num i
  · rw [TL.len_tl, e]; exact num_len h
  · have h1 : (i : Int).natAbs.log2 < 1920 := by
      by_cases z : i = 0
      · subst z
        decide
      · have : i.log2 < 40 := (Nat.log2_lt z).mpr (by omega)
        simp
        omega
    simpa [PyData.showable] using h1
theorem shw_m1 : Shw 10 (.int (-1)) := by
  refine ⟨?_, ?_, ?_, rfl⟩
  · unfold Lo; decide +kernel
  · decide +kernel
  · decide +kernel
theorem rc_lo : ∀ q ∈ [34, 39], ∀ c, c < 128 → ∀ d ∈ Builtin.Str.reprChar q c, d < 128 := by decide +kernel
theorem fold_lo (q : Nat) (hq : q ∈ [34, 39]) : ∀ (l : List Nat) (acc : Array Nat), Lo l → Lo acc.toList → Lo (l.foldl (fun out c => out ++ (Builtin.Str.reprChar q c).toArray) acc).toList
  | [], acc, _, h => h
  | c :: r, acc, hl, h => by
    rw [List.foldl_cons]
    refine fold_lo q hq r _ (fun d hd => hl d (List.mem_cons_of_mem _ hd)) ?_
    intro d hd
    simp only [Array.toList_append, List.mem_append] at hd
    rcases hd with z | z
    · exact h d z
    · exact rc_lo q hq c (hl c List.mem_cons_self) d (by simpa using z)
theorem shw_str {l : List Nat} (h : Lo l) : Shw (10 * l.length + 2) (.str (tx l)) := by
  refine ⟨?_, ?_, rfl, rfl⟩
  · show Lo (TL.tl (reprText (tx l)))
    have hq : reprQuote (tx l) ∈ [34, 39] := by
      unfold reprQuote
      split <;> simp
    have hq2 : reprQuote (tx l) < 128 := by
      have : ∀ q ∈ [34, 39], q < 128 := by decide
      exact this _ hq
    have f := fold_lo (reprQuote (tx l)) hq l #[reprQuote (tx l)] h (fun c hc => by
      have e : c = reprQuote (tx l) := by simpa using hc
      rw [e]; exact hq2)
    intro c hc
    have e : TL.tl (reprText (tx l)) = (l.foldl (fun out c => out ++ (Builtin.Str.reprChar (reprQuote (tx l)) c).toArray) #[reprQuote (tx l)]).toList ++ [reprQuote (tx l)] := by
      unfold reprText TL.tl
      simp
    rw [e] at hc
    rcases List.mem_append.mp hc with z | z
    · exact f c z
    · have e : c = reprQuote (tx l) := by simpa using z
      rw [e]; exact hq2
  · have := StrLaws.reprText_len (tx l) fun c hc => Nat.lt_of_lt_of_le (h c hc) (by decide)
    rw [tx_len] at this
    exact this
theorem shownAll_map : ∀ xs : List PyData, PyData.shownAll xs = xs.map PyData.shown
  | [] => rfl
  | x :: r => by rw [PyData.shownAll, shownAll_map r, List.map_cons]
theorem showableAll_of : ∀ {xs : List PyData}, (∀ x ∈ xs, x.showable = true) → PyData.showableAll xs = true
  | [], _ => rfl
  | x :: r, h => by
    rw [PyData.showableAll, h x List.mem_cons_self, showableAll_of fun y hy => h y (List.mem_cons_of_mem _ hy)]
    rfl
theorem hasDictAll_of : ∀ {xs : List PyData}, (∀ x ∈ xs, x.hasDict = false) → PyData.hasDictAll xs = false
  | [], _ => rfl
  | x :: r, h => by
    rw [PyData.hasDictAll, h x List.mem_cons_self, hasDictAll_of fun y hy => h y (List.mem_cons_of_mem _ hy)]
    rfl
theorem lo_joinL {s : List Nat} (hs : Lo s) : ∀ {l : List (List Nat)}, (∀ x ∈ l, Lo x) → Lo (TL.joinL s l)
  | [], _ => Lo.nil
  | [p], h => h p List.mem_cons_self
  | p :: q :: r, h => (h p List.mem_cons_self).app (hs.app (lo_joinL hs fun x hx => h x (List.mem_cons_of_mem _ hx)))
theorem shw_tup {k m : Nat} {xs : List PyData} (h : ∀ x ∈ xs, Shw k x) (hm : xs.length ≤ m) : Shw (m * (k + 2) + 3) (.tuple xs) := by
  have es : (PyData.tuple xs).shown = tupleText (PyData.shownAll xs) := by simp only [PyData.shown]
  refine ⟨?_, ?_, ?_, ?_⟩
  · rw [es]
    unfold tupleText
    rw [TL.tl_append, TL.tl_append, TL.tl_join]
    refine Lo.app (Lo.app (by unfold Lo; decide +kernel) (lo_joinL (by unfold Lo; decide +kernel) fun x hx => ?_)) ?_
    · rw [shownAll_map, List.map_map] at hx
      obtain ⟨d, hd, rfl⟩ := List.mem_map.mp hx
      exact (h d hd).lo
    · split <;> (unfold Lo; decide +kernel)
  · rw [es]
    have t := tupleText_len_le (PyData.shownAll xs)
    rw [shownAll_map, List.map_map, List.length_map] at t
    have s := sum_le (f := fun x : PyData => x.shown.length) (b := k) (l := xs) fun x hx => (h x hx).len
    have e : (xs.map ((fun x : Str => x.length) ∘ PyData.shown)) = xs.map fun x => x.shown.length := rfl
    rw [e] at t
    rw [shownAll_map]
    have : xs.length * (k + 2) ≤ m * (k + 2) := Nat.mul_le_mul_right _ hm
    rw [Nat.mul_add] at this
    omega
  · simp only [PyData.showable]
    exact showableAll_of fun x hx => (h x hx).ok
  · simp only [PyData.hasDict]
    exact hasDictAll_of fun x hx => (h x hx).nd
section
variable {n : Nat} {M : Sto}
theorem c_same {d : PyData} {k j : Nat} (h : Shw k d) (hk : k ≤ lim) (ht : tupleish d = true) (hd : Dpt j d) (hj : j ≤ 64) : call (n + 1) .l_same [.d d, .d d] M = .ok (.d (.bool true)) M := by
  show runB (call n) ir_l_same _ _ = _
  have r : biD .repr [d] = some (.str d.shown) := by
    have e : biD .repr [d] = if showsD d then some (.str d.shown) else none := rfl
    have s : showsD d = true := by
      unfold showsD
      have l : d.shown.length ≤ lim := Nat.le_trans h.len hk
      have dp : d.depth ≤ 64 := Nat.le_trans hd.2 hj
      simp [ht, h.ok, h.nd, dp, l]
    rw [e, s, if_pos rfl]
  have sh : SeqAt.shaped (.str d.shown) = true := by
    have := sh_tx (w := TL.tl d.shown) fun c hc => Nat.lt_of_lt_of_le (h.lo c hc) (by decide)
    rw [show (tx (TL.tl d.shown)) = d.shown from TL.mk_tl _] at this
    exact this
  simp [ir_l_same, runB, exSs, exS, evE, evEs, R.bind, R.to, R.of, F.bind, toDs, toD, r, cmpD, sh, eqv_str]
end
/-! ### how long lists are shown -/
theorem shw_nm {a : Nm} (o : a.Ok) : Shw 499 a.D := shw_tup (k := 122) (m := 4) (fun x hx => by
  obtain ⟨w, hw, rfl⟩ := List.mem_map.mp hx
  have wo := o.wo w hw
  exact (shw_str fun c hc => signs_lt c (wo.ch c hc)).mono (by have := wo.len; omega)) (by have := o.len; simp; omega)
theorem shw_en {a : Nm} (o : a.Ok) {x : En} (h1 : x.ser ≤ 1000000) (h2 : x.why ∈ whys) : Shw 2007 (x.D a) := shw_tup (k := 499) (m := 4) (fun y hy => by
  simp only [List.mem_cons, List.not_mem_nil, or_false] at hy
  rcases hy with e | e | e | e <;> subst e
  · exact shw_nm o
  · exact (shw_nat (by omega)).mono (by decide)
  · exact (shw_nat (i := 5) (by decide)).mono (by decide)
  · exact (shw_str (lo_why h2)).mono (by have := why_len h2; omega)) (by simp)
theorem shw_sc {s : Sc} (h0 : s.kind ∈ kinds) (h1 : s.lot.length ≤ 6) (h2 : ∀ w ∈ s.lot, w ∈ whys) : Shw 2000 s.D := by
  have hl := shw_tup (k := 102) (m := 6) (xs := s.lot.map fun w => .str (tx w)) (fun x hx => by
    obtain ⟨w, hw, rfl⟩ := List.mem_map.mp hx
    exact (shw_str (lo_why (h2 w hw))).mono (by have := why_len (h2 w hw); omega)) (by simpa using h1)
  have h := shw_tup (k := 627) (m := 3) (xs := [.str (tx s.kind), .bool s.oth, .tuple (s.lot.map fun w => .str (tx w))]) (fun y hy => by
    simp only [List.mem_cons, List.not_mem_nil, or_false] at hy
    rcases hy with e | e | e <;> subst e
    · exact (shw_str (kind_len _ h0).2).mono (by have := (kind_len _ h0).1; omega)
    · exact (shw_bool _).mono (by decide)
    · exact hl.mono (by decide)) (by simp)
  exact h.mono (by decide)
theorem shw_base (o : Ow) : Shw 10 (.int o.base) := by
  unfold Ow.base
  split
  · exact shw_m1
  · exact shw_nat (i := 0) (by decide)
theorem shw_D {o : Ow} (g : o.Rd) (h11 : o.ents.length ≤ 11) : Shw 198939 o.D := by
  have he := shw_tup (k := 2007) (m := 11) (xs := o.ents.map (En.D o.a)) (fun x hx => by
    obtain ⟨w, hw, rfl⟩ := List.mem_map.mp hx
    exact shw_en g.a (g.ents w hw).1 (g.ents w hw).2) (by simpa using h11)
  have h := shw_tup (k := 22102) (m := 9) (xs := o.D8 ++ [.int o.sg]) (fun y hy => by
    simp only [Ow.D8, List.cons_append, List.nil_append, List.mem_cons, List.not_mem_nil, or_false] at hy
    rcases hy with e | e | e | e | e | e | e | e | e <;> subst e
    · exact (shw_nm g.a).mono (by decide)
    · exact (shw_nat g.key).mono (by decide)
    · exact (shw_nat (by have := g.num; omega)).mono (by decide)
    · exact (shw_base o).mono (by decide)
    · exact (shw_nat (by have := g.since; omega)).mono (by decide)
    · exact (shw_nat (by have := g.til; omega)).mono (by decide)
    · exact (shw_sc g.kind g.lot g.why).mono (by decide)
    · exact he.mono (by decide)
    · exact (shw_nat g.sg).mono (by decide)) (by simp [Ow.D8])
  exact h
theorem shw_store {k : Nat} {os : List Ow} (h : ∀ o ∈ os, Gd k o) (hl : os.length ≤ 12) : Shw 8000000 (lotsD os) := by
  have hs := shw_tup (k := 198939) (m := 12) (xs := storeL os) (fun x hx => by
    obtain ⟨o, ho, rfl⟩ := storeL_in hx
    exact shw_D (h o ho).rd (by have := (h o ho).few; omega)) (by rw [storeL_len]; exact hl)
  have h0 := shw_tup (k := 0) (m := 0) (xs := []) (fun x hx => by simp at hx) (Nat.le_refl _)
  have ht := shw_tup (k := 2387295) (m := 3) (xs := [.tuple [], .tuple (storeL os), .tuple []]) (fun y hy => by
    simp only [List.mem_cons, List.not_mem_nil, or_false] at hy
    rcases hy with e | e | e <;> subst e
    · exact h0.mono (by decide)
    · exact hs.mono (by decide)
    · exact h0.mono (by decide)) (by simp)
  exact ht.mono (by decide)
theorem dpt_lots {os : List Ow} (h : ∀ o ∈ os, o.Rd) : Dpt 6 (lotsD os) := dpt_tup fun y hy => by
  have h0 : Dpt 1 (.tuple []) := dpt_tup fun x hx => by simp at hx
  simp only [List.mem_cons, List.not_mem_nil, or_false] at hy
  rcases hy with e | e | e <;> subst e
  · exact h0.mono (by decide)
  · exact dpt_store h
  · exact h0.mono (by decide)
theorem c_same_store {n k : Nat} {M : Sto} {os : List Ow} (h : ∀ o ∈ os, Gd k o) (hl : os.length ≤ 12) : call (n + 1) .l_same [.d (lotsD os), .d (lotsD os)] M = .ok (.d (.bool true)) M :=
  c_same (shw_store h hl) (by decide) rfl (dpt_lots fun o ho => (h o ho).rd) (by decide)
end K75

set_option Elab.async false
set_option linter.all false
set_option autoImplicit false
set_option maxRecDepth 100000
set_option maxHeartbeats 4000000
/-! Mathematics, part 33: a call of the desk, as the law makes it. -/
namespace K75
open PySem PySem.W
/-- what the desk does -/
def actn (w : Bool) (ents : List En) (ser : Nat) (why : List Nat) : Xc ⊕ List En :=
  if w then (if ents.any (fun e => decide (e.ser = ser)) then .inl .isThere else .inr (insE ⟨ser, why⟩ ents))
  else (if ents.all (keepE ser) then .inl .notThere else .inr (ents.filter (keepE ser)))
theorem Told.good {t : Told} {w : Bool} (ok : t.Ok) (hb : t.bad w = none) : ∃ a key ser since til why, Fine a key ser since til ∧ t.t0 = a.D ∧ t.t1 = .int (key : Nat) ∧ t.t2 = .int (ser : Nat) ∧ t.t5 = .int (since : Nat) ∧ t.t6 = .int (til : Nat) ∧ (w = true → t.t3 = .int 5 ∧ t.t4 = .str (tx why) ∧ why ∈ whys) := by
  unfold Told.bad at hb
  cases h0 : tupB t.t0 1 4 with
  | false => rw [h0] at hb; simp at hb
  | true =>
    rw [h0] at hb
    rcases ok.n with ⟨a, oa, ea⟩ | hn
    · cases h1 : wholeB t.t1 0 4294967295 with
      | false => rw [h1] at hb; simp at hb
      | true =>
        cases h2 : wholeB t.t2 0 1000000 with
        | false => rw [h1, h2] at hb; simp at hb
        | true =>
          rw [h1, h2] at hb
          have h5 : wholeB t.t5 0 1000000000 = true ∧ wholeB t.t6 (asI t.t5) 1000000000 = true := by
            cases q5 : wholeB t.t5 0 1000000000 <;> cases q6 : wholeB t.t6 (asI t.t5) 1000000000 <;> rw [q5, q6] at hb <;> simp at hb <;> first | (simp; done) | (exfalso; split at hb <;> first | (cases hb; done) | (split at hb <;> cases hb))
          have hw : w = true → wholeB t.t3 0 1000000000 = true ∧ goodR t.t4 = true := by
            intro hw
            subst hw
            cases q3 : wholeB t.t3 0 1000000000 <;> cases q4 : goodR t.t4 <;> rw [q3, q4] at hb <;> simp at hb <;> simp
          obtain ⟨k, ek, k1, k2⟩ := wholeB_true h1
          obtain ⟨s, es, s1, s2⟩ := wholeB_true h2
          obtain ⟨b, eb, b1, b2⟩ := wholeB_true h5.1
          obtain ⟨v, ev, v1, v2⟩ := wholeB_true h5.2
          rw [eb] at v1
          have v3 : b ≤ v := v1
          obtain ⟨k, rfl⟩ := Int.eq_ofNat_of_zero_le k1
          obtain ⟨s, rfl⟩ := Int.eq_ofNat_of_zero_le s1
          obtain ⟨b, rfl⟩ := Int.eq_ofNat_of_zero_le b1
          obtain ⟨v, rfl⟩ := Int.eq_ofNat_of_zero_le (Int.le_trans b1 v3)
          have f : Fine a k s b v := ⟨oa, by omega, by omega, by omega, by omega⟩
          cases w with
          | false => exact ⟨a, k, s, b, v, [], f, ea, ek, es, eb, ev, fun h => by simp at h⟩
          | true =>
            obtain ⟨w3, w4⟩ := hw rfl
            obtain ⟨why, hwhy, e4⟩ := ok.r4 w4
            exact ⟨a, k, s, b, v, why, f, ea, ek, es, eb, ev, fun _ => ⟨ok.w3 w3, e4, hwhy⟩⟩
    · rw [hn] at h0; simp at h0
def exD (x : Xc) : PyData := .tuple [.str x.st, .int 0]
section
variable {n : Nat} {c ls : List PyData} {os : List Ow} {u : Nat} {x3 : MO} {Z : List MO}
def E_cw : E := .tup (.cons (.k (.str (⟨#[116, 101, 120, 116]⟩ : Str))) (.cons (.meth .d_withdraw (.v 0) (.cons (.ix (.v 2) (.k (.int 0))) (.cons (.ix (.v 2) (.k (.int 1))) (.cons (.ix (.v 2) (.k (.int 2))) (.cons (.ix (.v 2) (.k (.int 3))) (.cons (.ix (.v 2) (.k (.int 4))) (.cons (.ix (.v 2) (.k (.int 5))) (.cons (.ix (.v 2) (.k (.int 6))) .nil)))))))) .nil))
def E_cg : E := .tup (.cons (.k (.str (⟨#[116, 101, 120, 116]⟩ : Str))) (.cons (.meth .d_give_back (.v 0) (.cons (.ix (.v 2) (.k (.int 0))) (.cons (.ix (.v 2) (.k (.int 1))) (.cons (.ix (.v 2) (.k (.int 2))) (.cons (.ix (.v 2) (.k (.int 5))) (.cons (.ix (.v 2) (.k (.int 6))) .nil)))))) .nil))
theorem ir_lcall : ir_l_call = ⟨3, 0, (.cons (.try_ (.cons (.ite (.v 1) (.cons (.ret E_cw) .nil) .nil) (.cons (.ret E_cg) .nil)) [(.name, (.tuple [(.str (⟨#[110, 97, 109, 101]⟩ : Str)), (.int 0)])), (.number, (.tuple [(.str (⟨#[110, 117, 109, 98, 101, 114]⟩ : Str)), (.int 0)])), (.word, (.tuple [(.str (⟨#[119, 111, 114, 100]⟩ : Str)), (.int 0)])), (.isThere, (.tuple [(.str (⟨#[73, 115, 84, 104, 101, 114, 101]⟩ : Str)), (.int 0)])), (.notThere, (.tuple [(.str (⟨#[78, 111, 116, 84, 104, 101, 114, 101]⟩ : Str)), (.int 0)]))]) .nil), false⟩ := rfl
theorem call_ex {Φ : Env} {M : Sto} {w : Bool} {t : Told} {x : Xc} {M2 : Sto} (h : evE Φ (if w then E_cw else E_cg) [some (.o 1), some (.d (.bool w)), some (.d t.D)] M = .ex x M2) : runB Φ ir_l_call [.o 1, .d (.bool w), .d t.D] M = .ok (.d (exD x)) M2 := by
  rw [ir_lcall]
  cases w <;> simp at h <;> cases x <;> simp [runB, exSs, exS, evE, R.bind, R.to, F.bind, h, List.lookup, exD, Xc.st] <;> rfl
theorem call_ok {Φ : Env} {M : Sto} {w : Bool} {t : Told} {v : Val} {M2 : Sto} (h : evE Φ (if w then E_cw else E_cg) [some (.o 1), some (.d (.bool w)), some (.d t.D)] M = .ok v M2) : runB Φ ir_l_call [.o 1, .d (.bool w), .d t.D] M = .ok v M2 := by
  rw [ir_lcall]
  cases w <;> simp at h <;> simp [runB, exSs, exS, evE, R.bind, R.to, F.bind, h]
theorem ev_cw {t : Told} {r : R Val} (h : call (n + 9) .d_withdraw [.o 1, .d t.t0, .d t.t1, .d t.t2, .d t.t3, .d t.t4, .d t.t5, .d t.t6] (St c os u x3 ls Z) = r) : evE (call (n + 9)) E_cw [some (.o 1), some (.d (.bool true)), some (.d t.D)] (St c os u x3 ls Z) = r.bind fun v M => match v with
    | .d d => .ok (.d (.tuple [.str (⟨#[116, 101, 120, 116]⟩ : Str), d])) M
    | .o _ => .no := by
  have at1 : (St c os u x3 ls Z)[1]? = some (deskO os u) := rfl
  unfold deskO at at1
  have l2 : 2 ≤ lim := by decide
  have i0 : ixD t.D (.int 0) = some t.t0 := rfl
  have i1 : ixD t.D (.int 1) = some t.t1 := rfl
  have i2 : ixD t.D (.int 2) = some t.t2 := rfl
  have i3 : ixD t.D (.int 3) = some t.t3 := rfl
  have i4 : ixD t.D (.int 4) = some t.t4 := rfl
  have i5 : ixD t.D (.int 5) = some t.t5 := rfl
  have i6 : ixD t.D (.int 6) = some t.t6 := rfl
  generalize St c os u x3 ls Z = M at *
  simp only [E_cw, evE, evEs, R.bind, R.of, toD, at1, i0, i1, i2, i3, i4, i5, i6, Option.map, List.getElem?_cons_zero, List.getElem?_cons_succ, Fn.cls, if_true, h]
  cases r with
  | no => rfl
  | ex x M => rfl
  | ok v M =>
    cases v with
    | d x => simp [asDs, l2]
    | o k => simp [asDs]
theorem ev_cg {t : Told} {r : R Val} (h : call (n + 9) .d_give_back [.o 1, .d t.t0, .d t.t1, .d t.t2, .d t.t5, .d t.t6] (St c os u x3 ls Z) = r) : evE (call (n + 9)) E_cg [some (.o 1), some (.d (.bool false)), some (.d t.D)] (St c os u x3 ls Z) = r.bind fun v M => match v with
    | .d d => .ok (.d (.tuple [.str (⟨#[116, 101, 120, 116]⟩ : Str), d])) M
    | .o _ => .no := by
  have at1 : (St c os u x3 ls Z)[1]? = some (deskO os u) := rfl
  unfold deskO at at1
  have l2 : 2 ≤ lim := by decide
  have i0 : ixD t.D (.int 0) = some t.t0 := rfl
  have i1 : ixD t.D (.int 1) = some t.t1 := rfl
  have i2 : ixD t.D (.int 2) = some t.t2 := rfl
  have i5 : ixD t.D (.int 5) = some t.t5 := rfl
  have i6 : ixD t.D (.int 6) = some t.t6 := rfl
  generalize St c os u x3 ls Z = M at *
  simp only [E_cg, evE, evEs, R.bind, R.of, toD, at1, i0, i1, i2, i5, i6, Option.map, List.getElem?_cons_zero, List.getElem?_cons_succ, Fn.cls, if_true, h]
  cases r with
  | no => rfl
  | ex x M => rfl
  | ok v M =>
    cases v with
    | d x => simp [asDs, l2]
    | o k => simp [asDs]
theorem c_call_bad {t : Told} {w : Bool} {x : Xc} (ok : t.Ok) (hb : t.bad w = some x) : call (n + 10) .l_call [.o 1, .d (.bool w), .d t.D] (St c os u x3 ls Z) = .ok (.d (exD x)) (St c os u x3 ls Z) := by
  show runB (call (n + 9)) ir_l_call _ _ = _
  refine call_ex ?_
  cases w with
  | true => exact ev_cw (c_withdraw_bad ok hb)
  | false => exact ev_cg (c_give_bad ok hb)
theorem c_call {t : Told} {w : Bool} {k key ser since til : Nat} {a : Nm} {why : List Nat} {m : Option Ow} (hk : k ≤ 7) (f : Fine a key ser since til) (e0 : t.t0 = a.D) (e1 : t.t1 = .int key) (e2 : t.t2 = .int ser) (e5 : t.t5 = .int since) (e6 : t.t6 = .int til)
    (ew : w = true → t.t3 = .int 5 ∧ t.t4 = .str (tx why) ∧ why ∈ whys) (h : ∀ o ∈ os, Gd (k + 1) o) (hl : os.length < 12) (hm : NwO os a key m) :
    call (n + 10) .l_call [.o 1, .d (.bool w), .d t.D] (St c os u x3 ls Z) = match actn w (entsO m) ser why with
      | .inl x => .ok (.d (exD x)) (St c os u x3 ls Z)
      | .inr e => .ok (.d (.tuple [.str (⟨#[116, 101, 120, 116]⟩ : Str), newT (mkO a key m since til e)])) (St c (os ++ [mkO a key m since til e]) (Z.length + 5) x3 ls (Z ++ [.lst []])) := by
  show runB (call (n + 9)) ir_l_call _ _ = _
  unfold actn
  cases w with
  | true =>
    obtain ⟨e3, e4, hw⟩ := ew rfl
    have z := c_withdraw (n := n) (c := c) (ls := ls) (u := u) (x3 := x3) (Z := Z) hk f hw h hl hm
    rw [← e0, ← e1, ← e2, ← e3, ← e4, ← e5, ← e6] at z
    have y := ev_cw z
    cases q : (entsO m).any fun e => decide (e.ser = ser) with
    | true =>
      rw [q] at y
      exact call_ex (w := true) y
    | false =>
      rw [q] at y
      exact call_ok (w := true) y
  | false =>
    have z := c_give (n := n) (c := c) (ls := ls) (u := u) (x3 := x3) (Z := Z) (ser := ser) hk f h hl hm
    rw [← e0, ← e1, ← e2, ← e5, ← e6] at z
    have y := ev_cg z
    cases q : (entsO m).all (keepE ser) with
    | true =>
      rw [q] at y
      exact call_ex (w := false) y
    | false =>
      rw [q] at y
      exact call_ok (w := false) y
end
end K75

set_option Elab.async false
set_option linter.all false
set_option autoImplicit false
set_option maxRecDepth 100000
set_option maxHeartbeats 4000000
/-! Mathematics, part 34: the cup; lists drawn. -/
namespace K75
open PySem PySem.W
def Cup (c : List PyData) : Prop := ∃ a b : Int, c = [.int a, .int b]
section
variable {n : Nat}
theorem c_l_cup (ns : List Int) (hl : ns.length ≤ 1000) : ∃ c, Cup c ∧ call (n + 1) .l_cup [.d (.list (ns.map .int))] [] = .ok (.o 0) [.lst c] := by
  have one : ∃ i : Int, (ns.map PyData.int ++ [.int 0])[0]? = some (.int i) := by
    cases ns with
    | nil => exact ⟨0, rfl⟩
    | cons j r => exact ⟨j, rfl⟩
  obtain ⟨i, hi⟩ := one
  generalize hv : (if i < 0 then -i else i : Int) = v
  refine ⟨[.int (if (10 : Int) ^ 18 ≤ v then v / 71 else 0), .int ((v * 281 + 2683) % 2077503161 + 167)], ⟨_, _, rfl⟩, ?_⟩
  show runB (call n) ir_l_cup _ _ = _
  have l1 : (ns.map PyData.int).length + 1 ≤ lim := by simp; unfold lim; omega
  have l2 : 2 ≤ lim := by decide
  have bin : binD .add (.list (ns.map .int)) (.list [.int 0]) = some (.list (ns.map .int ++ [.int 0])) := by
    have : binD .add (.list (ns.map .int)) (.list [.int 0]) = if (ns.map PyData.int).length + 1 ≤ lim then some (.list (ns.map .int ++ [.int 0])) else none := rfl
    rw [this, if_pos l1]
  have ix : ixD (.list (ns.map .int ++ [.int 0])) (.int 0) = some (.int i) := by
    have : ixD (.list (ns.map .int ++ [.int 0])) (.int 0) = (ns.map PyData.int ++ [.int 0])[0]? := rfl
    rw [this, hi]
  have ab : biD .abs [.int i] = some (.int v) := by rw [← hv]; rfl
  have ls : ∀ d, biD .list [.list d] = some (.list d) := fun d => rfl
  have int : ∀ j, biD .int [.int j] = some (.int j) := fun d => rfl
  have mul : binD .mul (.int v) (.int 281) = some (.int (v * 281)) := by simp [binD]
  have pw : binD .pow (.int 10) (.int 18) = some (.int (10 ^ 18)) := by decide +kernel
  have fd : binD .fdiv (.int v) (.int 71) = some (.int (v / 71)) := by simp [binD]
  have ad : ∀ i j : Int, binD .add (.int i) (.int j) = some (.int (i + j)) := fun _ _ => rfl
  have md : ∀ i : Int, binD .mod (.int i) (.int 2077503161) = some (.int (i % 2077503161)) := fun i => by simp [binD]
  have ge : cmpD .ge (.int v) (.int (10 ^ 18)) = some (decide ((10 : Int) ^ 18 ≤ v)) := rfl
  have l1' : (1 : Nat) ≤ lim := by decide
  by_cases q : (10 : Int) ^ 18 ≤ v
  · rw [if_pos q]
    rw [decide_eq_true q] at ge
    simp only [ir_l_cup, runB, exSs, exS, evE, evEs, List.length_cons, List.length_nil, List.map_cons, List.map_nil, List.replicate_succ, List.replicate_zero, List.cons_append, List.nil_append, if_true, List.getElem?_cons_zero, List.getElem?_cons_succ, R.bind, R.to, R.of, F.bind, toD, toDs, asDs, ls, bin, ix, ab, int, mul, pw, fd, ad, md, ge, Option.map, List.set, l1', l2, Nat.zero_add, Nat.reduceAdd, Bool.false_eq_true, if_false]
  · rw [if_neg q]
    rw [decide_eq_false q] at ge
    simp only [ir_l_cup, runB, exSs, exS, evE, evEs, List.length_cons, List.length_nil, List.map_cons, List.map_nil, List.replicate_succ, List.replicate_zero, List.cons_append, List.nil_append, if_true, List.getElem?_cons_zero, List.getElem?_cons_succ, R.bind, R.to, R.of, F.bind, toD, toDs, asDs, ls, bin, ix, ab, int, mul, pw, fd, ad, md, ge, Option.map, List.set, l1', l2, Nat.zero_add, Nat.reduceAdd, Bool.false_eq_true, if_false]
section
variable {c ls : List PyData} {os : List Ow} {u : Nat} {x3 : MO} {Z : List MO}
theorem c_l_roll (hc : Cup c) {m : Nat} (h1 : 0 < m) (h2 : m < 1000) : ∃ (r : Nat) (c' : List PyData), Cup c' ∧ r < m ∧ call (n + 1) .l_roll [.o 0, .d (.int m)] (St c os u x3 ls Z) = .ok (.d (.int r)) (St c' os u x3 ls Z) := by
  obtain ⟨a, b, rfl⟩ := hc
  have m0 : (0 : Int) < m := by omega
  have m2 : (m : Int) < 1073741824 := by omega
  have pick : ∀ i : Int, ∃ r : Nat, r < m ∧ i % (m : Int) = r := fun i => by
    have l1 := Int.emod_nonneg i (show (m : Int) ≠ 0 by omega)
    have l2 := Int.emod_lt_of_pos i m0
    exact ⟨(i % (m : Int)).toNat, by omega, by omega⟩
  by_cases q : 0 < a
  · obtain ⟨r, hr, e⟩ := pick a
    refine ⟨r, [.int (a / m), .int b], ⟨_, _, rfl⟩, hr, ?_⟩
    show runB (call n) ir_l_roll _ _ = _
    unfold St
    generalize deskO os u = D
    generalize MO.lst (doneD os) = D2
    simp [ir_l_roll, runB, exSs, exS, evE, evEs, R.bind, R.to, R.of, F.bind, toD, toDs, asDs, binD, cmpD, ixD, toSlD, fromSlD, biD, isiD, dmD, tixD, noX, walked, seqD, boolsD, strsD, unpD, setAll, wipeG, pickD, stillE, List.lookup, fdb, Fn.cls, sh_int, sh_bool, sh_none, eqv_int, eqv_str, lim1, lim2, lim3, lim4, lim5, lim6, lim7, lim8, lim9, lim10, lim11, lim12, q, h1, m0, m2, e]
  · generalize hb : (b * 31051 + 7993) % 2147483543 = b2
    have b0 : 0 ≤ b2 := by rw [← hb]; exact Int.emod_nonneg _ (by decide)
    have b1 : b2 < 2147483543 := by rw [← hb]; exact Int.emod_lt_of_pos _ (by decide)
    have c1 : -18446744073709551616 < b2 := by omega
    have c2 : b2 < 18446744073709551616 := by omega
    obtain ⟨r, hr, e⟩ := pick (b2 * (b2 + 233) % 2147483587 / 823)
    refine ⟨r, [.int a, .int b2], ⟨_, _, rfl⟩, hr, ?_⟩
    show runB (call n) ir_l_roll _ _ = _
    unfold St
    generalize deskO os u = D
    generalize MO.lst (doneD os) = D2
    simp [ir_l_roll, runB, exSs, exS, evE, evEs, R.bind, R.to, R.of, F.bind, toD, toDs, asDs, binD, cmpD, ixD, toSlD, fromSlD, biD, isiD, dmD, tixD, noX, walked, seqD, boolsD, strsD, unpD, setAll, wipeG, pickD, stillE, List.lookup, fdb, Fn.cls, sh_int, sh_bool, sh_none, eqv_int, eqv_str, lim1, lim2, lim3, lim4, lim5, lim6, lim7, lim8, lim9, lim10, lim11, lim12, q, h1, m0, m2, hb, c1, c2, e]
theorem c_l_some (hc : Cup c) {xs : List PyData} (h1 : 0 < xs.length) (h2 : xs.length < 1000) : ∃ (x : PyData) (c' : List PyData), Cup c' ∧ x ∈ xs ∧ call (n + 2) .l_some [.o 0, .d (.list xs)] (St c os u x3 ls Z) = .ok (.d x) (St c' os u x3 ls Z) := by
  obtain ⟨r, c', hc', hr, e⟩ := c_l_roll (n := n) (os := os) (u := u) (x3 := x3) (ls := ls) (Z := Z) hc h1 h2
  refine ⟨xs[r], c', hc', List.getElem_mem hr, ?_⟩
  show runB (call (n + 1)) ir_l_some _ _ = _
  have ix : ixD (.list xs) (.int r) = some xs[r] := by
    have : ixD (.list xs) (.int r) = if (0 : Int) ≤ r then xs[(r : Int).toNat]? else none := rfl
    rw [this, if_pos (by omega), Int.toNat_natCast, List.getElem?_eq_getElem hr]
  have ln : biD .len [.list xs] = some (.int xs.length) := rfl
  generalize xs[r] = x at *
  generalize St c os u x3 ls Z = M at *
  generalize St c' os u x3 ls Z = M2 at *
  simp [ir_l_some, runB, exSs, exS, evE, evEs, R.bind, R.to, R.of, F.bind, toD, toDs, ln, e, ix]
end
end
end K75

set_option Elab.async false
set_option linter.all false
set_option autoImplicit false
set_option maxRecDepth 100000
set_option maxHeartbeats 4000000
/-! Mathematics, part 35: a list is drawn. -/
namespace K75
open PySem PySem.W
def nmR : Nm := ⟨([114] : List Nat), []⟩
def nmA : Nm := ⟨([114] : List Nat), [([97] : List Nat)]⟩
theorem nmTwo : ∀ d ∈ [nmR.D, nmA.D], ∃ a : Nm, a.Ok ∧ d = a.D := by
  intro d hd
  have wo1 : Wo ([114] : List Nat) := ⟨by decide, by decide, by decide⟩
  have wo2 : Wo ([97] : List Nat) := ⟨by decide, by decide, by decide⟩
  simp only [List.mem_cons, List.not_mem_nil, or_false] at hd
  rcases hd with e | e
  · refine ⟨nmR, ⟨by decide, fun v hv => ?_⟩, e⟩
    have : v = ([114] : List Nat) := by simpa [nmR] using hv
    rw [this]; exact wo1
  · refine ⟨nmA, ⟨by decide, fun v hv => ?_⟩, e⟩
    have : v = ([114] : List Nat) ∨ v = ([97] : List Nat) := by simpa [nmA] using hv
    rcases this with z | z <;> rw [z] <;> assumption
def E_names : E := .lst (.cons (.tup (.cons (.k (.str (⟨#[114]⟩ : Str))) .nil)) (.cons (.tup (.cons (.k (.str (⟨#[114]⟩ : Str))) (.cons (.k (.str (⟨#[97]⟩ : Str))) .nil))) .nil))
def E_bases : E := .lst (.cons (.neg 1) (.cons (.neg 1) (.cons (.neg 1) (.cons (.k (.int 0)) .nil))))
def E_scs : E := .lst (.cons (.tup (.cons (.k (.str (⟨#[97, 108, 108]⟩ : Str))) (.cons (.k (.bool false)) (.cons (.tup .nil) .nil)))) (.cons (.tup (.cons (.k (.str (⟨#[97, 108, 108]⟩ : Str))) (.cons (.k (.bool false)) (.cons (.tup .nil) .nil)))) (.cons (.tup (.cons (.k (.str (⟨#[104, 101, 97, 100, 115]⟩ : Str))) (.cons (.k (.bool false)) (.cons (.tup .nil) .nil)))) (.cons (.tup (.cons (.k (.str (⟨#[97, 108, 108]⟩ : Str))) (.cons (.k (.bool true)) (.cons (.tup .nil) .nil)))) (.cons (.tup (.cons (.k (.str (⟨#[97, 108, 108]⟩ : Str))) (.cons (.k (.bool false)) (.cons (.tup (.cons (.k (.str (⟨#[104, 111, 108, 100]⟩ : Str))) (.cons (.k (.str (⟨#[107, 101, 121]⟩ : Str))) .nil))) .nil)))) .nil)))))
def scs : List Sc := [⟨([97, 108, 108] : List Nat), false, []⟩, ⟨([97, 108, 108] : List Nat), false, []⟩, ⟨([104, 101, 97, 100, 115] : List Nat), false, []⟩, ⟨([97, 108, 108] : List Nat), true, []⟩, ⟨([97, 108, 108] : List Nat), false, [([104, 111, 108, 100] : List Nat), ([107, 101, 121] : List Nat)]⟩]
def E_two (a b : PyData) : E := .lst (.cons (.k a) (.cons (.k b) .nil))
def E_three (a b c : PyData) : E := .lst (.cons (.k a) (.cons (.k b) (.cons (.k c) .nil)))
def E_four (a b c d : PyData) : E := .lst (.cons (.k a) (.cons (.k b) (.cons (.k c) (.cons (.k d) .nil))))
section
variable {Φ : Env} {G : Loc} {M : Sto}
theorem ev_names : evE Φ E_names G M = .ok (.d (.list [nmR.D, nmA.D])) M := by
  have l1 : 1 ≤ lim := by decide
  have l2 : 2 ≤ lim := by decide
  simp [E_names, evE, evEs, R.bind, asDs, l1, l2, nmR, nmA, Nm.D]
theorem ev_bases : evE Φ E_bases G M = .ok (.d (.list [.int (-1), .int (-1), .int (-1), .int 0])) M := by
  have l4 : 4 ≤ lim := by decide
  simp [E_bases, evE, evEs, R.bind, asDs, l4]
theorem ev_scs : evE Φ E_scs G M = .ok (.d (.list (scs.map Sc.D))) M := by
  have l2 : 2 ≤ lim := by decide
  have l3 : 3 ≤ lim := by decide
  have l5 : 5 ≤ lim := by decide
  simp [E_scs, evE, evEs, R.bind, asDs, l2, l3, l5, scs, Sc.D]
theorem ev_two {a b : PyData} : evE Φ (E_two a b) G M = .ok (.d (.list [a, b])) M := by
  have l2 : 2 ≤ lim := by decide
  simp [E_two, evE, evEs, R.bind, asDs, l2]
theorem ev_three {a b c : PyData} : evE Φ (E_three a b c) G M = .ok (.d (.list [a, b, c])) M := by
  have l2 : 3 ≤ lim := by decide
  simp [E_three, evE, evEs, R.bind, asDs, l2]
theorem ev_four {a b c d : PyData} : evE Φ (E_four a b c d) G M = .ok (.d (.list [a, b, c, d])) M := by
  have l2 : 4 ≤ lim := by decide
  simp [E_four, evE, evEs, R.bind, asDs, l2]
end
section
variable {n : Nat} {c ls : List PyData} {os : List Ow} {u : Nat} {x3 : MO} {Z : List MO} {G : Loc}
def some_ (i : Nat) (L : E) : E := .call .l_some (.cons (.v i) (.cons L .nil))
def roll_ (i m : Nat) : E := .call .l_roll (.cons (.v i) (.cons (.k (.int m)) .nil))
theorem ev_some (hc : Cup c) {i : Nat} {L : E} {xs : List PyData} (hG : G[i]? = some (some (.o 0))) (hL : ∀ M, evE (call (n + 2)) L G M = .ok (.d (.list xs)) M) (h1 : 0 < xs.length) (h2 : xs.length < 1000) :
    ∃ (x : PyData) (c' : List PyData), Cup c' ∧ x ∈ xs ∧ evE (call (n + 2)) (some_ i L) G (St c os u x3 ls Z) = .ok (.d x) (St c' os u x3 ls Z) := by
  obtain ⟨x, c', hc', hx, e⟩ := c_l_some (n := n) (os := os) (u := u) (x3 := x3) (ls := ls) (Z := Z) hc h1 h2
  exact ⟨x, c', hc', hx, by unfold some_; simp [evE, evEs, R.bind, hG, hL, e]⟩
theorem ev_roll (hc : Cup c) {i m : Nat} (hG : G[i]? = some (some (.o 0))) (h1 : 0 < m) (h2 : m < 1000) :
    ∃ (r : Nat) (c' : List PyData), Cup c' ∧ r < m ∧ evE (call (n + 1)) (roll_ i m) G (St c os u x3 ls Z) = .ok (.d (.int r)) (St c' os u x3 ls Z) := by
  obtain ⟨x, c', hc', hx, e⟩ := c_l_roll (n := n) (os := os) (u := u) (x3 := x3) (ls := ls) (Z := Z) hc h1 h2
  exact ⟨x, c', hc', hx, by unfold roll_; simp [evE, evEs, R.bind, hG, e]⟩
def X_c : E := .cmp .eq (roll_ 0 2) (.k (.int 0))
def X_e : E := .tup (.cons (.v 1) (.cons (.v 5) (.cons (.k (.int 5)) (.cons (some_ 0 (E_three (.str (⟨#[104, 111, 108, 100]⟩ : Str)) (.str (⟨#[104, 111, 108, 100]⟩ : Str)) (.str (⟨#[107, 101, 121]⟩ : Str)))) .nil))))
def A_ls : E := .compIf 5 (.tup (.cons (.k (.int 1)) (.cons (.k (.int 2)) (.cons (.k (.int 7)) .nil)))) X_c X_e
theorem ir_llisted : ir_l_listed = ⟨1, 5, (.cons (.unp [1, 2] (.tup (.cons (some_ 0 E_names) (.cons (some_ 0 E_bases) .nil))))
    (.cons (.set 3 (some_ 0 E_scs))
    (.cons (.set 4 (.bi .tuple (.cons A_ls .nil)))
    (.cons (.ret (.tup (.cons (.v 1) (.cons (some_ 0 (E_two (.int 11) (.int 12))) (.cons (some_ 0 (E_four (.int 1) (.int 2) (.int 2) (.int 999))) (.cons (.v 2) (.cons (.k (.int 0)) (.cons (some_ 0 (E_two (.int 9) (.int 90))) (.cons (.v 3) (.cons (.v 4) (.cons (.k (.int 0)) .nil)))))))))))
    .nil)))), false⟩ := rfl
theorem listed_comp {a : Nm} {x2 x3' x4 : Option Val} : ∀ (xs : List Nat) (acc : List PyData) (c : List PyData), Cup c → acc.length + xs.length ≤ 100 →
    ∃ (l : List En) (c' : List PyData), Cup c' ∧ compL (fun x => some ((wipeG [some (.o 0), some (.d a.D), x2, x3', x4, none] [5]).set 5 (some (.d x)))) (stillE (.d (.tuple [.int 1, .int 2, .int 7])) fun G M => evE (call (n + 2)) X_c G M) (stillE (.d (.tuple [.int 1, .int 2, .int 7])) fun G M => evE (call (n + 2)) X_e G M) (xs.map fun (i : Nat) => .int (i : Int)) (St c os u x3 ls Z) acc = .ok (acc ++ l.map (En.D a)) (St c' os u x3 ls Z) ∧
      (l.map En.ser).Sublist xs ∧ ∀ e ∈ l, e.why ∈ [([104, 111, 108, 100] : List Nat), ([107, 101, 121] : List Nat)]
  | [], acc, c, hc, _ => ⟨[], c, hc, by simp [compL], List.Sublist.slnil, fun e he => by simp at he⟩
  | i :: r, acc, c, hc, hl => by
    rw [List.length_cons] at hl
    have G0 : ([some (.o 0), some (.d a.D), x2, x3', x4, some (.d (.int i))] : Loc)[0]? = some (some (.o 0)) := rfl
    obtain ⟨q, c1, hc1, _, e1⟩ := ev_roll (n := n + 1) (os := os) (u := u) (x3 := x3) (ls := ls) (Z := Z) (m := 2) hc G0 (by decide) (by decide)
    have cond : evE (call (n + 2)) X_c [some (.o 0), some (.d a.D), x2, x3', x4, some (.d (.int i))] (St c os u x3 ls Z) = .ok (.d (.bool (decide (q = 0)))) (St c1 os u x3 ls Z) := by
      have dd : decide ((q : Int) = 0) = decide (q = 0) := by simp
      unfold X_c
      rw [evE, e1]
      simp [R.bind, evE, toD, cmpD, sh_int, eqv_int, R.of, dd]
    by_cases hq : q = 0
    · obtain ⟨w, c2, hc2, hw, e2⟩ := ev_some (n := n) (os := os) (u := u) (x3 := x3) (ls := ls) (Z := Z) (L := E_three (.str (⟨#[104, 111, 108, 100]⟩ : Str)) (.str (⟨#[104, 111, 108, 100]⟩ : Str)) (.str (⟨#[107, 101, 121]⟩ : Str))) hc1 G0 (fun M => ev_three) (by decide) (by decide)
      have hw2 : ∃ v ∈ [([104, 111, 108, 100] : List Nat), ([107, 101, 121] : List Nat)], w = .str (tx v) := by
        simp only [List.mem_cons, List.not_mem_nil, or_false] at hw
        rcases hw with z | z | z
        · exact ⟨([104, 111, 108, 100] : List Nat), by simp, z⟩
        · exact ⟨([104, 111, 108, 100] : List Nat), by simp, z⟩
        · exact ⟨([107, 101, 121] : List Nat), by simp, z⟩
      obtain ⟨v, hv, rfl⟩ := hw2
      have elt : evE (call (n + 2)) X_e [some (.o 0), some (.d a.D), x2, x3', x4, some (.d (.int i))] (St c1 os u x3 ls Z) = .ok (.d (En.D a ⟨i, v⟩)) (St c2 os u x3 ls Z) := by
        have l4 : 4 ≤ lim := by decide
        simp [X_e, evE, evEs, R.bind, e2, asDs, l4, En.D]
      obtain ⟨l, c', hc', e3, hs, hx⟩ := listed_comp (a := a) (x2 := x2) (x3' := x3') (x4 := x4) r (acc ++ [En.D a ⟨i, v⟩]) c2 hc2 (by simp; omega)
      refine ⟨⟨i, v⟩ :: l, c', hc', ?_, ?_, ?_⟩
      · have la : acc.length < lim := by unfold lim; omega
        rw [List.map_cons]
        simp only [compL, wipeG, List.set, stillE, cond, hq, decide_true, R.bind, elt, la, if_true]
        simp only [wipeG, List.set, stillE] at e3
        rw [e3]
        simp
      · simpa using hs
      · intro e he
        rcases List.mem_cons.mp he with z | z
        · rw [z]; exact hv
        · exact hx e z
    · obtain ⟨l, c', hc', e3, hs, hx⟩ := listed_comp (a := a) (x2 := x2) (x3' := x3') (x4 := x4) r acc c1 hc1 (by omega)
      refine ⟨l, c', hc', ?_, hs.cons _, hx⟩
      rw [List.map_cons]
      simp only [compL, wipeG, List.set, stillE, cond, hq, decide_false, R.bind]
      simp only [wipeG, List.set, stillE] at e3
      rw [e3]
theorem c_l_listed (hc : Cup c) : ∃ (o : Ow) (c' : List PyData), Cup c' ∧ Gd 8 o ∧ call (n + 3) .l_listed [.o 0] (St c os u x3 ls Z) = .ok (.d o.D) (St c' os u x3 ls Z) := by
  have G0 : ∀ r, ((some (.o 0) :: r : Loc))[0]? = some (some (.o 0)) := fun r => rfl
  obtain ⟨d1, c1, hc1, m1, e1⟩ := ev_some (n := n) (os := os) (u := u) (x3 := x3) (ls := ls) (Z := Z) (L := E_names) hc (G0 [none, none, none, none, none]) (fun M => ev_names) (by decide) (by decide)
  obtain ⟨a, oa, rfl⟩ := nmTwo d1 m1
  obtain ⟨d2, c2, hc2, m2, e2⟩ := ev_some (n := n) (os := os) (u := u) (x3 := x3) (ls := ls) (Z := Z) (L := E_bases) hc1 (G0 [none, none, none, none, none]) (fun M => ev_bases) (by decide) (by decide)
  have b2 : ∃ w : Bool, d2 = .int (if w then -1 else 0) := by
    simp only [List.mem_cons, List.not_mem_nil, or_false] at m2
    rcases m2 with z | z | z | z
    · exact ⟨true, z⟩
    · exact ⟨true, z⟩
    · exact ⟨true, z⟩
    · exact ⟨false, z⟩
  obtain ⟨w, rfl⟩ := b2
  obtain ⟨d3, c3, hc3, m3, e3⟩ := ev_some (n := n) (os := os) (u := u) (x3 := x3) (ls := ls) (Z := Z) (L := E_scs) hc2 (G0 [some (.d a.D), some (.d (.int (if w then -1 else 0))), none, none, none]) (fun M => ev_scs) (by decide) (by decide)
  obtain ⟨sc, hsc, rfl⟩ := List.mem_map.mp m3
  obtain ⟨l, c4, hc4, e4, hs, hx⟩ := listed_comp (n := n) (os := os) (u := u) (x3 := x3) (ls := ls) (Z := Z) (a := a) (x2 := some (.d (.int (if w then -1 else 0)))) (x3' := some (.d sc.D)) (x4 := none) [1, 2, 7] [] c3 hc3 (by decide)
  have ec : evE (call (n + 2)) A_ls [some (.o 0), some (.d a.D), some (.d (.int (if w then -1 else 0))), some (.d sc.D), none, none] (St c3 os u x3 ls Z) = .ok (.d (.list (l.map (En.D a)))) (St c4 os u x3 ls Z) := by
    have l3 : 3 ≤ lim := by decide
    have it : ∀ G M, evE (call (n + 2)) (.tup (.cons (.k (.int 1)) (.cons (.k (.int 2)) (.cons (.k (.int 7)) .nil)))) G M = .ok (.d (.tuple [.int 1, .int 2, .int 7])) M := fun G M => by simp [evE, evEs, R.bind, asDs, l3]
    have wk : ∀ M, walked M (.d (.tuple [.int 1, .int 2, .int 7])) = some [.int 1, .int 2, .int 7] := fun M => rfl
    have mp : ([1, 2, 7] : List Nat).map (fun (i : Nat) => PyData.int (i : Int)) = [.int 1, .int 2, .int 7] := rfl
    rw [mp, List.nil_append] at e4
    unfold A_ls
    unfold evE
    simp only [it, R.bind, wk, e4, noX]
  obtain ⟨d5, c5, hc5, m5, e5⟩ := ev_some (n := n) (os := os) (u := u) (x3 := x3) (ls := ls) (Z := Z) (L := E_two (.int 11) (.int 12)) hc4 (G0 [some (.d a.D), some (.d (.int (if w then -1 else 0))), some (.d sc.D), some (.d (.tuple (l.map (En.D a)))), none]) (fun M => ev_two) (by decide) (by decide)
  have b5 : ∃ k : Nat, k ≤ 4294967295 ∧ d5 = .int k := by
    simp only [List.mem_cons, List.not_mem_nil, or_false] at m5
    rcases m5 with z | z
    · exact ⟨11, by decide, z⟩
    · exact ⟨12, by decide, z⟩
  obtain ⟨key, hkey, rfl⟩ := b5
  obtain ⟨d6, c6, hc6, m6, e6⟩ := ev_some (n := n) (os := os) (u := u) (x3 := x3) (ls := ls) (Z := Z) (L := E_four (.int 1) (.int 2) (.int 2) (.int 999)) hc5 (G0 [some (.d a.D), some (.d (.int (if w then -1 else 0))), some (.d sc.D), some (.d (.tuple (l.map (En.D a)))), none]) (fun M => ev_four) (by decide) (by decide)
  have b6 : ∃ k : Nat, 1 ≤ k ∧ k ≤ 999 ∧ d6 = .int k := by
    simp only [List.mem_cons, List.not_mem_nil, or_false] at m6
    rcases m6 with z | z | z | z
    · exact ⟨1, by decide, by decide, z⟩
    · exact ⟨2, by decide, by decide, z⟩
    · exact ⟨2, by decide, by decide, z⟩
    · exact ⟨999, by decide, by decide, z⟩
  obtain ⟨num, n1, n2, rfl⟩ := b6
  obtain ⟨d7, c7, hc7, m7, e7⟩ := ev_some (n := n) (os := os) (u := u) (x3 := x3) (ls := ls) (Z := Z) (L := E_two (.int 9) (.int 90)) hc6 (G0 [some (.d a.D), some (.d (.int (if w then -1 else 0))), some (.d sc.D), some (.d (.tuple (l.map (En.D a)))), none]) (fun M => ev_two) (by decide) (by decide)
  have b7 : ∃ k : Nat, k ≤ 1000000000 ∧ d7 = .int k := by
    simp only [List.mem_cons, List.not_mem_nil, or_false] at m7
    rcases m7 with z | z
    · exact ⟨9, by decide, z⟩
    · exact ⟨90, by decide, z⟩
  obtain ⟨til, htil, rfl⟩ := b7
  have sck : ∀ s ∈ scs, s.kind ∈ kinds ∧ s.lot.length ≤ 6 ∧ (∀ w ∈ s.lot, w ∈ whys) ∧ ∀ w ∈ [([104, 111, 108, 100] : List Nat), ([107, 101, 121] : List Nat)], s.lot = [] ∨ w ∈ s.lot := by decide
  have scup : ∀ s ∈ scs, ∀ q ∈ (s.lot.map fun w => PyData.str (tx w)).zip ((s.lot.map fun w => PyData.str (tx w)).drop 1), cmpD .lt q.1 q.2 = some true := by decide +kernel
  have hk2 : ∀ w ∈ [([104, 111, 108, 100] : List Nat), ([107, 101, 121] : List Nat)], w ∈ whys := by decide
  obtain ⟨s1, s2, s3, s4⟩ := sck sc hsc
  have p3 : ([1, 2, 7] : List Nat).Pairwise (· < ·) := by decide
  have pl : (l.map En.ser).Pairwise (· < ·) := p3.sublist hs
  rw [List.pairwise_map] at pl
  have ser : ∀ x ∈ l, x.ser ≤ 7 := fun x hx => by
    have : x.ser ∈ [1, 2, 7] := hs.subset (List.mem_map_of_mem hx)
    simp only [List.mem_cons, List.not_mem_nil, or_false] at this
    omega
  have len : l.length ≤ 3 := by
    have := hs.length_le
    simpa using this
  refine ⟨⟨a, key, num, w, 0, til, sc, l, 0⟩, c7, hc7, ⟨⟨oa, hkey, ?_, Nat.zero_le _, htil, s1, s2, s3, ?_, ?_, Nat.zero_le _⟩, scup sc hsc, ?_, Nat.zero_le _, ?_, pl, ?_, ?_⟩, ?_⟩
  · show num ≤ 1000000
    omega
  · show l.length ≤ 30
    omega
  · intro x hx'
    have := ser x hx'
    exact ⟨by omega, hk2 _ (hx x hx')⟩
  · show (if w then (-1 : Int) else 0) ≤ (num : Int) - 1
    cases w <;> simp <;> omega
  · intro x hx'
    exact s4 _ (hx x hx')
  · show l.length + 8 ≤ 11
    omega
  · show num + 8 ≤ 1007
    omega
  · show runB (call (n + 2)) ir_l_listed _ _ = _
    have eD : (Ow.mk a key num w 0 til sc l 0).D = .tuple [a.D, .int key, .int num, .int (if w then -1 else 0), .int 0, .int til, sc.D, .tuple (l.map (En.D a)), .int 0] := rfl
    rw [eD]
    have l2 : 2 ≤ lim := by decide
    have l9 : 9 ≤ lim := by decide
    have bt : ∀ q, biD .tuple [.list q] = some (.tuple q) := fun _ => rfl
    generalize (if w then (-1 : Int) else 0) = bs at *
    generalize St c os u x3 ls Z = M at *
    generalize St c1 os u x3 ls Z = M1 at *
    generalize St c2 os u x3 ls Z = M2 at *
    generalize St c3 os u x3 ls Z = M3 at *
    generalize St c4 os u x3 ls Z = M4 at *
    generalize St c5 os u x3 ls Z = M5 at *
    generalize St c6 os u x3 ls Z = M6 at *
    generalize St c7 os u x3 ls Z = M7 at *
    rw [ir_llisted]
    simp [runB, exSs, exS, evE, evEs, R.bind, R.to, R.of, F.bind, asDs, toDs, toD, unpD, setAll, e1, e2, e3, ec, e5, e6, e7, l2, l9, bt]
end
end K75

set_option Elab.async false
set_option linter.all false
set_option autoImplicit false
set_option maxRecDepth 100000
set_option maxHeartbeats 4000000
/-! Mathematics, part 36: the law's text in parts; its first loop. -/
namespace K75
open PySem PySem.W
def E_st : E := .call .l_same (.cons (.meth .d_store (.v 2) .nil) (.cons (.tup (.cons (.tup .nil) (.cons (.bi .tuple (.cons (.bi .sorted (.cons (.v 3) .nil)) .nil)) (.cons (.tup .nil) .nil)))) .nil))
def C_new : E := .cmp .notIn (.v 5) (.v 3)
def B_l1 : Ss := .cons (.set 5 (.call .l_listed (.cons (.v 1) .nil))) (.cons (.ite C_new (.cons (.ex (.meth .d_put (.v 2) (.cons (.call .l_list_text (.cons (.v 5) .nil)) .nil))) (.cons (.app (.v 3) (.v 5)) .nil)) .nil) .nil)
def E_reas : E := .lst (.cons (.k (.str (⟨#[104, 111, 108, 100]⟩ : Str))) (.cons (.k (.str (⟨#[104, 111, 108, 100]⟩ : Str))) (.cons (.k (.str (⟨#[107, 101, 121]⟩ : Str))) (.cons (.k (.str (⟨#[104, 101, 97, 100]⟩ : Str))) (.cons (.k (.str (⟨#[99, 101, 97, 115, 101, 100]⟩ : Str))) .nil)))))
def E_till : E := .lst (.cons (.v 7) (.cons (.k (.int 1000000000)) .nil))
def E_told : E := .tup (.cons (some_ 1 E_names) (.cons (some_ 1 (E_two (.int 11) (.int 12))) (.cons (some_ 1 (E_four (.int 1) (.int 2) (.int 3) (.int 7))) (.cons (.k (.int 5)) (.cons (.v 8) (.cons (.v 7) (.cons (.v 9) .nil)))))))
def E_odds : E := .lst (.cons (.k .none) (.cons (.neg 1) (.cons (.k (.bool true)) (.cons (.k (.str (⟨#[98, 97, 99, 107]⟩ : Str))) (.cons (.tup .nil) (.cons (.bin .mul (.tup (.cons (.k (.str (⟨#[97]⟩ : Str))) .nil)) (.k (.int 5))) (.cons (.bin .pow (.k (.int 10)) (.k (.int 12))) .nil)))))))
def E_utl : E := .lst (.cons (.neg 1) (.cons (.k .none) (.cons (.bin .pow (.k (.int 10)) (.k (.int 12))) .nil)))
def E_put : E := .bin .add (.bin .add (.slTo (.v 10) (.v 11)) (.tup (.cons (.v 12) .nil))) (.slFrom (.v 10) (.bin .add (.v 11) (.k (.int 1))))
def E_put6 : E := .bin .add (.slTo (.v 10) (.k (.int 6))) (.tup (.cons (some_ 1 E_utl) .nil))
def B_odd : Ss := .cons (.set 11 (roll_ 1 7)) (.cons (.set 12 (some_ 1 E_odds)) (.cons (.set 10 E_put) (.cons (.ite (.cmp .eq (roll_ 1 2) (.k (.int 0))) (.cons (.set 10 E_put6) .nil) .nil) .nil)))
def A_16 : E := .compIf 19 (.ix (.v 15) (.k (.int 7))) (.cmp .eq (.ix (.v 19) (.k (.int 1))) (.ix (.v 10) (.k (.int 2)))) (.v 19)
def A_17 : E := .compIf 19 (.ix (.v 15) (.k (.int 7))) (.cmp .ne (.ix (.v 19) (.k (.int 1))) (.ix (.v 10) (.k (.int 2)))) (.v 19)
def C_is : E := .and (.v 6) (.cmp .ne (.v 16) (.lst .nil))
def C_not : E := .and (.not (.v 6)) (.or (.cmp .eq (.v 16) (.lst .nil)) (.cmp .ne (.ix (.ix (.v 16) (.k (.int 0))) (.k (.int 3))) (.k (.str (⟨#[104, 111, 108, 100]⟩ : Str)))))
def E_18 : E := .bi .tuple (.cons (.bi .sorted (.cons (.bin .add (.v 17) (.ite (.v 6) (.lst (.cons (.tup (.cons (.ix (.v 10) (.k (.int 0))) (.cons (.ix (.v 10) (.k (.int 2))) (.cons (.ix (.v 10) (.k (.int 3))) (.cons (.ix (.v 10) (.k (.int 4))) .nil))))) .nil)) (.lst .nil))) .nil)) .nil)
def E_new : E := .call .l_sealed_list (.cons (.tup (.cons (.ix (.v 10) (.k (.int 0))) (.cons (.ix (.v 10) (.k (.int 1))) (.cons (.bin .add (.ix (.v 15) (.k (.int 2))) (.k (.int 1))) (.cons (.neg 1) (.cons (.ix (.v 10) (.k (.int 5))) (.cons (.ix (.v 10) (.k (.int 6))) (.cons (.tup (.cons (.k (.str (⟨#[97, 108, 108]⟩ : Str))) (.cons (.k (.bool false)) (.cons (.tup .nil) .nil)))) (.cons (.v 18) (.cons (.k (.int 0)) .nil)))))))))) .nil)
def B_new : Ss := .cons (.set 18 E_18) (.cons (.set 5 E_new) (.cons (.app (.v 3) (.v 5)) (.cons (.set 14 (.tup (.cons (.k (.str (⟨#[116, 101, 120, 116]⟩ : Str))) (.cons (.call .l_list_text (.cons (.v 5) .nil)) .nil)))) .nil)))
def B_good : Ss := .cons (.set 15 (.call .l_newest (.cons (.v 3) (.cons (.ix (.v 10) (.k (.int 0))) (.cons (.ix (.v 10) (.k (.int 1))) .nil))))) (.cons (.setC 16 A_16) (.cons (.setC 17 A_17)
  (.cons (.ite C_is (.cons (.set 14 (.tup (.cons (.k (.str (⟨#[73, 115, 84, 104, 101, 114, 101]⟩ : Str))) (.cons (.k (.int 0)) .nil)))) .nil) (.cons (.ite C_not (.cons (.set 14 (.tup (.cons (.k (.str (⟨#[78, 111, 116, 84, 104, 101, 114, 101]⟩ : Str))) (.cons (.k (.int 0)) .nil)))) .nil) B_new) .nil)) .nil)))
def C_bad : E := .or (.not (.call .l_same (.cons (.call .l_call (.cons (.v 2) (.cons (.v 6) (.cons (.v 10) .nil)))) (.cons (.v 14) .nil)))) (.not E_st)
def C_un : E := .and (.cmp .eq (.ix (.v 14) (.k (.int 0))) (.k (.str (⟨#[116, 101, 120, 116]⟩ : Str)))) (.cmp .eq (roll_ 1 4) (.k (.int 0)))
def B_un : Ss := .cons (.ite (.cmp .ne (.meth .d_undo (.v 2) .nil) (.tup (.cons (.k (.str (⟨#[112, 117, 116]⟩ : Str))) (.cons (.ix (.v 14) (.k (.int 1))) .nil)))) (.cons (.ret (.k (.bool false))) .nil) .nil) (.cons (.rem (.v 3) (.v 5)) .nil)
def B_end : Ss := .cons (.ite C_bad (.cons (.ret (.k (.bool false))) .nil) .nil) (.cons (.ite C_un B_un .nil) .nil)
def B_mid : Ss := .cons (.set 13 (.call .l_flaw (.cons (.v 6) (.cons (.v 10) .nil)))) (.cons (.set 14 (.tup (.cons (.v 13) (.cons (.k (.int 0)) .nil)))) (.cons (.ite (.cmp .eq (.v 13) (.k (.str (⟨#[]⟩ : Str)))) B_good .nil) B_end))
def B_l2 : Ss := .cons (.par 6 7 (.cmp .gt (roll_ 1 3) (.k (.int 0))) (some_ 1 (E_three (.int 0) (.int 100) (.int 1000000000)))) (.cons (.par 8 9 (some_ 1 E_reas) (some_ 1 E_till)) (.cons (.set 10 E_told) (.cons (.ite (.cmp .eq (roll_ 1 4) (.k (.int 0))) B_odd .nil) B_mid)))
theorem ir_law_is : ir_law = ⟨1, 19, (.cons (.set 1 (.call .l_cup (.cons (.v 0) .nil))) (.cons (.parN 2 3 (.mk .desk .nil)) (.cons (.forR 4 (roll_ 1 5) B_l1) (.cons (.forR 4 (.bin .add (.k (.int 1)) (roll_ 1 8)) B_l2)
  (.cons (.ret (.and E_st (.cmp .eq (.bi .len (.cons (.meth .d_deeds (.v 2) .nil) .nil)) (.bi .len (.cons (.v 3) .nil))))) .nil))))), false⟩ := rfl
/-! ### the slots -/
structure GB (G : Loc) : Prop where
  len : G.length = 20
  g1 : G[1]? = some (some (.o 0))
  g2 : G[2]? = some (some (.o 1))
  g3 : G[3]? = some (some (.o 4))
theorem GB.set {G : Loc} (g : GB G) {i : Nat} {x : Option Val} (h : i = 0 ∨ 4 ≤ i) : GB (G.set i x) := by
  refine ⟨by rw [List.length_set]; exact g.len, ?_, ?_, ?_⟩
  · rw [List.getElem?_set_ne (by omega)]; exact g.g1
  · rw [List.getElem?_set_ne (by omega)]; exact g.g2
  · rw [List.getElem?_set_ne (by omega)]; exact g.g3
theorem get_set {G : Loc} {i : Nat} {x : Option Val} (h : i < G.length) : (G.set i x)[i]? = some x := List.getElem?_set_self h
theorem get_ne {G : Loc} {i j : Nat} {x : Option Val} (h : i ≠ j) : (G.set i x)[j]? = G[j]? := List.getElem?_set_ne h
section
variable {n : Nat} {c ls : List PyData} {os : List Ow} {u : Nat} {x3 : MO} {Z : List MO} {G : Loc}
theorem l1_step (hG : GB G) (hc : Cup c) (h : ∀ o ∈ os, Gd 8 o) (hl : os.length < 4) :
    ∃ G' c' os' u' Z', GB G' ∧ Cup c' ∧ (∀ o ∈ os', Gd 8 o) ∧ os'.length ≤ os.length + 1 ∧ exSs (call (n + 13)) B_l1 G (St c os u x3 (os.map Ow.D) Z) = .nx G' (St c' os' u' x3 (os'.map Ow.D) Z') := by
  obtain ⟨o, c', hc', go, e⟩ := c_l_listed (n := n + 10) (os := os) (u := u) (x3 := x3) (ls := os.map Ow.D) (Z := Z) hc
  have hr : ∀ o ∈ os, o.Rd := fun o ho => (h o ho).rd
  have g5 : (G.set 5 (some (.d o.D)))[5]? = some (some (.d o.D)) := get_set (by rw [hG.len]; decide)
  have gb := hG.set (i := 5) (x := some (.d o.D)) (.inr (by decide))
  have s1 : exS (call (n + 13)) (.set 5 (.call .l_listed (.cons (.v 1) .nil))) G (St c os u x3 (os.map Ow.D) Z) = .nx (G.set 5 (some (.d o.D))) (St c' os u x3 (os.map Ow.D) Z) := by
    simp [exS, evE, evEs, R.bind, R.to, hG.g1, e]
  have sh1 := (dpt_D go.rd).sh (by decide)
  have sh2 := (dpt_list hr).sh (by decide)
  have i := hasIn_D (o := o) hr
  have at4 : ∀ os2 u2 ls2 Z2, (St c' os2 u2 x3 ls2 Z2)[4]? = some (.lst ls2) := fun _ _ _ _ => rfl
  have cn : evE (call (n + 13)) C_new (G.set 5 (some (.d o.D))) (St c' os u x3 (os.map Ow.D) Z) = .ok (.d (.bool (!decide (o.D ∈ os.map Ow.D)))) (St c' os u x3 (os.map Ow.D) Z) := by
    have e1 : cmpD .notIn o.D (.list (os.map Ow.D)) = some (!decide (o.D ∈ os.map Ow.D)) := by
      have : cmpD .notIn o.D (.list (os.map Ow.D)) = if SeqAt.shaped o.D && SeqAt.shaped (.list (os.map Ow.D)) then some (!hasIn o.D (os.map Ow.D)) else none := rfl
      rw [this, sh1, sh2, i]
      rfl
    have a4 := at4 os u (os.map Ow.D) Z
    generalize (os.map Ow.D) = L at *
    generalize St c' os u x3 L Z = M at *
    generalize G.set 5 (some (.d o.D)) = G5 at *
    generalize o.D = d at *
    simp [C_new, evE, R.bind, g5, gb.g3, toD, a4, e1, R.of]
  by_cases hin : o.D ∈ os.map Ow.D
  · refine ⟨G.set 5 (some (.d o.D)), c', os, u, Z, gb, hc', h, by omega, ?_⟩
    rw [decide_eq_true hin] at cn
    unfold B_l1
    rw [exSs, s1]
    simp [F.bind, exSs, exS, cn, R.to]
  · refine ⟨G.set 5 (some (.d o.D)), c', os ++ [o], Z.length + 5, Z ++ [.lst []], gb, hc', ?_, by simp, ?_⟩
    · intro p hp
      rcases List.mem_append.mp hp with z | z
      · exact h p z
      · have : p = o := by simpa using z
        rw [this]; exact go
    · rw [decide_eq_false hin] at cn
      have lt := c_l_list_text (n := n + 11) (M := St c' os u x3 (os.map Ow.D) Z) go.rd
      have pt := c_put (n := n + 1) (c := c') (ls := os.map Ow.D) (u := u) (x3 := x3) (Z := Z) hr go hin (by omega)
      have at1 : (St c' os u x3 (os.map Ow.D) Z)[1]? = some (deskO os u) := rfl
      unfold deskO at at1
      have a4 := at4 (os ++ [o]) (Z.length + 5) (os.map Ow.D) (Z ++ [.lst []])
      have ll : (os.map Ow.D).length < lim := by simp; unfold lim; omega
      have fin : (St c' (os ++ [o]) (Z.length + 5) x3 (os.map Ow.D) (Z ++ [.lst []])).set 4 (.lst (os.map Ow.D ++ [o.D])) = St c' (os ++ [o]) (Z.length + 5) x3 ((os ++ [o]).map Ow.D) (Z ++ [.lst []]) := by
        rw [List.map_append]
        rfl
      rw [← fin]
      unfold B_l1
      rw [exSs, s1]
      generalize (os.map Ow.D) = L at *
      generalize St c' os u x3 L Z = M at *
      generalize St c' (os ++ [o]) (Z.length + 5) x3 L (Z ++ [.lst []]) = M2 at *
      generalize G.set 5 (some (.d o.D)) = G5 at *
      generalize tx o.T = T at *
      generalize o.D = d at *
      simp [F.bind, exSs, exS, cn, R.to, evE, evEs, R.bind, gb.g2, gb.g3, g5, at1, Fn.cls, lt, pt, a4, ll]
/-- the first loop -/
theorem loop_one (hG : GB G) (hc : Cup c) {j : Nat} (hj : j ≤ 4) :
    ∃ G' c' os' u' Z', GB G' ∧ Cup c' ∧ (∀ o ∈ os', Gd 8 o) ∧ os'.length ≤ 4 ∧ forL (fun x G => some (G.set 4 (some (.d x)))) (fun G M => exSs (call (n + 13)) B_l1 G M) ((List.range j).map fun (j : Nat) => .int (j : Int)) G (St c [] u x3 [] Z) = .nx G' (St c' os' u' x3 (os'.map Ow.D) Z') := by
  obtain ⟨G2, M2, e, c', os', u', Z', h1, h2, h3, h4, h5⟩ := forL_inv (put := fun x G => some (G.set 4 (some (.d x)))) (b := fun G M => exSs (call (n + 13)) B_l1 G M)
    (P := fun xs G M => ∃ c' os' u' Z', GB G ∧ Cup c' ∧ (∀ o ∈ os', Gd 8 o) ∧ os'.length + xs.length ≤ 4 ∧ M = St c' os' u' x3 (os'.map Ow.D) Z')
    (fun x r G M ⟨c1, os1, u1, Z1, p1, p2, p3, p4, p5⟩ => by
      subst p5
      rw [List.length_cons] at p4
      obtain ⟨G', c', os', u', Z', q1, q2, q3, q4, q5⟩ := l1_step (n := n) (u := u1) (x3 := x3) (Z := Z1) (p1.set (i := 4) (x := some (.d x)) (.inr (by decide))) p2 p3 (by omega)
      exact ⟨_, _, _, rfl, q5, c', os', u', Z', q1, q2, q3, by omega, rfl⟩)
    (xs := (List.range j).map fun (j : Nat) => .int (j : Int)) (G := G) (M := St c [] u x3 [] Z) ⟨c, [], u, Z, hG, hc, fun o ho => by simp at ho, by simpa using hj, rfl⟩
  subst h5
  exact ⟨G2, c', os', u', Z', h1, h2, h3, by simpa using h4, e⟩
end
end K75

set_option Elab.async false
set_option linter.all false
set_option autoImplicit false
set_option maxRecDepth 100000
set_option maxHeartbeats 4000000
/-! Mathematics, part 37: what is told, drawn. -/
namespace K75
open PySem PySem.W
/-- an odd value -/
structure Odd (d : PyData) : Prop where
  n : tupB d 1 4 = false
  w : wholeB d 0 1000000000 = false
  r : goodR d = false
  s : SeqAt.shaped d = true
def odds : List PyData := [.none, .int (-1), .bool true, .str (⟨#[98, 97, 99, 107]⟩ : Str), .tuple [], .tuple [.str (⟨#[97]⟩ : Str), .str (⟨#[97]⟩ : Str), .str (⟨#[97]⟩ : Str), .str (⟨#[97]⟩ : Str), .str (⟨#[97]⟩ : Str)], .int 1000000000000]
theorem odds_odd : ∀ d ∈ odds, Odd d := by
  have h : ∀ d ∈ odds, (!tupB d 1 4 && (!wholeB d 0 1000000000 && (!goodR d && SeqAt.shaped d))) = true := by decide +kernel
  intro d hd
  have := h d hd
  simp only [Bool.and_eq_true, Bool.not_eq_true'] at this
  exact ⟨this.1, this.2.1, this.2.2.1, this.2.2.2⟩
def Told.put (t : Told) (i : Nat) (d : PyData) : Told := match i with
  | 0 => { t with t0 := d }
  | 1 => { t with t1 := d }
  | 2 => { t with t2 := d }
  | 3 => { t with t3 := d }
  | 4 => { t with t4 := d }
  | 5 => { t with t5 := d }
  | _ => { t with t6 := d }
theorem put_L (t : Told) (i : Nat) (d : PyData) (h : i < 7) : t.L.take i ++ [d] ++ t.L.drop (i + 1) = (t.put i d).L := by
  have : i = 0 ∨ i = 1 ∨ i = 2 ∨ i = 3 ∨ i = 4 ∨ i = 5 ∨ i = 6 := by omega
  rcases this with z | z | z | z | z | z | z <;> subst z <;> rfl
theorem put_ok {t : Told} (ok : t.Ok) {i : Nat} {d : PyData} (o : Odd d) (h : i < 7) : (t.put i d).Ok := by
  have : i = 0 ∨ i = 1 ∨ i = 2 ∨ i = 3 ∨ i = 4 ∨ i = 5 ∨ i = 6 := by omega
  rcases this with z | z | z | z | z | z | z <;> subst z
  · exact ⟨.inr o.n, ok.w3, ok.s4, ok.r4⟩
  · exact ⟨ok.n, ok.w3, ok.s4, ok.r4⟩
  · exact ⟨ok.n, ok.w3, ok.s4, ok.r4⟩
  · refine ⟨ok.n, fun q => ?_, ok.s4, ok.r4⟩
    have q2 : wholeB d 0 1000000000 = true := q
    rw [o.w] at q2
    simp at q2
  · refine ⟨ok.n, ok.w3, o.s, fun q => ?_⟩
    have q2 : goodR d = true := q
    rw [o.r] at q2
    simp at q2
  · exact ⟨ok.n, ok.w3, ok.s4, ok.r4⟩
  · exact ⟨ok.n, ok.w3, ok.s4, ok.r4⟩
theorem put6_ok {t : Told} (ok : t.Ok) {d : PyData} : (t.put 6 d).Ok := ⟨ok.n, ok.w3, ok.s4, ok.r4⟩
section
variable {Φ : Env} {G : Loc} {M : Sto}
theorem ev_reas : evE Φ E_reas G M = .ok (.d (.list [.str (⟨#[104, 111, 108, 100]⟩ : Str), .str (⟨#[104, 111, 108, 100]⟩ : Str), .str (⟨#[107, 101, 121]⟩ : Str), .str (⟨#[104, 101, 97, 100]⟩ : Str), .str (⟨#[99, 101, 97, 115, 101, 100]⟩ : Str)])) M := by
  have l5 : 5 ≤ lim := by decide
  simp [E_reas, evE, evEs, R.bind, asDs, l5]
theorem ev_till {d : PyData} (h : G[7]? = some (some (.d d))) : evE Φ E_till G M = .ok (.d (.list [d, .int 1000000000])) M := by
  have l5 : 2 ≤ lim := by decide
  simp [E_till, evE, evEs, R.bind, asDs, l5, h]
theorem pow12 : binD .pow (.int 10) (.int 12) = some (.int 1000000000000) := by decide +kernel
theorem ev_odds : evE Φ E_odds G M = .ok (.d (.list odds)) M := by
  have l7 : 7 ≤ lim := by decide
  have l1 : 1 ≤ lim := by decide
  have m : binD .mul (.tuple [.str (⟨#[97]⟩ : Str)]) (.int 5) = some (.tuple [.str (⟨#[97]⟩ : Str), .str (⟨#[97]⟩ : Str), .str (⟨#[97]⟩ : Str), .str (⟨#[97]⟩ : Str), .str (⟨#[97]⟩ : Str)]) := rfl
  simp [E_odds, evE, evEs, R.bind, R.of, toD, asDs, l7, l1, m, pow12, odds]
theorem ev_utl : evE Φ E_utl G M = .ok (.d (.list [.int (-1), .none, .int 1000000000000])) M := by
  have l3 : 3 ≤ lim := by decide
  simp [E_utl, evE, evEs, R.bind, R.of, toD, asDs, l3, pow12]
end
section
variable {n : Nat} {c ls : List PyData} {os : List Ow} {u : Nat} {x3 : MO} {Z : List MO} {G : Loc}
theorem told_draw (hG : GB G) (hc : Cup c) : ∃ G' c' w t, GB G' ∧ Cup c' ∧ G'[6]? = some (some (.d (.bool w))) ∧ G'[10]? = some (some (.d (Told.D t))) ∧ t.Ok ∧
    ∀ RR, exSs (call (n + 13)) (.cons (.par 6 7 (.cmp .gt (roll_ 1 3) (.k (.int 0))) (some_ 1 (E_three (.int 0) (.int 100) (.int 1000000000)))) (.cons (.par 8 9 (some_ 1 E_reas) (some_ 1 E_till)) (.cons (.set 10 E_told) RR))) G (St c os u x3 ls Z) = exSs (call (n + 13)) RR G' (St c' os u x3 ls Z) := by
  obtain ⟨r, c1, hc1, _, e1⟩ := ev_roll (n := n + 12) (os := os) (u := u) (x3 := x3) (ls := ls) (Z := Z) (m := 3) hc hG.g1 (by decide) (by decide)
  obtain ⟨d2, c2, hc2, m2, e2⟩ := ev_some (n := n + 11) (os := os) (u := u) (x3 := x3) (ls := ls) (Z := Z) (L := E_three (.int 0) (.int 100) (.int 1000000000)) hc1 hG.g1 (fun M => ev_three) (by decide) (by decide)
  have cg : evE (call (n + 13)) (.cmp .gt (roll_ 1 3) (.k (.int 0))) G (St c os u x3 ls Z) = .ok (.d (.bool (decide ((0 : Int) < r)))) (St c1 os u x3 ls Z) := by
    rw [evE, e1]
    simp [R.bind, evE, toD, cmpD, R.of]
  generalize hw : decide ((0 : Int) < r) = w at cg
  have gA := (hG.set (i := 6) (x := some (.d (.bool w))) (.inr (by decide))).set (i := 7) (x := some (.d d2)) (.inr (by decide))
  have a6 : ((G.set 6 (some (.d (.bool w)))).set 7 (some (.d d2)))[6]? = some (some (.d (.bool w))) := by
    rw [get_ne (by decide), get_set (by rw [hG.len]; decide)]
  have a7 : ((G.set 6 (some (.d (.bool w)))).set 7 (some (.d d2)))[7]? = some (some (.d d2)) := get_set (by rw [List.length_set, hG.len]; decide)
  have st1 : exS (call (n + 13)) (.par 6 7 (.cmp .gt (roll_ 1 3) (.k (.int 0))) (some_ 1 (E_three (.int 0) (.int 100) (.int 1000000000)))) G (St c os u x3 ls Z) = .nx ((G.set 6 (some (.d (.bool w)))).set 7 (some (.d d2))) (St c2 os u x3 ls Z) := by
    rw [exS, cg]
    simp [R.to, e2]
  generalize (G.set 6 (some (.d (.bool w)))).set 7 (some (.d d2)) = GA at *
  obtain ⟨d3, c3, hc3, m3, e3⟩ := ev_some (n := n + 11) (os := os) (u := u) (x3 := x3) (ls := ls) (Z := Z) (L := E_reas) hc2 gA.g1 (fun M => ev_reas) (by decide) (by decide)
  obtain ⟨d4, c4, hc4, m4, e4⟩ := ev_some (n := n + 11) (os := os) (u := u) (x3 := x3) (ls := ls) (Z := Z) (L := E_till) hc3 gA.g1 (fun M => ev_till a7) (by simp) (by simp)
  have gB := (gA.set (i := 8) (x := some (.d d3)) (.inr (by decide))).set (i := 9) (x := some (.d d4)) (.inr (by decide))
  have lA := gA.len
  have b6 : ((GA.set 8 (some (.d d3))).set 9 (some (.d d4)))[6]? = some (some (.d (.bool w))) := by
    rw [get_ne (by decide), get_ne (by decide)]; exact a6
  have b7 : ((GA.set 8 (some (.d d3))).set 9 (some (.d d4)))[7]? = some (some (.d d2)) := by
    rw [get_ne (by decide), get_ne (by decide)]; exact a7
  have b8 : ((GA.set 8 (some (.d d3))).set 9 (some (.d d4)))[8]? = some (some (.d d3)) := by
    rw [get_ne (by decide), get_set (by rw [lA]; decide)]
  have b9 : ((GA.set 8 (some (.d d3))).set 9 (some (.d d4)))[9]? = some (some (.d d4)) := get_set (by rw [List.length_set, lA]; decide)
  have st2 : exS (call (n + 13)) (.par 8 9 (some_ 1 E_reas) (some_ 1 E_till)) GA (St c2 os u x3 ls Z) = .nx ((GA.set 8 (some (.d d3))).set 9 (some (.d d4))) (St c4 os u x3 ls Z) := by
    rw [exS, e3]
    simp [R.to, e4]
  generalize (GA.set 8 (some (.d d3))).set 9 (some (.d d4)) = GC at *
  obtain ⟨d5, c5, hc5, m5, e5⟩ := ev_some (n := n + 11) (os := os) (u := u) (x3 := x3) (ls := ls) (Z := Z) (L := E_names) hc4 gB.g1 (fun M => ev_names) (by decide) (by decide)
  obtain ⟨a, oa, rfl⟩ := nmTwo d5 m5
  obtain ⟨d6, c6, hc6, m6, e6⟩ := ev_some (n := n + 11) (os := os) (u := u) (x3 := x3) (ls := ls) (Z := Z) (L := E_two (.int 11) (.int 12)) hc5 gB.g1 (fun M => ev_two) (by decide) (by decide)
  obtain ⟨d7, c7, hc7, m7, e7⟩ := ev_some (n := n + 11) (os := os) (u := u) (x3 := x3) (ls := ls) (Z := Z) (L := E_four (.int 1) (.int 2) (.int 3) (.int 7)) hc6 gB.g1 (fun M => ev_four) (by decide) (by decide)
  have l7 : 7 ≤ lim := by decide
  have et : evE (call (n + 13)) E_told GC (St c4 os u x3 ls Z) = .ok (.d (Told.D ⟨a.D, d6, d7, .int 5, d3, d2, d4⟩)) (St c7 os u x3 ls Z) := by
    unfold Told.D Told.L
    simp [E_told, evE, evEs, R.bind, e5, e6, e7, b7, b8, b9, asDs, l7]
  have ok : (Told.mk a.D d6 d7 (.int 5) d3 d2 d4).Ok := by
    have rs : ∀ d ∈ [PyData.str (⟨#[104, 111, 108, 100]⟩ : Str), .str (⟨#[104, 111, 108, 100]⟩ : Str), .str (⟨#[107, 101, 121]⟩ : Str), .str (⟨#[104, 101, 97, 100]⟩ : Str), .str (⟨#[99, 101, 97, 115, 101, 100]⟩ : Str)], ∃ w ∈ whys, d = .str (tx w) := by
      intro d hd
      simp only [List.mem_cons, List.not_mem_nil, or_false] at hd
      rcases hd with z | z | z | z | z
      · exact ⟨([104, 111, 108, 100] : List Nat), by decide, z⟩
      · exact ⟨([104, 111, 108, 100] : List Nat), by decide, z⟩
      · exact ⟨([107, 101, 121] : List Nat), by decide, z⟩
      · exact ⟨([104, 101, 97, 100] : List Nat), by decide, z⟩
      · exact ⟨([99, 101, 97, 115, 101, 100] : List Nat), by decide, z⟩
    obtain ⟨v, hv, ev⟩ := rs d3 m3
    refine ⟨.inl ⟨a, oa, rfl⟩, fun _ => rfl, ?_, fun _ => ⟨v, hv, ev⟩⟩
    show SeqAt.shaped d3 = true
    rw [ev]
    exact (why_ok v hv).1
  refine ⟨GC.set 10 (some (.d (Told.D ⟨a.D, d6, d7, .int 5, d3, d2, d4⟩))), c7, w, ⟨a.D, d6, d7, .int 5, d3, d2, d4⟩, gB.set (.inr (by decide)), hc7, ?_, ?_, ok, fun RR => ?_⟩
  · rw [get_ne (by decide)]; exact b6
  · exact get_set (by rw [gB.len]; decide)
  · rw [exSs, st1]
    simp only [F.bind]
    rw [exSs, st2]
    simp only [F.bind]
    rw [exSs, exS, et]
    simp only [R.to, F.bind]
theorem slTo_D (t : Told) (i : Nat) : toSlD t.D (.int i) = some (.tuple (t.L.take i)) := by
  have : toSlD t.D (.int i) = if (0 : Int) ≤ i then some (.tuple (t.L.take (i : Int).toNat)) else none := rfl
  rw [this, if_pos (by omega), Int.toNat_natCast]
theorem slFrom_D (t : Told) (i : Nat) : fromSlD t.D (.int ((i : Int) + 1)) = some (.tuple (t.L.drop (i + 1))) := by
  have : fromSlD t.D (.int ((i : Int) + 1)) = if (0 : Int) ≤ (i : Int) + 1 then some (.tuple (t.L.drop ((i : Int) + 1).toNat)) else none := rfl
  rw [this, if_pos (by omega)]
  rfl
theorem add_tup {a b : List PyData} (h : a.length + b.length ≤ 1000) : binD .add (.tuple a) (.tuple b) = some (.tuple (a ++ b)) := by
  have : binD .add (.tuple a) (.tuple b) = if a.length + b.length ≤ lim then some (.tuple (a ++ b)) else none := rfl
  rw [this, if_pos (by unfold lim; omega)]
theorem odd_draw {t : Told} {w : Bool} (hG : GB G) (hc : Cup c) (g6 : G[6]? = some (some (.d (.bool w)))) (g10 : G[10]? = some (some (.d t.D))) (ok : t.Ok) : ∃ G' c' t', GB G' ∧ Cup c' ∧ G'[6]? = some (some (.d (.bool w))) ∧ G'[10]? = some (some (.d (Told.D t'))) ∧ t'.Ok ∧
    exS (call (n + 13)) (.ite (.cmp .eq (roll_ 1 4) (.k (.int 0))) B_odd .nil) G (St c os u x3 ls Z) = .nx G' (St c' os u x3 ls Z) := by
  have zero : ∀ (m : Nat) (r : Nat) (c1 c2 : List PyData) (G : Loc), evE (call (n + 13)) (roll_ 1 m) G (St c1 os u x3 ls Z) = .ok (.d (.int r)) (St c2 os u x3 ls Z) → evE (call (n + 13)) (.cmp .eq (roll_ 1 m) (.k (.int 0))) G (St c1 os u x3 ls Z) = .ok (.d (.bool (decide (r = 0)))) (St c2 os u x3 ls Z) := by
    intro m r c1 c2 G e
    have dd : decide ((r : Int) = 0) = decide (r = 0) := by simp
    rw [evE, e]
    simp [R.bind, evE, toD, cmpD, sh_int, eqv_int, R.of, dd]
  obtain ⟨r, c1, hc1, _, e1⟩ := ev_roll (n := n + 12) (os := os) (u := u) (x3 := x3) (ls := ls) (Z := Z) (m := 4) hc hG.g1 (by decide) (by decide)
  have cz := zero _ _ _ _ _ e1
  by_cases hr : r = 0
  · rw [decide_eq_true hr] at cz
    obtain ⟨i, c2, hc2, hi, e2⟩ := ev_roll (n := n + 12) (os := os) (u := u) (x3 := x3) (ls := ls) (Z := Z) (m := 7) hc1 hG.g1 (by decide) (by decide)
    have gA := hG.set (i := 11) (x := some (.d (.int i))) (.inr (by decide))
    obtain ⟨d, c3, hc3, m3, e3⟩ := ev_some (n := n + 11) (os := os) (u := u) (x3 := x3) (ls := ls) (Z := Z) (L := E_odds) hc2 gA.g1 (fun M => ev_odds) (by decide) (by decide)
    have od := odds_odd d m3
    have gB := gA.set (i := 12) (x := some (.d d)) (.inr (by decide))
    have b6 : ((G.set 11 (some (.d (.int i)))).set 12 (some (.d d)))[6]? = some (some (.d (.bool w))) := by
      rw [get_ne (by decide), get_ne (by decide)]; exact g6
    have b10 : ((G.set 11 (some (.d (.int i)))).set 12 (some (.d d)))[10]? = some (some (.d t.D)) := by
      rw [get_ne (by decide), get_ne (by decide)]; exact g10
    have b11 : ((G.set 11 (some (.d (.int i)))).set 12 (some (.d d)))[11]? = some (some (.d (.int i))) := by
      rw [get_ne (by decide), get_set (by rw [hG.len]; decide)]
    have b12 : ((G.set 11 (some (.d (.int i)))).set 12 (some (.d d)))[12]? = some (some (.d d)) := get_set (by rw [List.length_set, hG.len]; decide)
    have lL : t.L.length = 7 := rfl
    have l1 : 1 ≤ lim := by decide
    have ep : evE (call (n + 13)) E_put ((G.set 11 (some (.d (.int i)))).set 12 (some (.d d))) (St c3 os u x3 ls Z) = .ok (.d (t.put i d).D) (St c3 os u x3 ls Z) := by
      have a1 := slTo_D t i
      have a2 := slFrom_D t i
      have a3 := add_tup (a := t.L.take i) (b := [d]) (by simp [lL]; omega)
      have a4 := add_tup (a := t.L.take i ++ [d]) (b := t.L.drop (i + 1)) (by simp [lL]; omega)
      rw [put_L t i d hi] at a4
      have a5 : binD .add (.int i) (.int 1) = some (.int ((i : Int) + 1)) := rfl
      show _ = R.ok (Val.d (.tuple (t.put i d).L)) _
      generalize (G.set 11 (some (.d (.int i)))).set 12 (some (.d d)) = GB' at *
      generalize t.D = D at *
      generalize (t.put i d).L = L at *
      generalize t.L.take i = L1 at *
      generalize t.L.drop (i + 1) = L2 at *
      simp [E_put, evE, evEs, R.bind, R.of, b10, b11, b12, toD, asDs, l1, a1, a2, a3, a4, a5]
    have ok2 := put_ok ok (i := i) od hi
    generalize (t.put i d) = t2 at *
    have gC := gB.set (i := 10) (x := some (.d t2.D)) (.inr (by decide))
    have k6 : (((G.set 11 (some (.d (.int i)))).set 12 (some (.d d))).set 10 (some (.d t2.D)))[6]? = some (some (.d (.bool w))) := by
      rw [get_ne (by decide)]; exact b6
    have k10 : (((G.set 11 (some (.d (.int i)))).set 12 (some (.d d))).set 10 (some (.d t2.D)))[10]? = some (some (.d t2.D)) := get_set (by rw [gB.len]; decide)
    generalize hGB : (G.set 11 (some (.d (.int i)))).set 12 (some (.d d)) = GB' at *
    generalize hGC : GB'.set 10 (some (.d t2.D)) = GC at *
    obtain ⟨q, c4, hc4, _, e4⟩ := ev_roll (n := n + 12) (os := os) (u := u) (x3 := x3) (ls := ls) (Z := Z) (m := 2) hc3 gC.g1 (by decide) (by decide)
    have cz2 := zero _ _ _ _ _ e4
    by_cases hq : q = 0
    · rw [decide_eq_true hq] at cz2
      obtain ⟨d5, c5, hc5, m5, e5⟩ := ev_some (n := n + 11) (os := os) (u := u) (x3 := x3) (ls := ls) (Z := Z) (L := E_utl) hc4 gC.g1 (fun M => ev_utl) (by decide) (by decide)
      have ep6 : evE (call (n + 13)) E_put6 GC (St c4 os u x3 ls Z) = .ok (.d (t2.put 6 d5).D) (St c5 os u x3 ls Z) := by
        have a1 := slTo_D t2 6
        have lL2 : t2.L.length = 7 := rfl
        have a3 := add_tup (a := t2.L.take 6) (b := [d5]) (by simp [lL2])
        have a6 : t2.L.take 6 ++ [d5] = (t2.put 6 d5).L := rfl
        rw [a6] at a3
        have k : ((6 : Nat) : Int) = 6 := rfl
        rw [k] at a1
        show _ = R.ok (Val.d (.tuple (t2.put 6 d5).L)) _
        generalize t2.D = D at *
        generalize (t2.put 6 d5).L = L at *
        generalize t2.L.take 6 = L1 at *
        simp [E_put6, evE, evEs, R.bind, R.of, k10, toD, asDs, l1, a1, a3, e5]
      refine ⟨GC.set 10 (some (.d (t2.put 6 d5).D)), c5, t2.put 6 d5, gC.set (.inr (by decide)), hc5, ?_, ?_, put6_ok ok2, ?_⟩
      · rw [get_ne (by decide)]; exact k6
      · exact get_set (by rw [gC.len]; decide)
      · rw [exS, cz]
        simp only [R.to, B_odd, exSs, exS, e2, F.bind, e3, hGB, ep, hGC, cz2, ep6]
    · rw [decide_eq_false hq] at cz2
      refine ⟨GC, c4, t2, gC, hc4, k6, k10, ok2, ?_⟩
      rw [exS, cz]
      simp only [R.to, B_odd, exSs, exS, e2, F.bind, e3, hGB, ep, hGC, cz2]
  · rw [decide_eq_false hr] at cz
    refine ⟨G, c1, t, hG, hc1, g6, g10, ok, ?_⟩
    rw [exS, cz]
    simp only [R.to, exSs]
end
end K75

set_option Elab.async false
set_option linter.all false
set_option autoImplicit false
set_option maxRecDepth 100000
set_option maxHeartbeats 4000000
/-! Mathematics, part 38: what the law expects. -/
namespace K75
open PySem PySem.W
theorem ser_one : ∀ {l : List En}, l.Pairwise (fun x y => x.ser < y.ser) → ∀ x ∈ l, ∀ y ∈ l, x.ser = y.ser → x = y
  | [], _, x, hx, _, _, _ => by simp at hx
  | z :: r, h, x, hx, y, hy, e => by
    obtain ⟨h1, h2⟩ := List.pairwise_cons.mp h
    rcases List.mem_cons.mp hx with q | q <;> rcases List.mem_cons.mp hy with p | p
    · rw [q, p]
    · have := h1 y p
      rw [q] at e
      omega
    · have := h1 x q
      rw [p] at e
      omega
    · exact ser_one h2 x q y p e
def sameS (ser : Nat) (e : En) : Bool := decide (e.ser = ser)
def difS (ser : Nat) (e : En) : Bool := !decide (e.ser = ser)
theorem keep_dif {l : List En} {ser : Nat} (h : l.Pairwise fun x y => x.ser < y.ser) {e : En} (he : e ∈ l) (hs : e.ser = ser) (hw : e.why = ([104, 111, 108, 100] : List Nat)) : l.filter (keepE ser) = l.filter (difS ser) := by
  refine List.filter_congr fun x hx => ?_
  unfold keepE difS
  by_cases q : x.ser = ser
  · have : x = e := ser_one h x hx e he (by rw [q, hs])
    rw [this]
    simp [hw]
  · simp [q]
section
variable {n : Nat} {c ls : List PyData} {os : List Ow} {u : Nat} {x3 : MO} {Z : List MO} {G : Loc} {M : Sto}
variable {t : Told} {w : Bool} {k key ser since til : Nat} {a : Nm} {why : List Nat} {m : Option Ow}
theorem optL_7 (hm : NwO os a key m) : ixD (optL a key m) (.int 7) = some (.tuple ((entsO m).map (En.D a))) := by
  cases m with
  | none => rfl
  | some m => exact optD_ents hm
theorem optL_2 : ixD (optL a key m) (.int 2) = some (.int ((numO m : Int) - 1)) := by
  cases m with
  | none => rfl
  | some m =>
    have e : ((numO (some m) : Nat) : Int) - 1 = (m.num : Int) := by
      show ((m.num + 1 : Nat) : Int) - 1 = _
      omega
    rw [e]
    rfl
theorem ev_16 {Φ : Env} (hm : NwO os a key m) (hl : (entsO m).length ≤ 1000) (g15 : G[15]? = some (some (.d (optL a key m)))) (g10 : G[10]? = some (some (.d t.D))) (e2 : t.t2 = .int ser) (len : G.length = 20) : evE Φ A_16 G M = .ok (.d (.list (((entsO m).filter (sameS ser)).map (En.D a)))) M := by
  have i7 := optL_7 hm
  have q := ev_compIf (Φ := Φ) (M := M) (G := G) (it := .ix (.v 15) (.k (.int 7))) (i := 19) (c := .cmp .eq (.ix (.v 19) (.k (.int 1))) (.ix (.v 10) (.k (.int 2)))) (elt := .v 19) (d := .tuple ((entsO m).map (En.D a))) (xs := (entsO m).map (En.D a)) (p := entP ser) (f := id) (by simp [evE, R.bind, R.of, toD, g15, i7]) rfl (by simp; unfold lim; omega) (fun x hx => by
    obtain ⟨e, he, rfl⟩ := List.mem_map.mp hx
    have g19 : ((wipeG G [19]).set 19 (some (.d (En.D a e))))[19]? = some (some (.d (En.D a e))) := by
      rw [List.getElem?_set_self (by simp [wipeG]; omega)]
    have g10' : ((wipeG G [19]).set 19 (some (.d (En.D a e))))[10]? = some (some (.d t.D)) := by
      simp only [wipeG]
      rw [get_ne (by decide), get_ne (by decide)]; exact g10
    have i1 : ixD (En.D a e) (.int 1) = some (.int e.ser) := rfl
    have i2 : ixD t.D (.int 2) = some (.int ser) := by rw [← e2]; rfl
    rw [entP_is]
    generalize (wipeG G [19]).set 19 (some (.d (En.D a e))) = G2 at *
    have dd : decide ((e.ser : Int) = ser) = decide (e.ser = ser) := by simp; omega
    simp [evE, R.bind, g19, g10', toD, i1, i2, R.of, cmpD, sh_int, eqv_int, dd]) (fun x hx _ => by
    have g19 : ((wipeG G [19]).set 19 (some (.d x)))[19]? = some (some (.d x)) := by
      rw [List.getElem?_set_self (by simp [wipeG]; omega)]
    simp [evE, g19])
  have e : entP ser ∘ En.D a = sameS ser := by funext x; exact entP_is a ser x
  rw [List.map_id, List.filter_map, e] at q
  exact q
theorem ev_17 {Φ : Env} (hm : NwO os a key m) (hl : (entsO m).length ≤ 1000) (g15 : G[15]? = some (some (.d (optL a key m)))) (g10 : G[10]? = some (some (.d t.D))) (e2 : t.t2 = .int ser) (len : G.length = 20) : evE Φ A_17 G M = .ok (.d (.list (((entsO m).filter (difS ser)).map (En.D a)))) M := by
  have i7 := optL_7 hm
  have q := ev_compIf (Φ := Φ) (M := M) (G := G) (it := .ix (.v 15) (.k (.int 7))) (i := 19) (c := .cmp .ne (.ix (.v 19) (.k (.int 1))) (.ix (.v 10) (.k (.int 2)))) (elt := .v 19) (d := .tuple ((entsO m).map (En.D a))) (xs := (entsO m).map (En.D a)) (p := fun d => !entP ser d) (f := id) (by simp [evE, R.bind, R.of, toD, g15, i7]) rfl (by simp; unfold lim; omega) (fun x hx => by
    obtain ⟨e, he, rfl⟩ := List.mem_map.mp hx
    have g19 : ((wipeG G [19]).set 19 (some (.d (En.D a e))))[19]? = some (some (.d (En.D a e))) := by
      rw [List.getElem?_set_self (by simp [wipeG]; omega)]
    have g10' : ((wipeG G [19]).set 19 (some (.d (En.D a e))))[10]? = some (some (.d t.D)) := by
      simp only [wipeG]
      rw [get_ne (by decide), get_ne (by decide)]; exact g10
    have i1 : ixD (En.D a e) (.int 1) = some (.int e.ser) := rfl
    have i2 : ixD t.D (.int 2) = some (.int ser) := by rw [← e2]; rfl
    rw [entP_is]
    generalize (wipeG G [19]).set 19 (some (.d (En.D a e))) = G2 at *
    have dd : decide ((e.ser : Int) = ser) = decide (e.ser = ser) := by simp; omega
    simp [evE, R.bind, g19, g10', toD, i1, i2, R.of, cmpD, sh_int, eqv_int, dd]) (fun x hx _ => by
    have g19 : ((wipeG G [19]).set 19 (some (.d x)))[19]? = some (some (.d x)) := by
      rw [List.getElem?_set_self (by simp [wipeG]; omega)]
    simp [evE, g19])
  have e : (fun d => !entP ser d) ∘ En.D a = difS ser := by funext x; show (!entP ser (En.D a x)) = _; rw [entP_is]; rfl
  rw [List.map_id, List.filter_map, e] at q
  exact q
theorem sh_ents {l : List En} (oa : a.Ok) (h : ∀ x ∈ l, x.why ∈ whys) : SeqAt.shaped (.list (l.map (En.D a))) = true := (dpt_lst (k := 2) fun x hx => by
  obtain ⟨v, hv, rfl⟩ := List.mem_map.mp hx
  exact dpt_en oa (h v hv)).sh (by decide)
theorem ev_is {Φ : Env} {l : List En} (oa : a.Ok) (h : ∀ x ∈ l, x.why ∈ whys) (g6 : G[6]? = some (some (.d (.bool w)))) (g16 : G[16]? = some (some (.d (.list (l.map (En.D a)))))) : evE Φ C_is G M = .ok (.d (.bool (w && !decide (l = [])))) M := by
  have s1 := sh_ents oa h
  have s0 : SeqAt.shaped (.list []) = true := by decide +kernel
  have e := eqv_lnil (l.map (En.D a))
  have dd : decide (l.map (En.D a) = []) = decide (l = []) := by simp
  rw [dd] at e
  have l0 : 0 ≤ lim := by decide
  cases w <;> simp [C_is, evE, evEs, R.bind, R.of, g6, g16, asDs, l0, toD, cmpD, s1, s0, e]
theorem ev_not {Φ : Env} {l : List En} (oa : a.Ok) (h : ∀ x ∈ l, x.why ∈ whys) (g6 : G[6]? = some (some (.d (.bool w)))) (g16 : G[16]? = some (some (.d (.list (l.map (En.D a)))))) : evE Φ C_not G M = .ok (.d (.bool (!w && (match l with
    | [] => true
    | e :: _ => !decide (e.why = ([104, 111, 108, 100] : List Nat)))))) M := by
  have s1 := sh_ents oa h
  have s0 : SeqAt.shaped (.list []) = true := by decide +kernel
  have e := eqv_lnil (l.map (En.D a))
  have l0 : 0 ≤ lim := by decide
  cases w with
  | true => simp [C_not, evE, R.bind, g6]
  | false =>
    cases l with
    | nil =>
      simp at e g16
      simp [C_not, evE, evEs, R.bind, R.of, g6, g16, asDs, l0, toD, cmpD, s0, e]
    | cons x r =>
      have i0 : ixD (.list ((x :: r).map (En.D a))) (.int 0) = some (En.D a x) := rfl
      have i3 : ixD (En.D a x) (.int 3) = some (.str (tx x.why)) := rfl
      have sx := (why_ok _ (h x List.mem_cons_self)).1
      have sh := sh_of (⟨#[104, 111, 108, 100]⟩ : Str) rfl
      have h2 : decide (tx x.why = (⟨#[104, 111, 108, 100]⟩ : Str)) = decide (x.why = ([104, 111, 108, 100] : List Nat)) := by
        have : ((⟨#[104, 111, 108, 100]⟩ : Str) : Str) = tx ([104, 111, 108, 100] : List Nat) := rfl
        rw [this]
        exact decide_eq_decide.mpr ⟨tx_inj, fun h => by rw [h]⟩
      have e' : PyData.eqv (.list ((x :: r).map (En.D a))) (.list []) = false := by rw [e]; simp
      have ev := eqv_str (tx x.why) (⟨#[104, 111, 108, 100]⟩ : Str)
      rw [h2] at ev
      generalize ((x :: r).map (En.D a)) = L at *
      generalize En.D a x = d at *
      generalize tx x.why = v at *
      simp only [C_not, evE, evEs, R.bind, R.of, g6, g16, asDs, l0, toD, cmpD, s0, s1, e', i0, i3, sx, sh, ev, Option.map, List.length_nil, if_true, Bool.and_self, Bool.not_false, Bool.true_and]
/-! ### the new list -/
theorem new_step {e : List En} (f : Fine a key ser since til) (r0 : (mk0 a key m since til e).Rd) (hm : NwO os a key m) (e0 : t.t0 = a.D) (e1 : t.t1 = .int key) (e2 : t.t2 = .int ser) (e5 : t.t5 = .int since) (e6 : t.t6 = .int til)
    {L : List PyData} (hL : evE (call (n + 13)) E_18 G (St c os u x3 (os.map Ow.D) Z) = .ok (.d (.tuple (e.map (En.D a)))) (St c os u x3 (os.map Ow.D) Z)) (hl : os.length < 12)
    (hG : GB G) (g6 : G[6]? = some (some (.d (.bool w)))) (g10 : G[10]? = some (some (.d t.D))) (g15 : G[15]? = some (some (.d (optL a key m)))) :
    ∃ G', GB G' ∧ G'[6]? = some (some (.d (.bool w))) ∧ G'[10]? = some (some (.d t.D)) ∧ G'[14]? = some (some (.d (.tuple [.str (⟨#[116, 101, 120, 116]⟩ : Str), newT (mkO a key m since til e)]))) ∧ G'[5]? = some (some (.d (mkO a key m since til e).D)) ∧
      exSs (call (n + 13)) B_new G (St c os u x3 (os.map Ow.D) Z) = .nx G' (St c os u x3 ((os ++ [mkO a key m since til e]).map Ow.D) Z) := by
  have gA := hG.set (i := 18) (x := some (.d (.tuple (e.map (En.D a))))) (.inr (by decide))
  have a10 : (G.set 18 (some (.d (.tuple (e.map (En.D a))))))[10]? = some (some (.d t.D)) := by rw [get_ne (by decide)]; exact g10
  have a6 : (G.set 18 (some (.d (.tuple (e.map (En.D a))))))[6]? = some (some (.d (.bool w))) := by rw [get_ne (by decide)]; exact g6
  have a15 : (G.set 18 (some (.d (.tuple (e.map (En.D a))))))[15]? = some (some (.d (optL a key m))) := by rw [get_ne (by decide)]; exact g15
  have a18 : (G.set 18 (some (.d (.tuple (e.map (En.D a))))))[18]? = some (some (.d (.tuple (e.map (En.D a))))) := get_set (by rw [hG.len]; decide)
  have s5 := c_l_sealed (n := n + 6) (M := St c os u x3 (os.map Ow.D) Z) r0 (x := .int 0)
  have i0 : ixD t.D (.int 0) = some a.D := by rw [← e0]; rfl
  have i1 : ixD t.D (.int 1) = some (.int key) := by rw [← e1]; rfl
  have i5 : ixD t.D (.int 5) = some (.int since) := by rw [← e5]; rfl
  have i6 : ixD t.D (.int 6) = some (.int til) := by rw [← e6]; rfl
  have o2 := optL_2 (a := a) (key := key) (m := m)
  have l9 : 9 ≤ lim := by decide
  have l3 : 3 ≤ lim := by decide
  have l2 : 2 ≤ lim := by decide
  have bi : binD .add (.int ((numO m : Int) - 1)) (.int 1) = some (.int (numO m)) := by
    have : binD .add (.int ((numO m : Int) - 1)) (.int 1) = some (.int ((numO m : Int) - 1 + 1)) := rfl
    rw [this, Int.sub_add_cancel]
  have e8 : (mk0 a key m since til e).D8 ++ [.int 0] = [a.D, .int key, .int (numO m), .int (-1), .int since, .int til, .tuple [.str (⟨#[97, 108, 108]⟩ : Str), .bool false, .tuple []], .tuple (e.map (En.D a)), .int 0] := rfl
  rw [e8] at s5
  have eDm : (mk0 a key m since til e).done = mkO a key m since til e := rfl
  rw [eDm] at s5
  have gd : (mkO a key m since til e).Rd := done_rd r0
  have ev5 : evE (call (n + 13)) E_new (G.set 18 (some (.d (.tuple (e.map (En.D a)))))) (St c os u x3 (os.map Ow.D) Z) = .ok (.d (mkO a key m since til e).D) (St c os u x3 (os.map Ow.D) Z) := by
    generalize G.set 18 (some (.d (.tuple (e.map (En.D a))))) = GA at *
    generalize mkO a key m since til e = o at *
    generalize St c os u x3 (os.map Ow.D) Z = M at *
    generalize optL a key m = ol at *
    generalize e.map (En.D a) = en at *
    have l0 : 0 ≤ lim := by decide
    simp [E_new, evE, evEs, R.bind, R.of, a10, a15, a18, toD, i0, i1, i5, i6, o2, bi, asDs, l9, l3, l0, s5]
  generalize hGA : G.set 18 (some (.d (.tuple (e.map (En.D a))))) = GA at *
  have gB := gA.set (i := 5) (x := some (.d (mkO a key m since til e).D)) (.inr (by decide))
  have gC := gB.set (i := 14) (x := some (.d (.tuple [.str (⟨#[116, 101, 120, 116]⟩ : Str), newT (mkO a key m since til e)]))) (.inr (by decide))
  have b5 : (GA.set 5 (some (.d (mkO a key m since til e).D)))[5]? = some (some (.d (mkO a key m since til e).D)) := get_set (by rw [gA.len]; decide)
  refine ⟨(GA.set 5 (some (.d (mkO a key m since til e).D))).set 14 (some (.d (.tuple [.str (⟨#[116, 101, 120, 116]⟩ : Str), newT (mkO a key m since til e)]))), gC, ?_, ?_, ?_, ?_, ?_⟩
  · rw [get_ne (by decide), get_ne (by decide)]; exact a6
  · rw [get_ne (by decide), get_ne (by decide)]; exact a10
  · exact get_set (by rw [gB.len]; decide)
  · rw [get_ne (by decide)]; exact b5
  · have lt := c_l_list_text (n := n + 11) (M := St c os u x3 ((os ++ [mkO a key m since til e]).map Ow.D) Z) gd
    have at4 : (St c os u x3 (os.map Ow.D) Z)[4]? = some (.lst (os.map Ow.D)) := rfl
    have ll : (os.map Ow.D).length < lim := by simp; unfold lim; omega
    have fin : (St c os u x3 (os.map Ow.D) Z).set 4 (.lst (os.map Ow.D ++ [(mkO a key m since til e).D])) = St c os u x3 ((os ++ [mkO a key m since til e]).map Ow.D) Z := by
      rw [List.map_append]
      rfl
    rw [← fin] at lt ⊢
    unfold B_new
    rw [exSs, exS, hL]
    simp only [R.to, F.bind, hGA]
    rw [exSs, exS, ev5]
    simp only [R.to, F.bind]
    generalize hGB : GA.set 5 (some (.d (mkO a key m since til e).D)) = GB' at *
    unfold newT at *
    generalize (mkO a key m since til e) = o at *
    generalize (os.map Ow.D) = LL at *
    generalize St c os u x3 LL Z = M at *
    generalize tx o.T = T at *
    generalize o.D = d at *
    simp [exSs, exS, evE, evEs, R.bind, R.to, F.bind, gB.g3, b5, at4, ll, lt, asDs, l2]
end
end K75

set_option Elab.async false
set_option linter.all false
set_option autoImplicit false
set_option maxRecDepth 100000
set_option maxHeartbeats 4000000
/-! Mathematics, part 39: what the law expects, joined. -/
namespace K75
open PySem PySem.W
section
variable {n : Nat} {c ls : List PyData} {os : List Ow} {u : Nat} {x3 : MO} {Z : List MO} {G : Loc} {M : Sto}
variable {t : Told} {w : Bool} {k key ser since til : Nat} {a : Nm} {why : List Nat} {m : Option Ow}
theorem sorted_of {L : List PyData} {R0 : List PyData} (hs : sortable L = true) (hL : L.mergeSort le = R0) : biD .sorted [.list L] = some (.list R0) := by
  have : biD .sorted [.list L] = if sortable L then some (.list (L.mergeSort (PySem.W.dataLe false id))) else none := rfl
  rw [this, hs, if_pos rfl]
  exact congrArg _ (congrArg _ hL)
theorem add_lst {x y : List PyData} (h : x.length + y.length ≤ 1000) : binD .add (.list x) (.list y) = some (.list (x ++ y)) := by
  have : binD .add (.list x) (.list y) = if x.length + y.length ≤ lim then some (.list (x ++ y)) else none := rfl
  rw [this, if_pos (by unfold lim; omega)]
theorem ev_18t {Φ : Env} {l : List En} (oa : a.Ok) (h : ∀ x ∈ l, x.why ∈ whys) (hw : why ∈ whys) (asc : l.Pairwise fun x y => x.ser < y.ser) (ne : ∀ x ∈ l, x.ser ≠ ser) (hl : l.length ≤ 100) (e0 : t.t0 = a.D) (e2 : t.t2 = .int ser) (e3 : t.t3 = .int 5) (e4 : t.t4 = .str (tx why))
    (g6 : G[6]? = some (some (.d (.bool true)))) (g10 : G[10]? = some (some (.d t.D))) (g17 : G[17]? = some (some (.d (.list (l.map (En.D a)))))) : evE Φ E_18 G M = .ok (.d (.tuple ((insE ⟨ser, why⟩ l).map (En.D a)))) M := by
  have i0 : ixD t.D (.int 0) = some a.D := by rw [← e0]; rfl
  have i2 : ixD t.D (.int 2) = some (.int ser) := by rw [← e2]; rfl
  have i3 : ixD t.D (.int 3) = some (.int 5) := by rw [← e3]; rfl
  have i4 : ixD t.D (.int 4) = some (.str (tx why)) := by rw [← e4]; rfl
  have eA : (l ++ [En.mk ser why]).map (En.D a) = l.map (En.D a) ++ [En.D a ⟨ser, why⟩] := by simp
  have sb : sortable (l.map (En.D a) ++ [En.D a ⟨ser, why⟩]) = true := by
    rw [← eA]
    exact sortable_ents oa fun x hx => by
      rcases List.mem_append.mp hx with z | z
      · exact h x z
      · have e : x = ⟨ser, why⟩ := by simpa using z
        rw [e]; exact hw
  have st := sorted_of sb (sort_insE oa (e := ⟨ser, why⟩) asc ne)
  have ad := add_lst (x := l.map (En.D a)) (y := [En.D a ⟨ser, why⟩]) (by simp; omega)
  have l4 : 4 ≤ lim := by decide
  have l1 : 1 ≤ lim := by decide
  have eD : En.D a ⟨ser, why⟩ = .tuple [a.D, .int ser, .int 5, .str (tx why)] := rfl
  have b2 : ∀ q, biD .tuple [.list q] = some (.tuple q) := fun _ => rfl
  generalize l.map (En.D a) ++ [En.D a ⟨ser, why⟩] = L2 at *
  rw [eD] at ad
  generalize l.map (En.D a) = L1 at *
  generalize (insE ⟨ser, why⟩ l).map (En.D a) = L3 at *
  simp only [E_18, evE, evEs, R.bind, R.of, g6, g10, g17, toD, toDs, i0, i2, i3, i4, asDs, l4, l1, ad, st, b2, Option.map, List.length_cons, List.length_nil, if_true, Nat.zero_add, Nat.reduceAdd]
theorem ev_18f {Φ : Env} {l : List En} (oa : a.Ok) (h : ∀ x ∈ l, x.why ∈ whys) (asc : l.Pairwise fun x y => x.ser < y.ser) (hl : l.length ≤ 100)
    (g6 : G[6]? = some (some (.d (.bool false)))) (g17 : G[17]? = some (some (.d (.list (l.map (En.D a)))))) : evE Φ E_18 G M = .ok (.d (.tuple (l.map (En.D a)))) M := by
  have st := sorted_of (sortable_ents oa h) (sort_ents oa asc)
  have ad := add_lst (x := l.map (En.D a)) (y := []) (by simp; omega)
  rw [List.append_nil] at ad
  have l0 : 0 ≤ lim := by decide
  have b2 : ∀ q, biD .tuple [.list q] = some (.tuple q) := fun _ => rfl
  generalize l.map (En.D a) = L1 at *
  simp only [E_18, evE, evEs, R.bind, R.of, g6, g17, toD, toDs, asDs, l0, ad, st, b2, Option.map, List.length_nil, if_true]
/-- the law's own answer -/
theorem good_step (f : Fine a key ser since til) (e0 : t.t0 = a.D) (e1 : t.t1 = .int key) (e2 : t.t2 = .int ser) (e5 : t.t5 = .int since) (e6 : t.t6 = .int til) (ew : w = true → t.t3 = .int 5 ∧ t.t4 = .str (tx why) ∧ why ∈ whys)
    (hk : k ≤ 7) (h : ∀ o ∈ os, Gd (k + 1) o) (hl : os.length < 12) (hm : NwO os a key m) (hG : GB G) (g6 : G[6]? = some (some (.d (.bool w)))) (g10 : G[10]? = some (some (.d t.D))) :
    ∃ G', GB G' ∧ G'[6]? = some (some (.d (.bool w))) ∧ G'[10]? = some (some (.d t.D)) ∧ match actn w (entsO m) ser why with
      | .inl x => (x = .isThere ∨ x = .notThere) ∧ G'[14]? = some (some (.d (exD x))) ∧ exSs (call (n + 13)) B_good G (St c os u x3 (os.map Ow.D) Z) = .nx G' (St c os u x3 (os.map Ow.D) Z)
      | .inr e => (mk0 a key m since til e).Rd ∧ Gd k (mkO a key m since til e) ∧ G'[14]? = some (some (.d (.tuple [.str (⟨#[116, 101, 120, 116]⟩ : Str), newT (mkO a key m since til e)]))) ∧ G'[5]? = some (some (.d (mkO a key m since til e).D)) ∧
        exSs (call (n + 13)) B_good G (St c os u x3 (os.map Ow.D) Z) = .nx G' (St c os u x3 ((os ++ [mkO a key m since til e]).map Ow.D) Z) := by
  obtain ⟨g1, g2, g3, g4⟩ := entsO_good h hm
  have hr : ∀ o ∈ os, o.Rd := fun o ho => (h o ho).rd
  have hlen : (entsO m).length ≤ 100 := by omega
  have hlen2 : (entsO m).length ≤ 1000 := by omega
  have i0 : ixD t.D (.int 0) = some a.D := by rw [← e0]; rfl
  have i1 : ixD t.D (.int 1) = some (.int key) := by rw [← e1]; rfl
  have ln := c_l_newest_o (n := n + 12) (M := St c os u x3 (os.map Ow.D) Z) (k := 4) f.a hr (by omega) rfl hm
  -- the three first statements
  have gA := hG.set (i := 15) (x := some (.d (optL a key m))) (.inr (by decide))
  have a15 : (G.set 15 (some (.d (optL a key m))))[15]? = some (some (.d (optL a key m))) := get_set (by rw [hG.len]; decide)
  have a10 : (G.set 15 (some (.d (optL a key m))))[10]? = some (some (.d t.D)) := by rw [get_ne (by decide)]; exact g10
  have a6 : (G.set 15 (some (.d (optL a key m))))[6]? = some (some (.d (.bool w))) := by rw [get_ne (by decide)]; exact g6
  have s1 : exS (call (n + 13)) (.set 15 (.call .l_newest (.cons (.v 3) (.cons (.ix (.v 10) (.k (.int 0))) (.cons (.ix (.v 10) (.k (.int 1))) .nil))))) G (St c os u x3 (os.map Ow.D) Z) = .nx (G.set 15 (some (.d (optL a key m)))) (St c os u x3 (os.map Ow.D) Z) := by
    generalize St c os u x3 (os.map Ow.D) Z = M at *
    simp [exS, evE, evEs, R.bind, R.to, R.of, hG.g3, g10, toD, i0, i1, ln]
  generalize G.set 15 (some (.d (optL a key m))) = GA at *
  have v16 := ev_16 (Φ := call (n + 13)) (M := St c os u x3 (os.map Ow.D) Z) hm hlen2 a15 a10 e2 gA.len
  generalize hL16 : (entsO m).filter (sameS ser) = L16 at v16
  have gB := gA.set (i := 16) (x := some (.d (.list (L16.map (En.D a))))) (.inr (by decide))
  have b15 : (GA.set 16 (some (.d (.list (L16.map (En.D a))))))[15]? = some (some (.d (optL a key m))) := by rw [get_ne (by decide)]; exact a15
  have b10 : (GA.set 16 (some (.d (.list (L16.map (En.D a))))))[10]? = some (some (.d t.D)) := by rw [get_ne (by decide)]; exact a10
  have b6 : (GA.set 16 (some (.d (.list (L16.map (En.D a))))))[6]? = some (some (.d (.bool w))) := by rw [get_ne (by decide)]; exact a6
  have b16 : (GA.set 16 (some (.d (.list (L16.map (En.D a))))))[16]? = some (some (.d (.list (L16.map (En.D a))))) := get_set (by rw [gA.len]; decide)
  have s2 : exS (call (n + 13)) (.setC 16 A_16) GA (St c os u x3 (os.map Ow.D) Z) = .nx (GA.set 16 (some (.d (.list (L16.map (En.D a)))))) (St c os u x3 (os.map Ow.D) Z) := by
    rw [exS, v16]
    rfl
  generalize GA.set 16 (some (.d (.list (L16.map (En.D a))))) = GC at *
  have v17 := ev_17 (Φ := call (n + 13)) (M := St c os u x3 (os.map Ow.D) Z) hm hlen2 b15 b10 e2 gB.len
  generalize hL17 : (entsO m).filter (difS ser) = L17 at v17
  have gD := gB.set (i := 17) (x := some (.d (.list (L17.map (En.D a))))) (.inr (by decide))
  have d15 : (GC.set 17 (some (.d (.list (L17.map (En.D a))))))[15]? = some (some (.d (optL a key m))) := by rw [get_ne (by decide)]; exact b15
  have d10 : (GC.set 17 (some (.d (.list (L17.map (En.D a))))))[10]? = some (some (.d t.D)) := by rw [get_ne (by decide)]; exact b10
  have d6 : (GC.set 17 (some (.d (.list (L17.map (En.D a))))))[6]? = some (some (.d (.bool w))) := by rw [get_ne (by decide)]; exact b6
  have d16 : (GC.set 17 (some (.d (.list (L17.map (En.D a))))))[16]? = some (some (.d (.list (L16.map (En.D a))))) := by rw [get_ne (by decide)]; exact b16
  have d17 : (GC.set 17 (some (.d (.list (L17.map (En.D a))))))[17]? = some (some (.d (.list (L17.map (En.D a))))) := get_set (by rw [gB.len]; decide)
  have s3 : exS (call (n + 13)) (.setC 17 A_17) GC (St c os u x3 (os.map Ow.D) Z) = .nx (GC.set 17 (some (.d (.list (L17.map (En.D a)))))) (St c os u x3 (os.map Ow.D) Z) := by
    rw [exS, v17]
    rfl
  generalize GC.set 17 (some (.d (.list (L17.map (En.D a))))) = GD at *
  have m16 : ∀ x ∈ L16, x ∈ entsO m ∧ x.ser = ser := fun x hx => by
    rw [← hL16] at hx
    have := List.mem_filter.mp hx
    exact ⟨this.1, by simpa [sameS] using this.2⟩
  have m17 : ∀ x ∈ L17, x ∈ entsO m ∧ x.ser ≠ ser := fun x hx => by
    rw [← hL17] at hx
    have := List.mem_filter.mp hx
    exact ⟨this.1, by simpa [difS] using this.2⟩
  have w16 : ∀ x ∈ L16, x.why ∈ whys := fun x hx => (g1 x (m16 x hx).1).2
  have asc17 : L17.Pairwise fun x y => x.ser < y.ser := by rw [← hL17]; exact g2.filter _
  have len17 : L17.length ≤ (entsO m).length := by rw [← hL17]; exact List.length_filter_le _ _
  have cis := ev_is (Φ := call (n + 13)) (M := St c os u x3 (os.map Ow.D) Z) f.a w16 d6 d16
  have cnot := ev_not (Φ := call (n + 13)) (M := St c os u x3 (os.map Ow.D) Z) f.a w16 d6 d16
  have start : ∀ RR, exSs (call (n + 13)) (.cons (.set 15 (.call .l_newest (.cons (.v 3) (.cons (.ix (.v 10) (.k (.int 0))) (.cons (.ix (.v 10) (.k (.int 1))) .nil))))) (.cons (.setC 16 A_16) (.cons (.setC 17 A_17) RR))) G (St c os u x3 (os.map Ow.D) Z) = exSs (call (n + 13)) RR GD (St c os u x3 (os.map Ow.D) Z) := by
    intro RR
    rw [exSs, s1]
    simp only [F.bind]
    rw [exSs, s2]
    simp only [F.bind]
    rw [exSs, s3]
    simp only [F.bind]
  have l2 : 2 ≤ lim := by decide
  -- an exception's name
  have exc : ∀ x : Xc, GB (GD.set 14 (some (.d (exD x)))) ∧ (GD.set 14 (some (.d (exD x))))[6]? = some (some (.d (.bool w))) ∧ (GD.set 14 (some (.d (exD x))))[10]? = some (some (.d t.D)) ∧ (GD.set 14 (some (.d (exD x))))[14]? = some (some (.d (exD x))) := fun x =>
    ⟨gD.set (.inr (by decide)), by rw [get_ne (by decide)]; exact d6, by rw [get_ne (by decide)]; exact d10, get_set (by rw [gD.len]; decide)⟩
  unfold B_good
  rw [start]
  cases w with
  | true =>
    obtain ⟨e3, e4, hwhy⟩ := ew rfl
    by_cases q : L16 = []
    · -- put
      have no : ∀ x ∈ entsO m, x.ser ≠ ser := fun x hx e => by
        have : x ∈ L16 := by rw [← hL16]; exact List.mem_filter.mpr ⟨hx, by simp [sameS, e]⟩
        rw [q] at this
        simp at this
      have any : ((entsO m).any fun e => decide (e.ser = ser)) = false := List.any_eq_false.mpr fun x hx => by simpa using no x hx
      have e17 : L17 = entsO m := by
        rw [← hL17]
        exact List.filter_eq_self.mpr fun x hx => by simpa [difS] using no x hx
      have ac : actn true (entsO m) ser why = .inr (insE ⟨ser, why⟩ (entsO m)) := by simp [actn, any]
      rw [ac]
      simp only
      rw [e17] at d17
      have v18 := ev_18t (Φ := call (n + 13)) (M := St c os u x3 (os.map Ow.D) Z) f.a (fun x hx => (g1 x hx).2) hwhy g2 no hlen e0 e2 e3 e4 d6 d10 d17
      have gi : ∀ x ∈ insE ⟨ser, why⟩ (entsO m), x.ser ≤ 1000000 ∧ x.why ∈ whys := fun x hx => by
        rcases insE_mem hx with z | z
        · exact g1 x z
        · rw [z]; exact ⟨f.ser, hwhy⟩
      obtain ⟨r0, gd⟩ := mk_gd (since := since) (til := til) (ents := insE ⟨ser, why⟩ (entsO m)) hk h hm f.a f.key f.st f.til (by rw [insE_len]; exact Nat.le_refl _) gi (insE_asc g2 no)
      obtain ⟨G', p1, p2, p3, p4, p5, p6⟩ := new_step (n := n) (c := c) (u := u) (x3 := x3) (Z := Z) f r0 hm e0 e1 e2 e5 e6 (L := []) v18 hl gD d6 d10 d15
      refine ⟨G', p1, p2, p3, r0, gd, p4, p5, ?_⟩
      have c1 : (true && !decide (L16 = [])) = false := by simp [q]
      rw [c1] at cis
      rw [Bool.not_true, Bool.false_and] at cnot
      rw [exSs, exS, cis]
      simp only [R.to]
      rw [exSs, exS, cnot]
      simp only [R.to]
      rw [p6]
      simp only [F.bind, exSs]
    · have any : ((entsO m).any fun e => decide (e.ser = ser)) = true := by
        obtain ⟨x, r, hx⟩ := List.exists_cons_of_ne_nil q
        have := m16 x (by rw [hx]; exact List.mem_cons_self)
        exact List.any_eq_true.mpr ⟨x, this.1, by simpa using this.2⟩
      have ac : actn true (entsO m) ser why = .inl .isThere := by simp [actn, any]
      rw [ac]
      obtain ⟨p1, p2, p3, p4⟩ := exc .isThere
      refine ⟨_, p1, p2, p3, .inl rfl, p4, ?_⟩
      have c1 : (true && !decide (L16 = [])) = true := by simp [q]
      rw [c1] at cis
      rw [exSs, exS, cis]
      simp only [R.to]
      simp [exSs, exS, evE, evEs, R.bind, R.to, F.bind, asDs, l2, exD, Xc.st]
  | false =>
    have c1 : (false && !decide (L16 = [])) = false := rfl
    rw [c1] at cis
    cases hq : L16 with
    | nil =>
      rw [hq] at cnot
      have no : ∀ x ∈ entsO m, x.ser ≠ ser := fun x hx e => by
        have : x ∈ L16 := by rw [← hL16]; exact List.mem_filter.mpr ⟨hx, by simp [sameS, e]⟩
        rw [hq] at this
        simp at this
      have all : (entsO m).all (keepE ser) = true := List.all_eq_true.mpr fun x hx => by simp [keepE, no x hx]
      have ac : actn false (entsO m) ser why = .inl .notThere := by simp [actn, all]
      rw [ac]
      obtain ⟨p1, p2, p3, p4⟩ := exc .notThere
      refine ⟨_, p1, p2, p3, .inr rfl, p4, ?_⟩
      rw [exSs, exS, cis]
      simp only [R.to]
      rw [exSs, exS, cnot]
      simp [exSs, exS, evE, evEs, R.bind, R.to, F.bind, asDs, l2, exD, Xc.st]
    | cons e r =>
      rw [hq] at cnot
      have he := m16 e (by rw [hq]; exact List.mem_cons_self)
      by_cases hh : e.why = ([104, 111, 108, 100] : List Nat)
      · have nall : (entsO m).all (keepE ser) = false := List.all_eq_false.mpr ⟨e, he.1, by simp [keepE, he.2, hh]⟩
        have kd := keep_dif g2 he.1 he.2 hh
        have ac : actn false (entsO m) ser why = .inr L17 := by
          simp [actn, nall]
          rw [kd, hL17]
        rw [ac]
        simp only
        have v18 := ev_18f (Φ := call (n + 13)) (M := St c os u x3 (os.map Ow.D) Z) f.a (fun x hx => (g1 x (m17 x hx).1).2) asc17 (by omega) d6 d17
        obtain ⟨r0, gd⟩ := mk_gd (since := since) (til := til) (ents := L17) hk h hm f.a f.key f.st f.til (by omega) (fun x hx => g1 x (m17 x hx).1) asc17
        obtain ⟨G', p1, p2, p3, p4, p5, p6⟩ := new_step (n := n) (c := c) (u := u) (x3 := x3) (Z := Z) f r0 hm e0 e1 e2 e5 e6 (L := []) v18 hl gD d6 d10 d15
        refine ⟨G', p1, p2, p3, r0, gd, p4, p5, ?_⟩
        have c2 : (!false && !decide (e.why = ([104, 111, 108, 100] : List Nat))) = false := by simp [hh]
        simp only [c2] at cnot
        rw [exSs, exS, cis]
        simp only [R.to]
        rw [exSs, exS, cnot]
        simp only [R.to]
        rw [p6]
        simp only [F.bind, exSs]
      · have all : (entsO m).all (keepE ser) = true := List.all_eq_true.mpr fun x hx => by
          by_cases hs : x.ser = ser
          · have : x = e := ser_one g2 x hx e he.1 (by rw [hs, he.2])
            rw [this]
            simp [keepE, hh]
          · simp [keepE, hs]
        have ac : actn false (entsO m) ser why = .inl .notThere := by simp [actn, all]
        rw [ac]
        obtain ⟨p1, p2, p3, p4⟩ := exc .notThere
        refine ⟨_, p1, p2, p3, .inr rfl, p4, ?_⟩
        have c2 : (!false && !decide (e.why = ([104, 111, 108, 100] : List Nat))) = true := by simp [hh]
        simp only [c2] at cnot
        rw [exSs, exS, cis]
        simp only [R.to]
        rw [exSs, exS, cnot]
        simp [exSs, exS, evE, evEs, R.bind, R.to, F.bind, asDs, l2, exD, Xc.st]
end
end K75

set_option Elab.async false
set_option linter.all false
set_option autoImplicit false
set_option maxRecDepth 100000
set_option maxHeartbeats 4000000
/-! Mathematics, part 40: the law's turn. -/
namespace K75
open PySem PySem.W
theorem mk_new {os : List Ow} {a : Nm} {key since til : Nat} {m : Option Ow} {e : List En} (hm : NwO os a key m) : (mkO a key m since til e).D ∉ os.map Ow.D := by
  intro hin
  obtain ⟨o, ho, eo⟩ := List.mem_map.mp hin
  have e1 := ow_inj eo
  have hc : isC a key o = true := by
    rw [e1]
    show (decide (a.D = a.D) && (decide ((key : Int) = key) && (true && decide (plSc.D = plD)))) = true
    rw [plD_is]
    simp
  cases m with
  | none =>
    have := hm o ho
    rw [hc] at this
    simp at this
  | some m =>
    have h1 : Nw os a key m := hm
    have hn : o.num = m.num + 1 := by rw [e1]; rfl
    rcases h1.top o ho hc with z | ⟨z, _⟩ <;> omega
theorem shw_ex (x : Xc) : Shw 400 (exD x) ∧ Dpt 1 (exD x) := by
  have hs : ∀ x : Xc, Lo (TL.tl x.st) ∧ (TL.tl x.st).length ≤ 15 := by
    intro x
    cases x <;> (unfold Lo; decide +kernel)
  obtain ⟨h1, h2⟩ := hs x
  have e : (.str x.st : PyData) = .str (tx (TL.tl x.st)) := by rw [show tx (TL.tl x.st) = x.st from TL.mk_tl _]
  constructor
  · have h := shw_tup (k := 162) (m := 2) (xs := [.str x.st, .int 0]) (fun y hy => by
      simp only [List.mem_cons, List.not_mem_nil, or_false] at hy
      rcases hy with q | q <;> subst q
      · rw [e]; exact (shw_str h1).mono (by omega)
      · exact (shw_nat (i := 0) (by decide)).mono (by decide)) (by simp)
    exact h.mono (by decide)
  · refine dpt_tup fun y hy => ?_
    simp only [List.mem_cons, List.not_mem_nil, or_false] at hy
    rcases hy with q | q <;> subst q
    · rw [e]; exact dpt_str fun c hc => Nat.lt_trans (h1 c hc) (by decide)
    · exact dpt_int _
def txtD (o : Ow) : PyData := .tuple [.str (⟨#[116, 101, 120, 116]⟩ : Str), newT o]
theorem lo_T {o : Ow} (g : o.Rd) : Lo o.T := Lo.app (by unfold Lo; decide) (lo_sep (lo_parts g))
theorem len_T {o : Ow} (g : o.Rd) : o.T.length ≤ 19010 := by
  have := parts_len g
  simp [Ow.T]
  omega
theorem shw_txt {o : Ow} (g : o.Rd) : Shw 400000 (txtD o) ∧ Dpt 1 (txtD o) := by
  have h1 := lo_T g
  have h2 := len_T g
  constructor
  · have h := shw_tup (k := 190102) (m := 2) (xs := [.str (⟨#[116, 101, 120, 116]⟩ : Str), newT o]) (fun y hy => by
      simp only [List.mem_cons, List.not_mem_nil, or_false] at hy
      rcases hy with q | q <;> subst q
      · exact (shw_str (l := ([116, 101, 120, 116] : List Nat)) (by unfold Lo; decide)).mono (by decide)
      · exact (shw_str h1).mono (by omega)) (by simp)
    exact h.mono (by decide)
  · refine dpt_tup fun y hy => ?_
    simp only [List.mem_cons, List.not_mem_nil, or_false] at hy
    rcases hy with q | q <;> subst q
    · exact dpt_str (w := ([116, 101, 120, 116] : List Nat)) (by decide)
    · exact dpt_str fun c hc => Nat.lt_trans (h1 c hc) (by decide)
theorem find_last {d : PyData} {p : PyData → Bool} (hd : p d = true) : ∀ {l : List PyData}, (∀ z ∈ l, p z = false) → (l ++ [d]).findIdx? p = some l.length ∧ (l ++ [d]).eraseIdx l.length = l
  | [], _ => by simp [List.findIdx?_cons, hd]
  | x :: r, h => by
    obtain ⟨h1, h2⟩ := find_last (p := p) hd (l := r) fun z hz => h z (List.mem_cons_of_mem _ hz)
    have hx := h x List.mem_cons_self
    constructor
    · rw [List.cons_append, List.findIdx?_cons, hx, h1]
      simp
    · rw [List.cons_append, List.length_cons, List.eraseIdx_cons_succ, h2]
section
variable {n : Nat} {c ls : List PyData} {os : List Ow} {u : Nat} {x3 : MO} {Z : List MO} {G : Loc}
variable {t : Told} {w : Bool} {k : Nat}
theorem mid_step (ok : t.Ok) (hk : k ≤ 7) (h : ∀ o ∈ os, Gd (k + 1) o) (hl : os.length < 12) (hG : GB G) (g6 : G[6]? = some (some (.d (.bool w)))) (g10 : G[10]? = some (some (.d t.D))) :
    ∃ G', GB G' ∧ G'[6]? = some (some (.d (.bool w))) ∧ G'[10]? = some (some (.d t.D)) ∧
    ((∃ x, G'[14]? = some (some (.d (exD x))) ∧ exSs (call (n + 13)) B_mid G (St c os u x3 (os.map Ow.D) Z) = exSs (call (n + 13)) B_end G' (St c os u x3 (os.map Ow.D) Z) ∧ call (n + 13) .l_call [.o 1, .d (.bool w), .d t.D] (St c os u x3 (os.map Ow.D) Z) = .ok (.d (exD x)) (St c os u x3 (os.map Ow.D) Z)) ∨
     (∃ o, Gd k o ∧ o.D ∉ os.map Ow.D ∧ G'[14]? = some (some (.d (txtD o))) ∧ G'[5]? = some (some (.d o.D)) ∧ exSs (call (n + 13)) B_mid G (St c os u x3 (os.map Ow.D) Z) = exSs (call (n + 13)) B_end G' (St c os u x3 ((os ++ [o]).map Ow.D) Z) ∧
       call (n + 13) .l_call [.o 1, .d (.bool w), .d t.D] (St c os u x3 ((os ++ [o]).map Ow.D) Z) = .ok (.d (txtD o)) (St c (os ++ [o]) (Z.length + 5) x3 ((os ++ [o]).map Ow.D) (Z ++ [.lst []])))) := by
  have hr : ∀ o ∈ os, o.Rd := fun o ho => (h o ho).rd
  have fl := c_l_flaw (n := n + 11) (M := St c os u x3 (os.map Ow.D) Z) ok w
  have gA := hG.set (i := 13) (x := some (.d (.str (flawS (t.bad w))))) (.inr (by decide))
  have a13 : (G.set 13 (some (.d (.str (flawS (t.bad w))))))[13]? = some (some (.d (.str (flawS (t.bad w))))) := get_set (by rw [hG.len]; decide)
  have a6 : (G.set 13 (some (.d (.str (flawS (t.bad w))))))[6]? = some (some (.d (.bool w))) := by rw [get_ne (by decide)]; exact g6
  have a10 : (G.set 13 (some (.d (.str (flawS (t.bad w))))))[10]? = some (some (.d t.D)) := by rw [get_ne (by decide)]; exact g10
  have s1 : exS (call (n + 13)) (.set 13 (.call .l_flaw (.cons (.v 6) (.cons (.v 10) .nil)))) G (St c os u x3 (os.map Ow.D) Z) = .nx (G.set 13 (some (.d (.str (flawS (t.bad w)))))) (St c os u x3 (os.map Ow.D) Z) := by
    generalize St c os u x3 (os.map Ow.D) Z = M at *
    simp [exS, evE, evEs, R.bind, R.to, g6, g10, fl]
  generalize G.set 13 (some (.d (.str (flawS (t.bad w))))) = GA at *
  have gB := gA.set (i := 14) (x := some (.d (.tuple [.str (flawS (t.bad w)), .int 0]))) (.inr (by decide))
  have b13 : (GA.set 14 (some (.d (.tuple [.str (flawS (t.bad w)), .int 0]))))[13]? = some (some (.d (.str (flawS (t.bad w))))) := by rw [get_ne (by decide)]; exact a13
  have b14 : (GA.set 14 (some (.d (.tuple [.str (flawS (t.bad w)), .int 0]))))[14]? = some (some (.d (.tuple [.str (flawS (t.bad w)), .int 0]))) := get_set (by rw [gA.len]; decide)
  have b6 : (GA.set 14 (some (.d (.tuple [.str (flawS (t.bad w)), .int 0]))))[6]? = some (some (.d (.bool w))) := by rw [get_ne (by decide)]; exact a6
  have b10 : (GA.set 14 (some (.d (.tuple [.str (flawS (t.bad w)), .int 0]))))[10]? = some (some (.d t.D)) := by rw [get_ne (by decide)]; exact a10
  have l2 : 2 ≤ lim := by decide
  have s2 : exS (call (n + 13)) (.set 14 (.tup (.cons (.v 13) (.cons (.k (.int 0)) .nil)))) GA (St c os u x3 (os.map Ow.D) Z) = .nx (GA.set 14 (some (.d (.tuple [.str (flawS (t.bad w)), .int 0])))) (St c os u x3 (os.map Ow.D) Z) := by
    simp [exS, evE, evEs, R.bind, R.to, a13, asDs, l2]
  generalize GA.set 14 (some (.d (.tuple [.str (flawS (t.bad w)), .int 0]))) = GC at *
  have shE : SeqAt.shaped (.str (⟨#[]⟩ : Str)) = true := by decide +kernel
  have cz : evE (call (n + 13)) (.cmp .eq (.v 13) (.k (.str (⟨#[]⟩ : Str)))) GC (St c os u x3 (os.map Ow.D) Z) = .ok (.d (.bool (decide (flawS (t.bad w) = (⟨#[]⟩ : Str))))) (St c os u x3 (os.map Ow.D) Z) := by
    have shF : SeqAt.shaped (.str (flawS (t.bad w))) = true := by
      have : ∀ y : Option Xc, SeqAt.shaped (.str (flawS y)) = true := by
        intro y
        cases y with
        | none => exact shE
        | some x => cases x <;> decide +kernel
      exact this _
    simp [evE, R.bind, R.of, b13, toD, cmpD, shE, shF, eqv_str]
  have start : ∀ RR, exSs (call (n + 13)) (.cons (.set 13 (.call .l_flaw (.cons (.v 6) (.cons (.v 10) .nil)))) (.cons (.set 14 (.tup (.cons (.v 13) (.cons (.k (.int 0)) .nil)))) RR)) G (St c os u x3 (os.map Ow.D) Z) = exSs (call (n + 13)) RR GC (St c os u x3 (os.map Ow.D) Z) := by
    intro RR
    rw [exSs, s1]
    simp only [F.bind]
    rw [exSs, s2]
    simp only [F.bind]
  unfold B_mid
  rw [start]
  cases hb : t.bad w with
  | some x =>
    rw [hb] at cz b14
    have ne : decide (flawS (some x) = (⟨#[]⟩ : Str)) = false := by cases x <;> decide
    rw [ne] at cz
    refine ⟨GC, gB, b6, b10, .inl ⟨x, b14, ?_, c_call_bad (n := n + 3) ok hb⟩⟩
    rw [exSs, exS, cz]
    simp only [R.to, exSs, F.bind]
  | none =>
    rw [hb] at cz
    obtain ⟨a, key, ser, since, til, why, f, e0, e1, e2, e5, e6, ew⟩ := Told.good ok hb
    obtain ⟨m, hm⟩ := nwO_any (key := key) f.a hr
    have cc := fun ls => c_call (n := n + 3) (c := c) (ls := ls) (u := u) (x3 := x3) (Z := Z) hk f e0 e1 e2 e5 e6 ew h hl hm
    obtain ⟨G', p1, p2, p3, pp⟩ := good_step (n := n) (c := c) (u := u) (x3 := x3) (Z := Z) f e0 e1 e2 e5 e6 ew hk h hl hm gB b6 b10
    have eq : decide (flawS none = (⟨#[]⟩ : Str)) = true := by decide
    rw [eq] at cz
    cases ha : actn w (entsO m) ser why with
    | inl x =>
      rw [ha] at pp
      obtain ⟨_, p4, p5⟩ := pp
      refine ⟨G', p1, p2, p3, .inl ⟨x, p4, ?_, ?_⟩⟩
      · rw [exSs, exS, cz]
        simp only [R.to]
        rw [p5]
        simp only [F.bind]
      · have c2 := cc (os.map Ow.D)
        rw [ha] at c2
        exact c2
    | inr e =>
      rw [ha] at pp
      obtain ⟨_, gd, p4, p5, p6⟩ := pp
      refine ⟨G', p1, p2, p3, .inr ⟨mkO a key m since til e, gd, mk_new hm, p4, p5, ?_, ?_⟩⟩
      · rw [exSs, exS, cz]
        simp only [R.to]
        rw [p6]
        simp only [F.bind]
      · have c2 := cc ((os ++ [mkO a key m since til e]).map Ow.D)
        rw [ha] at c2
        exact c2
theorem ev_st (h : ∀ o ∈ os, Gd k o) (hl : os.length ≤ 12) (hG : GB G) : evE (call (n + 13)) E_st G (St c os u x3 (os.map Ow.D) Z) = .ok (.d (.bool true)) (St c os u x3 (os.map Ow.D) Z) := by
  have hr : ∀ o ∈ os, o.Rd := fun o ho => (h o ho).rd
  have s1 := c_store (n := n + 12) (c := c) (os := os) (u := u) (x3 := x3) (ls := os.map Ow.D) (Z := Z)
  have s2 := c_same_store (n := n + 12) (M := St c os u x3 (os.map Ow.D) Z) h hl
  have at1 : (St c os u x3 (os.map Ow.D) Z)[1]? = some (deskO os u) := rfl
  unfold deskO at at1
  have at4 : (St c os u x3 (os.map Ow.D) Z)[4]? = some (.lst (os.map Ow.D)) := rfl
  have srt := sorted_of (L := os.map Ow.D) (R0 := storeL os) (sortable_D hr) rfl
  have b2 : ∀ q, biD .tuple [.list q] = some (.tuple q) := fun _ => rfl
  have l3 : 3 ≤ lim := by decide
  have l0 : 0 ≤ lim := by decide
  have eL : lotsD os = .tuple [.tuple [], .tuple (storeL os), .tuple []] := rfl
  have e2 : evE (call (n + 13)) (.tup (.cons (.tup .nil) (.cons (.bi .tuple (.cons (.bi .sorted (.cons (.v 3) .nil)) .nil)) (.cons (.tup .nil) .nil)))) G (St c os u x3 (os.map Ow.D) Z) = .ok (.d (lotsD os)) (St c os u x3 (os.map Ow.D) Z) := by
    rw [eL]
    generalize (os.map Ow.D) = L at *
    generalize St c os u x3 L Z = M at *
    simp only [evE, evEs, R.bind, R.of, hG.g3, toD, toDs, at4, srt, b2, asDs, l3, l0, Option.map, List.length_cons, List.length_nil, if_true, Nat.zero_add, Nat.reduceAdd]
  have e1 : evE (call (n + 13)) (.meth .d_store (.v 2) .nil) G (St c os u x3 (os.map Ow.D) Z) = .ok (.d (lotsD os)) (St c os u x3 (os.map Ow.D) Z) := by
    generalize St c os u x3 (os.map Ow.D) Z = M at *
    simp only [evE, evEs, R.bind, hG.g2, at1, Fn.cls, if_true, s1]
  unfold E_st
  rw [evE, evEs, e1]
  simp only [R.bind]
  rw [evEs, e2]
  simp only [R.bind, evEs, s2]
theorem end_ex {x : Xc} (h : ∀ o ∈ os, Gd k o) (hl : os.length ≤ 12) (hG : GB G) (g6 : G[6]? = some (some (.d (.bool w)))) (g10 : G[10]? = some (some (.d t.D))) (g14 : G[14]? = some (some (.d (exD x))))
    (hc : call (n + 13) .l_call [.o 1, .d (.bool w), .d t.D] (St c os u x3 (os.map Ow.D) Z) = .ok (.d (exD x)) (St c os u x3 (os.map Ow.D) Z)) : exSs (call (n + 13)) B_end G (St c os u x3 (os.map Ow.D) Z) = .nx G (St c os u x3 (os.map Ow.D) Z) := by
  obtain ⟨h1, h2⟩ := shw_ex x
  have sm := c_same (n := n + 12) (M := St c os u x3 (os.map Ow.D) Z) h1 (by decide) rfl h2 (by decide)
  have st := ev_st (n := n) (c := c) (u := u) (x3 := x3) (Z := Z) h hl hG
  have i0 : ixD (exD x) (.int 0) = some (.str x.st) := rfl
  have sx : SeqAt.shaped (.str x.st) = true := by cases x <;> decide +kernel
  have st' := sh_of (⟨#[116, 101, 120, 116]⟩ : Str) rfl
  have nt : decide (x.st = (⟨#[116, 101, 120, 116]⟩ : Str)) = false := by cases x <;> decide
  have cb : evE (call (n + 13)) C_bad G (St c os u x3 (os.map Ow.D) Z) = .ok (.d (.bool false)) (St c os u x3 (os.map Ow.D) Z) := by
    generalize St c os u x3 (os.map Ow.D) Z = M at *
    simp only [C_bad, evE, evEs, R.bind, hG.g2, g6, g10, g14, hc, sm, st, Bool.not_true]
  have cu : evE (call (n + 13)) C_un G (St c os u x3 (os.map Ow.D) Z) = .ok (.d (.bool false)) (St c os u x3 (os.map Ow.D) Z) := by
    generalize St c os u x3 (os.map Ow.D) Z = M at *
    simp only [C_un, evE, R.bind, R.of, g14, toD, i0, cmpD, sx, st', eqv_str, nt, Option.map, Bool.and_self, if_true]
  unfold B_end
  rw [exSs, exS, cb]
  simp only [R.to, exSs, F.bind, exS, cu]
theorem un_step {o : Ow} (h : ∀ o ∈ os, o.Rd) (ho : o.Rd) (hn : o.D ∉ os.map Ow.D) (hl : os.length ≤ 100) (hG : GB G) (g14 : G[14]? = some (some (.d (txtD o)))) (g5 : G[5]? = some (some (.d o.D))) :
    exSs (call (n + 13)) B_un G (St c (os ++ [o]) (Z.length + 5) x3 ((os ++ [o]).map Ow.D) (Z ++ [.lst []])) = .nx G (St c os (Z.length + 5) x3 (os.map Ow.D) (Z ++ [.lst [.tuple [.str (⟨#[112, 117, 116]⟩ : Str), .int 1, o.D]]])) := by
  have ud := c_undo (n := n + 9) (c := c) (ls := (os ++ [o]).map Ow.D) (x3 := x3) (Z := Z) h ho hn hl
  have at1 : (St c (os ++ [o]) (Z.length + 5) x3 ((os ++ [o]).map Ow.D) (Z ++ [.lst []]))[1]? = some (deskO (os ++ [o]) (Z.length + 5)) := rfl
  unfold deskO at at1
  have i1 : ixD (txtD o) (.int 1) = some (.str (tx o.T)) := rfl
  have dp : Dpt 1 (.tuple [.str (⟨#[112, 117, 116]⟩ : Str), .str (tx o.T)]) := dpt_tup fun y hy => by
    simp only [List.mem_cons, List.not_mem_nil, or_false] at hy
    rcases hy with q | q <;> subst q
    · exact dpt_str (w := ([112, 117, 116] : List Nat)) (by decide)
    · exact dpt_str fun c hc => Nat.lt_trans (lo_T ho c hc) (by decide)
  have sp := dp.sh (by decide)
  have ep := SeqAt.eqv_refl _ dp.1
  have l2 : 2 ≤ lim := by decide
  have cn : evE (call (n + 13)) (.cmp .ne (.meth .d_undo (.v 2) .nil) (.tup (.cons (.k (.str (⟨#[112, 117, 116]⟩ : Str))) (.cons (.ix (.v 14) (.k (.int 1))) .nil)))) G (St c (os ++ [o]) (Z.length + 5) x3 ((os ++ [o]).map Ow.D) (Z ++ [.lst []])) = .ok (.d (.bool false)) (St c os (Z.length + 5) x3 ((os ++ [o]).map Ow.D) (Z ++ [.lst [.tuple [.str (⟨#[112, 117, 116]⟩ : Str), .int 1, o.D]]])) := by
    generalize St c (os ++ [o]) (Z.length + 5) x3 ((os ++ [o]).map Ow.D) (Z ++ [.lst []]) = M at *
    generalize St c os (Z.length + 5) x3 ((os ++ [o]).map Ow.D) (Z ++ [.lst [.tuple [.str (⟨#[112, 117, 116]⟩ : Str), .int 1, o.D]]]) = M2 at *
    generalize tx o.T = T at *
    simp only [evE, evEs, R.bind, R.of, hG.g2, at1, Fn.cls, if_true, ud, g14, toD, i1, asDs, l2, cmpD, sp, ep, Option.map, Bool.and_self, Bool.not_true, List.length_cons, List.length_nil, Nat.zero_add, Nat.reduceAdd]
  have all : ∀ p ∈ os ++ [o], p.Rd := fun p hp => by
    rcases List.mem_append.mp hp with z | z
    · exact h p z
    · have e : p = o := by simpa using z
      rw [e]; exact ho
  have s1 := (dpt_D ho).sh (by decide)
  have s2 := (dpt_list all).sh (by decide)
  have eM : (os ++ [o]).map Ow.D = os.map Ow.D ++ [o.D] := by simp
  obtain ⟨f1, f2⟩ := find_last (d := o.D) (p := fun z => PyData.eqv z o.D) (by show PyData.eqv o.D o.D = true; rw [eqv_D ho]; simp) (l := os.map Ow.D) (fun z hz => by
    obtain ⟨p, hp, rfl⟩ := List.mem_map.mp hz
    show PyData.eqv p.D o.D = false
    rw [eqv_D (h p hp)]
    simp
    intro e
    exact hn (by rw [← e]; exact List.mem_map_of_mem hp))
  rw [← eM] at f1 f2
  have at4 : (St c os (Z.length + 5) x3 ((os ++ [o]).map Ow.D) (Z ++ [.lst [.tuple [.str (⟨#[112, 117, 116]⟩ : Str), .int 1, o.D]]]))[4]? = some (.lst ((os ++ [o]).map Ow.D)) := rfl
  have fin : (St c os (Z.length + 5) x3 ((os ++ [o]).map Ow.D) (Z ++ [.lst [.tuple [.str (⟨#[112, 117, 116]⟩ : Str), .int 1, o.D]]])).set 4 (.lst (os.map Ow.D)) = St c os (Z.length + 5) x3 (os.map Ow.D) (Z ++ [.lst [.tuple [.str (⟨#[112, 117, 116]⟩ : Str), .int 1, o.D]]]) := rfl
  rw [← fin]
  unfold B_un
  rw [exSs, exS, cn]
  simp only [R.to, exSs, F.bind]
  generalize (os ++ [o]).map Ow.D = LL at *
  generalize St c os (Z.length + 5) x3 LL (Z ++ [.lst [.tuple [.str (⟨#[112, 117, 116]⟩ : Str), .int 1, o.D]]]) = M2 at *
  generalize os.map Ow.D = L0 at *
  generalize o.D = d at *
  simp only [exS, evE, hG.g3, g5, R.to, at4, s1, s2, f1, f2, Bool.and_self, if_true]
theorem end_new {o : Ow} (hc : Cup c) (h : ∀ o ∈ os, Gd k o) (g : Gd k o) (hn : o.D ∉ os.map Ow.D) (hl : os.length < 12) (hG : GB G) (g6 : G[6]? = some (some (.d (.bool w)))) (g10 : G[10]? = some (some (.d t.D))) (g14 : G[14]? = some (some (.d (txtD o)))) (g5 : G[5]? = some (some (.d o.D)))
    (hcall : call (n + 13) .l_call [.o 1, .d (.bool w), .d t.D] (St c os u x3 ((os ++ [o]).map Ow.D) Z) = .ok (.d (txtD o)) (St c (os ++ [o]) (Z.length + 5) x3 ((os ++ [o]).map Ow.D) (Z ++ [.lst []]))) :
    ∃ c' os' u' Z', Cup c' ∧ (∀ o ∈ os', Gd k o) ∧ os'.length ≤ os.length + 1 ∧ exSs (call (n + 13)) B_end G (St c os u x3 ((os ++ [o]).map Ow.D) Z) = .nx G (St c' os' u' x3 (os'.map Ow.D) Z') := by
  have hr : ∀ o ∈ os, o.Rd := fun o ho => (h o ho).rd
  have all : ∀ p ∈ os ++ [o], Gd k p := fun p hp => by
    rcases List.mem_append.mp hp with z | z
    · exact h p z
    · have e : p = o := by simpa using z
      rw [e]; exact g
  obtain ⟨h1, h2⟩ := shw_txt g.rd
  have sm := c_same (n := n + 12) (M := St c (os ++ [o]) (Z.length + 5) x3 ((os ++ [o]).map Ow.D) (Z ++ [.lst []])) h1 (by decide) rfl h2 (by decide)
  have st := ev_st (n := n) (c := c) (u := Z.length + 5) (x3 := x3) (Z := Z ++ [.lst []]) all (by simp; omega) hG
  have cb : evE (call (n + 13)) C_bad G (St c os u x3 ((os ++ [o]).map Ow.D) Z) = .ok (.d (.bool false)) (St c (os ++ [o]) (Z.length + 5) x3 ((os ++ [o]).map Ow.D) (Z ++ [.lst []])) := by
    generalize St c os u x3 ((os ++ [o]).map Ow.D) Z = M at *
    generalize St c (os ++ [o]) (Z.length + 5) x3 ((os ++ [o]).map Ow.D) (Z ++ [.lst []]) = M2 at *
    simp only [C_bad, evE, evEs, R.bind, hG.g2, g6, g10, g14, hcall, sm, st, Bool.not_true]
  obtain ⟨r, c1, hc1, _, e1⟩ := ev_roll (n := n + 12) (os := os ++ [o]) (u := Z.length + 5) (x3 := x3) (ls := (os ++ [o]).map Ow.D) (Z := Z ++ [.lst []]) (m := 4) hc hG.g1 (by decide) (by decide)
  have i0 : ixD (txtD o) (.int 0) = some (.str (⟨#[116, 101, 120, 116]⟩ : Str)) := rfl
  have stx := sh_of (⟨#[116, 101, 120, 116]⟩ : Str) rfl
  have cu : evE (call (n + 13)) C_un G (St c (os ++ [o]) (Z.length + 5) x3 ((os ++ [o]).map Ow.D) (Z ++ [.lst []])) = .ok (.d (.bool (decide (r = 0)))) (St c1 (os ++ [o]) (Z.length + 5) x3 ((os ++ [o]).map Ow.D) (Z ++ [.lst []])) := by
    have dd : decide ((r : Int) = 0) = decide (r = 0) := by simp
    generalize St c (os ++ [o]) (Z.length + 5) x3 ((os ++ [o]).map Ow.D) (Z ++ [.lst []]) = M2 at *
    generalize St c1 (os ++ [o]) (Z.length + 5) x3 ((os ++ [o]).map Ow.D) (Z ++ [.lst []]) = M3 at *
    simp [C_un, evE, R.bind, R.of, g14, toD, i0, cmpD, stx, eqv_str, e1, sh_int, eqv_int, dd]
  by_cases hr0 : r = 0
  · rw [decide_eq_true hr0] at cu
    have us := un_step (n := n) (c := c1) (x3 := x3) (Z := Z) hr g.rd hn (by omega) hG g14 g5
    refine ⟨c1, os, Z.length + 5, Z ++ [.lst [.tuple [.str (⟨#[112, 117, 116]⟩ : Str), .int 1, o.D]]], hc1, h, by omega, ?_⟩
    · unfold B_end
      rw [exSs, exS, cb]
      simp only [R.to, exSs, F.bind]
      rw [exS, cu]
      simp only [R.to]
      rw [us]
  · rw [decide_eq_false hr0] at cu
    refine ⟨c1, os ++ [o], Z.length + 5, Z ++ [.lst []], hc1, all, by simp, ?_⟩
    · unfold B_end
      rw [exSs, exS, cb]
      simp only [R.to, exSs, F.bind]
      rw [exS, cu]
      simp only [R.to, exSs]
end
end K75

set_option Elab.async false
set_option linter.all false
set_option autoImplicit false
set_option maxRecDepth 100000
set_option maxHeartbeats 4000000
/-! Mathematics, part 41: the law answers true. -/
namespace K75
open PySem PySem.W
section
variable {n : Nat} {c ls : List PyData} {os : List Ow} {u : Nat} {x3 : MO} {Z : List MO} {G : Loc}
theorem l2_step {k : Nat} (hG : GB G) (hc : Cup c) (hk : k ≤ 7) (h : ∀ o ∈ os, Gd (k + 1) o) (hl : os.length < 12) :
    ∃ G' c' os' u' Z', GB G' ∧ Cup c' ∧ (∀ o ∈ os', Gd k o) ∧ os'.length ≤ os.length + 1 ∧ exSs (call (n + 13)) B_l2 G (St c os u x3 (os.map Ow.D) Z) = .nx G' (St c' os' u' x3 (os'.map Ow.D) Z') := by
  obtain ⟨G1, c1, w, t, p1, p2, p3, p4, p5, p6⟩ := told_draw (n := n) (os := os) (u := u) (x3 := x3) (ls := os.map Ow.D) (Z := Z) hG hc
  obtain ⟨G2, c2, t2, q1, q2, q3, q4, q5, q6⟩ := odd_draw (n := n) (os := os) (u := u) (x3 := x3) (ls := os.map Ow.D) (Z := Z) p1 p2 p3 p4 p5
  obtain ⟨G3, r1, r2, r3, rr⟩ := mid_step (n := n) (c := c2) (u := u) (x3 := x3) (Z := Z) q5 hk h hl q1 q3 q4
  have hd : ∀ o ∈ os, Gd k o := fun o ho => (h o ho).down (by omega)
  have start : exSs (call (n + 13)) B_l2 G (St c os u x3 (os.map Ow.D) Z) = exSs (call (n + 13)) B_mid G2 (St c2 os u x3 (os.map Ow.D) Z) := by
    unfold B_l2
    rw [p6, exSs, q6]
    simp only [F.bind]
  rcases rr with ⟨x, s1, s2, s3⟩ | ⟨o, s0, s1, s2, s3, s4, s5⟩
  · refine ⟨G3, c2, os, u, Z, r1, q2, hd, by omega, ?_⟩
    rw [start, s2]
    exact end_ex hd (by omega) r1 r2 r3 s1 s3
  · obtain ⟨c3, os', u', Z', t1, t2, t3, t4⟩ := end_new (n := n) (u := u) (x3 := x3) (Z := Z) q2 hd s0 s1 hl r1 r2 r3 s2 s3 s5
    refine ⟨G3, c3, os', u', Z', r1, t1, t2, t3, ?_⟩
    rw [start, s4, t4]
theorem loop_two (hG : GB G) (hc : Cup c) (h : ∀ o ∈ os, Gd 8 o) (hl : os.length ≤ 4) {j : Nat} (hj : j ≤ 8) :
    ∃ G' c' os' u' Z', GB G' ∧ Cup c' ∧ (∀ o ∈ os', Gd 0 o) ∧ os'.length ≤ 12 ∧ forL (fun x G => some (G.set 4 (some (.d x)))) (fun G M => exSs (call (n + 13)) B_l2 G M) ((List.range j).map fun (j : Nat) => .int (j : Int)) G (St c os u x3 (os.map Ow.D) Z) = .nx G' (St c' os' u' x3 (os'.map Ow.D) Z') := by
  obtain ⟨G2, M2, e, c', os', u', Z', h1, h2, h3, h4, h5, h6⟩ := forL_inv (put := fun x G => some (G.set 4 (some (.d x)))) (b := fun G M => exSs (call (n + 13)) B_l2 G M)
    (P := fun xs G M => ∃ c' os' u' Z', GB G ∧ Cup c' ∧ (∀ o ∈ os', Gd xs.length o) ∧ os'.length + xs.length ≤ 12 ∧ xs.length ≤ 8 ∧ M = St c' os' u' x3 (os'.map Ow.D) Z')
    (fun x r G M ⟨c1, os1, u1, Z1, p1, p2, p3, p4, p5, p6⟩ => by
      subst p6
      rw [List.length_cons] at p3 p4 p5
      obtain ⟨G', c', os', u', Z', q1, q2, q3, q4, q5⟩ := l2_step (n := n) (u := u1) (x3 := x3) (Z := Z1) (k := r.length) (p1.set (i := 4) (x := some (.d x)) (.inr (by decide))) p2 (by omega) p3 (by omega)
      exact ⟨_, _, _, rfl, q5, c', os', u', Z', q1, q2, q3, by omega, by omega, rfl⟩)
    (xs := (List.range j).map fun (j : Nat) => .int (j : Int)) (G := G) (M := St c os u x3 (os.map Ow.D) Z) ⟨c, os, u, Z, hG, hc, fun o ho => (h o ho).down (by simpa using hj), by simp; omega, by simpa using hj, rfl⟩
  subst h6
  exact ⟨G2, c', os', u', Z', h1, h2, h3, by simpa using h4, e⟩
/-! ### the deeds -/
theorem compL_len {put : PyData → Option Loc} {cc elt : Loc → Sto → R Val} {M : Sto} : ∀ {xs acc : List PyData}, (∀ x ∈ xs, ∃ G y, put x = some G ∧ cc G M = .ok (.d (.bool true)) M ∧ elt G M = .ok (.d y) M) → acc.length + xs.length ≤ lim → ∃ ys, ys.length = xs.length ∧ compL put cc elt xs M acc = .ok (acc ++ ys) M
  | [], acc, _, _ => ⟨[], rfl, by simp [compL]⟩
  | x :: r, acc, h, l => by
    obtain ⟨G, y, h1, h2, h3⟩ := h x List.mem_cons_self
    rw [List.length_cons] at l
    have l2 : acc.length < lim := by omega
    obtain ⟨ys, e1, e2⟩ := compL_len (put := put) (cc := cc) (elt := elt) (xs := r) (acc := acc ++ [y]) (fun z hz => h z (List.mem_cons_of_mem _ hz)) (by simp; omega)
    exact ⟨y :: ys, by simp [e1], by simp [compL, h1, h2, h3, R.bind, l2, e2]⟩
def X_dd : E := .tup (.cons (.v 1) (.cons (.call .thing_text (.cons (.ix (.g (⟨#[83, 79, 82, 84, 83]⟩ : Str) (.tuple [(.str (⟨#[99, 101, 114, 116, 105, 102, 105, 99, 97, 116, 101]⟩ : Str)), (.str (⟨#[108, 105, 115, 116]⟩ : Str)), (.str (⟨#[97, 110, 99, 104, 111, 114]⟩ : Str))])) (.v 2)) (.cons (.v 3) .nil))) .nil))
theorem ir_dd : ir_d_deeds = ⟨1, 3, (.cons (.ret (.compU [1, 2, 3] (.fld (.v 0) .done) X_dd)) .nil), false⟩ := rfl
theorem c_deeds (h : ∀ o ∈ os, o.Rd) (hl : os.length ≤ 1000) : ∃ ys : List PyData, ys.length = os.length ∧ call (n + 4) .d_deeds [.o 1] (St c os u x3 ls Z) = .ok (.d (.list ys)) (St c os u x3 ls Z) := by
  have at1 : (St c os u x3 ls Z)[1]? = some (deskO os u) := rfl
  unfold deskO at at1
  have at2 : (St c os u x3 ls Z)[2]? = some (.lst (doneD os)) := rfl
  have tt := fun o ho => c_thing_text (n := n) (M := St c os u x3 ls Z) (h o ho)
  have l2 : 2 ≤ lim := by decide
  obtain ⟨ys, e1, e2⟩ := compL_len (M := St c os u x3 ls Z) (put := fun x => unpD (wipeG [some (.o 1), none, none, none] [1, 2, 3]) [1, 2, 3] x) (cc := fun _ M => .ok (.d (.bool true)) M) (elt := stillE (.o 2) fun G M => evE (call (n + 3)) X_dd G M) (xs := doneD os) (acc := []) (fun x hx => by
    obtain ⟨o, ho, rfl⟩ := List.mem_map.mp hx
    refine ⟨[some (.o 1), some (.d (.str (⟨#[112, 117, 116]⟩ : Str))), some (.d (.int 1)), some (.d o.D)], .tuple [.str (⟨#[112, 117, 116]⟩ : Str), .str (tx o.T)], rfl, rfl, stillE_ok ?_⟩
    have t1 := tt o ho
    have i1 : ixD (.tuple [(.str (⟨#[99, 101, 114, 116, 105, 102, 105, 99, 97, 116, 101]⟩ : Str)), (.str (⟨#[108, 105, 115, 116]⟩ : Str)), (.str (⟨#[97, 110, 99, 104, 111, 114]⟩ : Str))]) (.int 1) = some (.str (⟨#[108, 105, 115, 116]⟩ : Str)) := rfl
    generalize St c os u x3 ls Z = M at *
    generalize tx o.T = T at *
    generalize o.D = d at *
    simp [X_dd, evE, evEs, R.bind, R.of, toD, i1, t1, asDs, l2]) (by simp [doneD]; unfold lim; omega)
  refine ⟨ys, by rw [e1, doneD_len], ?_⟩
  show runB (call (n + 3)) ir_d_deeds [.o 1] (St c os u x3 ls Z) = _
  have w : walked (St c os u x3 ls Z) (.o 2) = some (doneD os) := by simp [walked, toD, at2, seqD]
  have lk : ∀ x y z, List.lookup Fd.done [(.lots, x), (.done, y), (.undone, z)] = some (y : Val) := fun _ _ _ => rfl
  have ev : evE (call (n + 3)) (.compU [1, 2, 3] (.fld (.v 0) .done) X_dd) [some (.o 1), none, none, none] (St c os u x3 ls Z) = .ok (.d (.list ys)) (St c os u x3 ls Z) := by
    have f : evE (call (n + 3)) (.fld (.v 0) .done) [some (.o 1), none, none, none] (St c os u x3 ls Z) = .ok (.o 2) (St c os u x3 ls Z) := by
      generalize St c os u x3 ls Z = M at *
      simp [evE, R.bind, at1, lk, R.of]
    unfold evE
    simp only [f, R.bind, w, e2, noX, List.nil_append]
  rw [ir_dd]
  simp only [runB, exSs, exS, List.length_cons, List.length_nil, List.map_cons, List.map_nil, List.replicate_succ, List.replicate_zero, List.cons_append, List.nil_append, if_true, ev, R.to, F.bind, Bool.false_eq_true, if_false]
end
/-! ### the law -/
theorem mk_desk {n : Nat} {c : List PyData} {G : Loc} : evE (call (n + 1)) (.mk .desk .nil) G [.lst c] = .ok (.o 1) [.lst c, deskO [] 3, .lst [], .lst []] := by
  have i : call (n + 1) .d_init [.o 1] [.lst c, .ins .desk []] = .ok (.d .none) [.lst c, deskO [] 3, .lst [], .lst []] := by
    show runB (call n) ir_d_init [.o 1] [.lst c, .ins .desk []] = _
    have l3 : 3 ≤ lim := by decide
    have l0 : 0 ≤ lim := by decide
    have e : lotsD [] = .tuple [.tuple [], .tuple [], .tuple []] := by simp [lotsD, storeL]
    unfold deskO
    rw [e]
    simp [ir_d_init, runB, exSs, exS, evE, evEs, R.bind, R.to, R.of, F.bind, toD, toDs, asDs, binD, cmpD, ixD, toSlD, fromSlD, biD, isiD, dmD, tixD, noX, walked, seqD, boolsD, strsD, unpD, setAll, wipeG, pickD, stillE, List.lookup, fdb, Fn.cls, sh_int, sh_bool, sh_none, eqv_int, eqv_str, lim1, lim2, lim3, lim4, lim5, lim6, lim7, lim8, lim9, lim10, lim11, lim12, putFd]
  simp [evE, evEs, R.bind, Cl.init, i]
theorem c_law (ns : List Int) (hl : ns.length ≤ 1000) : ∃ M, call 14 .law [.d (.list (ns.map .int))] [] = .ok (.d (.bool true)) M := by
  obtain ⟨c, hc, e1⟩ := c_l_cup (n := 12) ns hl
  have G0 : ∃ G : Loc, G = [some (.d (.list (ns.map .int))), some (.o 0), some (.o 1), some (.o 4), none, none, none, none, none, none, none, none, none, none, none, none, none, none, none, none] := ⟨_, rfl⟩
  obtain ⟨G, eG⟩ := G0
  have hG : GB G := by subst eG; exact ⟨rfl, rfl, rfl, rfl⟩
  obtain ⟨r, c1, hc1, hr, e2⟩ := ev_roll (n := 12) (os := []) (u := 3) (x3 := .lst []) (ls := []) (Z := []) (m := 5) hc hG.g1 (by decide) (by decide)
  obtain ⟨G1, c2, os1, u1, Z1, p1, p2, p3, p4, p5⟩ := loop_one (n := 0) (u := 3) (x3 := .lst []) (Z := []) hG hc1 (j := r) (by omega)
  obtain ⟨r2, c3, hc3, hr2, e3⟩ := ev_roll (n := 12) (os := os1) (u := u1) (x3 := .lst []) (ls := os1.map Ow.D) (Z := Z1) (m := 8) p2 p1.g1 (by decide) (by decide)
  obtain ⟨G2, c4, os2, u2, Z2, q1, q2, q3, q4, q5⟩ := loop_two (n := 0) (u := u1) (x3 := .lst []) (Z := Z1) p1 hc3 p3 p4 (j := r2 + 1) (by omega)
  have st := ev_st (n := 0) (c := c4) (u := u2) (x3 := .lst []) (Z := Z2) q3 q4 q1
  obtain ⟨ys, y1, y2⟩ := c_deeds (n := 9) (c := c4) (u := u2) (x3 := .lst []) (ls := os2.map Ow.D) (Z := Z2) (fun o ho => (q3 o ho).rd) (by omega)
  refine ⟨St c4 os2 u2 (.lst []) (os2.map Ow.D) Z2, ?_⟩
  show runB (call 13) ir_law [.d (.list (ns.map .int))] [] = _
  have md := mk_desk (n := 12) (c := c) (G := [some (.d (.list (ns.map .int))), some (.o 0), none, none, none, none, none, none, none, none, none, none, none, none, none, none, none, none, none, none])
  have eS : ([.lst c, deskO [] 3, .lst [], .lst []] : Sto) ++ [.lst []] = St c [] 3 (.lst []) [] [] := rfl
  have at1 : (St c4 os2 u2 (.lst []) (os2.map Ow.D) Z2)[1]? = some (deskO os2 u2) := rfl
  unfold deskO at at1
  have at4 : (St c4 os2 u2 (.lst []) (os2.map Ow.D) Z2)[4]? = some (.lst (os2.map Ow.D)) := rfl
  have ln : ∀ q : List PyData, biD .len [.list q] = some (.int q.length) := fun _ => rfl
  have fin : evE (call 13) (.and E_st (.cmp .eq (.bi .len (.cons (.meth .d_deeds (.v 2) .nil) .nil)) (.bi .len (.cons (.v 3) .nil)))) G2 (St c4 os2 u2 (.lst []) (os2.map Ow.D) Z2) = .ok (.d (.bool true)) (St c4 os2 u2 (.lst []) (os2.map Ow.D) Z2) := by
    have lL : (os2.map Ow.D).length = os2.length := by simp
    generalize (os2.map Ow.D) = L at *
    generalize St c4 os2 u2 (.lst []) L Z2 = M at *
    rw [evE, st]
    simp [R.bind, evE, evEs, q1.g2, q1.g3, at1, Fn.cls, y2, toDs, toD, at4, ln, R.of, cmpD, sh_int, eqv_int, y1, lL]
  have s1 : exS (call 13) (.forR 4 (roll_ 1 5) B_l1) G (St c [] 3 (.lst []) [] []) = .nx G1 (St c2 os1 u1 (.lst []) (os1.map Ow.D) Z1) := by
    rw [exS, e2]
    have b : -1000 < (r : Int) ∧ (r : Int) < 1000 := by omega
    simp only [R.to]
    rw [if_pos b, Int.toNat_natCast]
    exact p5
  have s2 : exS (call 13) (.forR 4 (.bin .add (.k (.int 1)) (roll_ 1 8)) B_l2) G1 (St c2 os1 u1 (.lst []) (os1.map Ow.D) Z1) = .nx G2 (St c4 os2 u2 (.lst []) (os2.map Ow.D) Z2) := by
    have ev : evE (call 13) (.bin .add (.k (.int 1)) (roll_ 1 8)) G1 (St c2 os1 u1 (.lst []) (os1.map Ow.D) Z1) = .ok (.d (.int ((r2 + 1 : Nat) : Int))) (St c3 os1 u1 (.lst []) (os1.map Ow.D) Z1) := by
      have a : binD .add (.int 1) (.int r2) = some (.int ((r2 + 1 : Nat) : Int)) := by
        have : binD .add (.int 1) (.int r2) = some (.int (1 + (r2 : Int))) := rfl
        rw [this]
        congr 2
        omega
      rw [evE, evE]
      simp only [R.bind, e3, toD, a, R.of, Option.map]
    rw [exS, ev]
    have b : -1000 < ((r2 + 1 : Nat) : Int) ∧ ((r2 + 1 : Nat) : Int) < 1000 := by omega
    simp only [R.to]
    rw [if_pos b, Int.toNat_natCast]
    exact q5
  rw [ir_law_is]
  have b1 : exS (call 13) (.set 1 (.call .l_cup (.cons (.v 0) .nil))) [some (.d (.list (ns.map .int))), none, none, none, none, none, none, none, none, none, none, none, none, none, none, none, none, none, none, none] [] = .nx [some (.d (.list (ns.map .int))), some (.o 0), none, none, none, none, none, none, none, none, none, none, none, none, none, none, none, none, none, none] [.lst c] := by
    simp [exS, evE, evEs, R.bind, R.to, e1]
  have b2 : exS (call 13) (.parN 2 3 (.mk .desk .nil)) [some (.d (.list (ns.map .int))), some (.o 0), none, none, none, none, none, none, none, none, none, none, none, none, none, none, none, none, none, none] [.lst c] = .nx G (St c [] 3 (.lst []) [] []) := by
    subst eG
    rw [exS, md]
    rfl
  simp only [runB, List.length_cons, List.length_nil, List.map_cons, List.map_nil, List.replicate_succ, List.replicate_zero, List.cons_append, List.nil_append, if_true]
  rw [exSs, b1]
  simp only [F.bind]
  rw [exSs, b2]
  simp only [F.bind]
  rw [exSs, s1]
  simp only [F.bind]
  rw [exSs, s2]
  simp only [F.bind]
  rw [exSs, exS, fin]
  simp only [R.to, F.bind, Bool.false_eq_true, if_false]
end K75

set_option Elab.async false
set_option linter.all false
set_option maxRecDepth 100000
set_option maxHeartbeats 0
/-! Part 42: the law holds. -/
open PySem PySem.W PySem.Calls PyProof.Rows
theorem PySem.Challenge.cw_chainpapers_k75_whole_withdrawals_holds : PySem.Challenge.rw_chainpapers_k75_whole_withdrawals.Holds := by
  refine K75.law_of fun said => ?_
  refine HandSHeadRun.head_any (r := K75.R0) (q := K75.V0) (H := K75.myHook) (ob := K75.seeT) (M := 9000) (loose := K75.names) (d := HandSHeadRun.topDef K75.R0.prog 162) (kwd := []) K75.seeT_eq
    (by kernel_rfl) (fun s => by kernel_rfl) K75.run_top (by kernel_rfl) (by kernel_rfl) (by kernel_rfl) (by rfl) said (by decide +kernel) ⟨rfl, rfl, rfl, rfl, rfl, by decide +kernel⟩ ?hw ?hc
  case hw => w_witness2
  case hc =>
    refine K75.walk_end (l := PySem.Challenge.rw_chainpapers_k75_whole_withdrawals) (n := 63) rfl (by decide) (by kernel_rfl) 14 ⟨rfl, by decide, by decide⟩ (fun ns hl _ => K75.c_law ns (by omega)) ?fact
    intro w mg h Y G
    obtain ⟨K, kin, e⟩ := Y
    obtain ⟨⟨fdo, fds⟩, fc, gl⟩ := K75.saw_facts G kin e
    have en : (HandSHeadRun.topDef K75.R0.prog 162).name = ("law" : PySem.Str) := by kernel_rfl
    exact ⟨K, fdo, kin, fds, fc, by rw [en]; exact gl⟩
