import PyProof.Rows.All
import Wide.All
import OpenK.AllK
import Wide.FinOn
import HandS.ForMost
import HandS.WordsExc
import HandS.TryMany
import HandS.CallSlots
import HandS.IsInst
import HandS.Evl
import HandS.Style
import HandS.Flow
import HandS.Wide
import HandS.Replace
import HandS.TupAny
import HandS.TupMul
import KE.DataCmp
import HandS.Conv
import PyProof.ListStr
import PyProof.Rows.RegReprOcc
import PyProof.Rows.StrStrike
import KE.OsRunLaw
import HandS.EndBits
import HandS.Words
import PyProof.ExcBaseAll.ValueError
import PySem.Challenge.RW_asonetypes_k11_what_comes_of_texts
set_option Elab.async false
set_option linter.all false
section
set_option autoImplicit false
/-! A small language with values: what a def's body computes, as a plain function. No library in sight. -/
namespace Itp
/-- data that never changes -/
inductive D where
  | non | bl (b : Bool) | int (i : Int) | str (s : List Nat) | tup (xs : List D) | lst (xs : List D) | ro (xs : List D)
/-- an object that its slot owns -/
inductive Ob where
  | lst (xs : List D) | dct (kvs : List (D × D))
/-- lck: put aside while it is walked -/
inductive SV where
  | val (d : D) | own (io : Bool) (o : Ob) | lck
abbrev Env := List (Option SV)
/-- a value that comes of an expression: data, a new object, the object of a slot -/
inductive R where
  | val (d : D) | own (o : Ob) | loc (i : Nat)
/-- what a def hands back -/
inductive RV where
  | val (d : D) | own (o : Ob)
structure Exn where
  cls : Nat
  pay : Option D
inductive Rs (α : Type) where
  | ok (a : α) (ρ : Env) | ex (x : Exn) (ρ : Env)
abbrev M (α : Type) := Env → Option (Rs α)
def M.pure {α : Type} (a : α) : M α := fun ρ => some (.ok a ρ)
def M.stuck {α : Type} : M α := fun _ => none
def M.bind {α β : Type} (m : M α) (f : α → M β) : M β := fun ρ =>
  match m ρ with
  | some (.ok a ρ') => f a ρ'
  | some (.ex x ρ') => some (.ex x ρ')
  | none => none
def M.of {α : Type} : Option α → M α
  | some a => M.pure a
  | none => M.stuck
def lim : Nat := 16777216

/-! ### data -/
mutual
def D.eqv : D → D → Bool
  | .non, .non => true
  | .bl a, .bl b => a == b
  | .bl a, .int j => (if a then 1 else 0) == j
  | .int i, .bl b => i == (if b then 1 else 0)
  | .int i, .int j => i == j
  | .str a, .str b => a == b
  | .tup a, .tup b => D.eqvs a b
  | .lst a, .lst b => D.eqvs a b
  | .ro a, .ro b => D.eqvs a b
  | .ro a, .lst b => D.eqvs a b
  | .lst a, .ro b => D.eqvs a b
  | _, _ => false
def D.eqvs : List D → List D → Bool
  | [], [] => true
  | x :: xs, y :: ys => D.eqv x y && D.eqvs xs ys
  | _, _ => false
end
mutual
def D.dep : D → Nat
  | .tup xs => D.deps xs + 1
  | .lst xs => D.deps xs + 1
  | .ro xs => D.deps xs + 1
  | _ => 0
def D.deps : List D → Nat
  | [] => 0
  | x :: xs => max (D.dep x) (D.deps xs)
end
mutual
/-- the two can be compared by their order -/
def D.alk : D → D → Bool
  | .bl _, .bl _ => true
  | .int _, .int _ => true
  | .str _, .str _ => true
  | .tup xs, .tup ys => D.alks xs ys
  | _, _ => false
def D.alks : List D → List D → Bool
  | x :: xs, y :: ys => D.alk x y && D.alks xs ys
  | [], _ => true
  | _ :: _, [] => true
end
mutual
def D.ltq : D → D → Bool
  | .bl a, .bl b => decide ((if a then (1 : Int) else 0) < (if b then 1 else 0))
  | .int i, .int j => decide (i < j)
  | .str a, .str b => decide (a < b)
  | .tup xs, .tup ys => D.ltqs xs ys
  | _, _ => false
def D.ltqs : List D → List D → Bool
  | x :: xs, y :: ys => if D.eqv x y then D.ltqs xs ys else D.ltq x y
  | [], [] => false
  | [], _ :: _ => true
  | _ :: _, [] => false
end
def D.tru : D → Bool
  | .non => false
  | .bl b => b
  | .int i => i != 0
  | .str s => !s.isEmpty
  | .tup xs => !xs.isEmpty
  | .lst xs => !xs.isEmpty
  | .ro xs => !xs.isEmpty
def Ob.toD : Ob → Option D
  | .lst xs => some (.lst xs)
  | .dct _ => none
/-- flat: not a list or tuple -/
def D.flat : D → Bool
  | .tup _ => false
  | .lst _ => false
  | .ro _ => false
  | _ => true

/-! ### the language -/
inductive BOp where
  | add | sub | mul | fdiv | mod | pow
inductive COp where
  | eq | ne | lt | le | gt | ge | is | isNot | mem | notMem
inductive Bi where
  | len | list | tuple | all | any | sum | max | min | int
inductive Ty where
  | int | str | tuple | list | bool
inductive Mt where
  | join | count
inductive Mm where
  | append | pop | popAt
inductive ItK where
  | over | rng1 | rng2
inductive Tg where
  | nm (i : Nat) | tup (is : List Nat)
inductive Xp where
  | k (d : D)
  | g (x : Nat) (d : D)
  | v (i : Nat)
  | bin (o : BOp) (a b : Xp)
  | neg (a : Xp)
  | nt (a : Xp)
  | and (a b : Xp)
  | or (a b : Xp)
  | cmp (o : COp) (a b : Xp)
  | chn (o p : COp) (a b c : Xp)
  | ife (t a b : Xp)
  | tup (es : Xp)
  | lst (es : Xp)
  | anil
  | acons (a es : Xp)
  | ix (a i : Xp)
  | sl (a lo hi : Xp)
  | rev (a : Xp)
  | bi (f : Bi) (es : Xp)
  | isi (t : Ty) (a : Xp)
  | repl (a x y : Xp)
  | mt (m : Mt) (a es : Xp)
  | mm (m : Mm) (i : Nat) (es : Xp)
  | call (f : Nat) (es : Xp)
  | lc (elt : Xp) (t : Tg) (ik : ItK) (a b cond : Xp) (own : List Nat)
inductive Su where
  | ret (d : D) | cont | nop | pay
inductive Hd where
  | nil | cons (cls : Nat) (s : Su) (r : Hd)
inductive St where
  | asg (i : Nat) (f : Bool) (e : Xp)
  | mov (i j : Nat)
  | asgT (t : Tg) (e : Xp)
  | par (ts : List (Nat × Bool)) (es : Xp)
  | setix (i : Nat) (ie e : Xp)
  | expr (e : Xp)
  | ret (e : Xp)
  | retv (i : Nat)
  | ite (t : Xp) (a b : St)
  | seq (a b : St)
  | nop
  | for_ (t : Tg) (ik : ItK) (x y : Xp) (b : St)
  | whl (t : Xp) (b : St)
  | cont
  | brk
  | raise (c : Nat)
  | try_ (b : St) (hs : Hd)

/-! ### operations by values -/
def natOf (i : Int) (n : Nat) : Option Nat := if 0 ≤ i then (if i < n then some i.toNat else none) else if -(n : Int) ≤ i then some (i + n).toNat else none
def atD {α : Type} (xs : List α) (i : Int) : Option α := (natOf i xs.length).bind fun j => xs[j]?
/-- a slice's bound as a place among n -/
def sIx (n d : Nat) : Option Int → Nat
  | none => d
  | some k => if k < 0 then (k + n).toNat else min k.toNat n
def cut {α : Type} (xs : List α) (lo hi : Option Int) : List α := (xs.drop (sIx xs.length 0 lo)).take (sIx xs.length xs.length hi - sIx xs.length 0 lo)
def smallI (i : Int) : Bool := decide (-(2 ^ 64) < i) && decide (i < 2 ^ 64)
def binD : BOp → D → D → Option RV
  | .add, .int i, .int j => some (.val (.int (i + j)))
  | .add, .str a, .str b => if a.length + b.length ≤ lim then some (.val (.str (a ++ b))) else none
  | .add, .tup a, .tup b => if a.isEmpty then none else if a.length + b.length ≤ lim then some (.val (.tup (a ++ b))) else none
  | .add, .lst a, .lst b => if a.length + b.length ≤ lim then some (.own (.lst (a ++ b))) else none
  | .sub, .int i, .int j => some (.val (.int (i - j)))
  | .mul, .int i, .int j => if smallI i || smallI j then some (.val (.int (i * j))) else none
  | .fdiv, .int i, .int j => if j ≠ 0 ∧ j.natAbs < 1073741824 then some (.val (.int (i.fdiv j))) else none
  | .mod, .int i, .int j => if j ≠ 0 then some (.val (.int (i.fmod j))) else none
  | .pow, .int i, .int j => if 0 ≤ j ∧ j ≤ 100 ∧ i.natAbs < 2 ^ 64 then some (.val (.int (i ^ j.toNat))) else none
  | _, _, _ => none
def eqD (a b : D) : Option Bool := if min a.dep b.dep ≤ 64 then some (a.eqv b) else none
def memD (x : D) (ys : List D) : Option Bool := if min (D.deps ys) x.dep ≤ 64 then some (ys.any fun y => y.eqv x) else none
/-- a text of one sign -/
def sgn : D → Option Nat
  | .str [c] => some c
  | _ => none
def memQ (x : D) : D → Option Bool
  | .str b => (sgn x).map fun c => decide (c ∈ b)
  | .tup ys => memD x ys
  | .lst ys => memD x ys
  | _ => none
def cmpD : COp → D → D → Option Bool
  | .eq, a, b => eqD a b
  | .ne, a, b => (eqD a b).map (!·)
  | .lt, .int i, .int j => some (decide (i < j))
  | .le, .int i, .int j => some (decide (i ≤ j))
  | .gt, .int i, .int j => some (decide (j < i))
  | .ge, .int i, .int j => some (decide (j ≤ i))
  | .lt, .str a, .str b => some (decide (a < b))
  | .lt, .tup a, .tup b => if D.alks a b ∧ min (D.deps a) (D.deps b) ≤ 64 then some (D.ltqs a b) else none
  | .is, a, .non => some (match a with | .non => true | _ => false)
  | .isNot, a, .non => some (match a with | .non => false | _ => true)
  | .mem, a, b => memQ a b
  | .notMem, a, b => (memQ a b).map (!·)
  | _, _, _ => none
def ixD : D → D → Option D
  | .tup xs, .int i => atD xs i
  | .lst xs, .int i => atD xs i
  | .ro xs, .int i => atD xs i
  | .str s, .int i => (atD s i).map fun c => .str [c]
  | _, _ => none
def slD : D → Option Int → Option Int → Option RV
  | .str s, lo, hi => some (.val (.str (cut s lo hi)))
  | .tup xs, lo, hi => if (cut xs lo hi).length = xs.length then none else some (.val (.tup (cut xs lo hi)))
  | .lst xs, lo, hi => some (.own (.lst (cut xs lo hi)))
  | _, _, _ => none
def tyD : Ty → D → Bool
  | .int, .int _ => true
  | .int, .bl _ => true
  | .str, .str _ => true
  | .tuple, .tup _ => true
  | .list, .lst _ => true
  | .list, .ro _ => true
  | .bool, .bl _ => true
  | _, _ => false
def allBl : List D → Option Bool
  | [] => some true
  | .bl b :: xs => (allBl xs).map (b && ·)
  | _ => none
def anyBl : List D → Option Bool
  | [] => some false
  | .bl b :: xs => (anyBl xs).map (b || ·)
  | _ => none
def sumI : List D → Option Int
  | [] => some 0
  | .int i :: xs => (sumI xs).map (i + ·)
  | _ => none
def lenD : D → Option Nat
  | .str s => some s.length
  | .tup xs => some xs.length
  | .lst xs => some xs.length
  | .ro xs => some xs.length
  | _ => none
def listD : D → Option (List D)
  | .str s => some (s.map fun c => .str [c])
  | .tup xs => some xs
  | .lst xs => some xs
  | _ => none
def seqD : D → Option (List D)
  | .tup xs => some xs
  | .lst xs => some xs
  | _ => none
def lstD : D → Option (List D)
  | .lst xs => some xs
  | _ => none
def intD : D → Option Int
  | .int i => some i
  | .bl b => some (if b then 1 else 0)
  | _ => none
def bi1 : Bi → D → Option RV
  | .len, d => (lenD d).map fun (n : Nat) => RV.val (.int (n : Int))
  | .list, d => (listD d).map fun xs => .own (.lst xs)
  | .tuple, d => (seqD d).map fun xs => .val (.tup xs)
  | .all, d => ((lstD d).bind allBl).map fun b => .val (.bl b)
  | .any, d => ((lstD d).bind anyBl).map fun b => .val (.bl b)
  | .sum, d => ((lstD d).bind sumI).map fun b => .val (.int b)
  | .int, d => (intD d).map fun i => .val (.int i)
  | _, _ => none
def max2D : D → D → Option RV
  | .int i, .int j => some (.val (.int (if j > i then j else i)))
  | _, _ => none
def min2D : D → D → Option RV
  | .int i, .int j => some (.val (.int (if j < i then j else i)))
  | _, _ => none
def bi2 : Bi → D → D → Option RV
  | .max, x, y => max2D x y
  | .min, x, y => min2D x y
  | _, _, _ => none
def biD (f : Bi) : List D → Option RV
  | [] => none
  | x :: r => match r with
    | [] => bi1 f x
    | y :: r => match r with
      | [] => bi2 f x y
      | _ :: _ => none
def strsOf : List D → Option (List (List Nat))
  | [] => some []
  | .str s :: xs => (strsOf xs).map (s :: ·)
  | _ => none
def joinS (sep : List Nat) : List (List Nat) → List Nat
  | [] => []
  | s :: r => match r with
    | [] => s
    | _ :: _ => s ++ sep ++ joinS sep r
def strOf : D → Option (List Nat)
  | .str s => some s
  | _ => none
def joinD (p d : D) : Option RV := (strOf p).bind fun sep => ((lstD d).bind strsOf).bind fun ss =>
  if (ss.map List.length).sum + ss.length * sep.length ≤ lim then some (.val (.str (joinS sep ss))) else none
def countD (p d : D) : Option RV := (strOf p).bind fun s => (sgn d).map fun c => RV.val (.int ((s.count c : Nat) : Int))
def mt1 : Mt → D → D → Option RV
  | .join, p, d => joinD p d
  | .count, p, d => countD p d
def mtD (m : Mt) (p : D) : List D → Option RV
  | [] => none
  | x :: r => match r with
    | [] => mt1 m p x
    | _ :: _ => none
/-- a method that changes the list: what it gives, the list behind it -/
def mmD : Mm → List D → List D → Option (D × List D)
  | .append, xs, [d] => if xs.length < lim then some (.non, xs ++ [d]) else none
  | .pop, xs, [] => (xs.getLast?).map fun d => (d, xs.dropLast)
  | .popAt, xs, [.int i] => (natOf i xs.length).bind fun j => (xs[j]?).map fun d => (d, xs.eraseIdx j)
  | _, _, _ => none

/-! ### meaning -/
/-- an argument, a slot's object -/
inductive AR where
  | val (d : D) | loc (i : Nat)
/-- to be kept -/
def R.dat : R → Option D
  | .val d => some d
  | .own o => o.toD
  | .loc _ => none
def slotOb (ρ : Env) (i : Nat) : Option (Bool × Ob) := match ρ[i]? with
  | some (some (.own io o)) => some (io, o)
  | _ => none
/-- to be read -/
def R.rd (ρ : Env) : R → Option D
  | .val d => some d
  | .own o => o.toD
  | .loc i => (slotOb ρ i).bind fun p => p.2.toD
def R.ar : R → Option AR
  | .val d => some (.val d)
  | .own o => o.toD.map .val
  | .loc i => some (.loc i)
def AR.rd (ρ : Env) : AR → Option D
  | .val d => some d
  | .loc i => (slotOb ρ i).bind fun p => p.2.toD
def ARs.rd (ρ : Env) : List AR → Option (List D)
  | [] => some []
  | a :: as => (a.rd ρ).bind fun d => (ARs.rd ρ as).map (d :: ·)
def ARs.dat : List AR → Option (List D)
  | [] => some []
  | .val d :: as => (ARs.dat as).map (d :: ·)
  | .loc _ :: _ => none
def RV.r : RV → R
  | .val d => .val d
  | .own o => .own o

/-- what a call hands back: the value, the objects of the slots that it was given -/
inductive FOut where
  | ret (r : RV) (io : List Ob) | ex (x : Exn) (io : List Ob)
abbrev Calls := Nat → List SV → Option FOut
/-- the arguments as the callee gets them -/
def giveA (ρ : Env) : List AR → Option (List SV)
  | [] => some []
  | .val d :: as => (giveA ρ as).map (.val d :: ·)
  | .loc i :: as => (slotOb ρ i).bind fun p => (giveA ρ as).map (.own true p.2 :: ·)
def locsA : List AR → List Nat
  | [] => []
  | .val _ :: as => locsA as
  | .loc i :: as => i :: locsA as
/-- the objects come back -/
def backA (ρ : Env) : List Nat → List Ob → Option Env
  | [], [] => some ρ
  | i :: is, o :: os => match slotOb ρ i with
    | some (io, _) => backA (ρ.set i (some (.own io o))) is os
    | none => none
  | _, _ => none
def callM (cl : Calls) (f : Nat) (as : List AR) : M R := fun ρ =>
  if (locsA as).Nodup then
    match giveA ρ as with
    | none => none
    | some svs => match cl f svs with
      | none => none
      | some (.ret r io) => (backA ρ (locsA as) io).map fun ρ' => .ok r.r ρ'
      | some (.ex x io) => (backA ρ (locsA as) io).map fun ρ' => .ex x ρ'
  else none

/-- a name's slot is stored (not one that was handed in) -/
def setSlot (i : Nat) (v : SV) : M Unit := fun ρ =>
  match ρ[i]? with
  | some (some (.own true _)) => none
  | some (some .lck) => none
  | some _ => some (.ok () (ρ.set i (some v)))
  | none => none
def setAll : List Nat → List D → M Unit
  | [], [] => M.pure ()
  | i :: is, d :: ds => M.bind (setSlot i (.val d)) fun _ => setAll is ds
  | _, _ => M.stuck
def bindT : Tg → D → M Unit
  | .nm i, d => setSlot i (.val d)
  | .tup is, .tup ds => setAll is ds
  | _, _ => M.stuck
/-- what is walked: items, or a slot's list -/
inductive Itm where
  | items (xs : List D) | slot (i : Nat)
def wipeE (ρ : Env) : List Nat → Env
  | [] => ρ
  | i :: is => (wipeE ρ is).set i none
/-- the slots of is as they stand in ρ0 -/
def restE (ρ0 ρ : Env) : List Nat → Env
  | [] => ρ
  | i :: is => match ρ0[i]? with
    | some v => (restE ρ0 ρ is).set i v
    | none => restE ρ0 ρ is
def rangeD (lo hi : Int) : List D := (List.range (hi - lo).toNat).map fun (n : Nat) => D.int (lo + (n : Int))
def okRange (i : Int) : Bool := decide (-(2 ^ 62) ≤ i) && decide (i < 2 ^ 62)
def wipeM (own : List Nat) : M Unit := fun ρ => some (.ok () (wipeE ρ own))
def lcL (own : List Nat) (bt : D → M Unit) (cond : M Bool) (elt : M D) : List D → List D → M (List D)
  | acc, [] => M.bind (wipeM own) fun _ => M.pure acc
  | acc, x :: xs => M.bind (wipeM own) fun _ => M.bind (bt x) fun _ => M.bind cond fun c =>
    if c then M.bind elt fun d => (if acc.length < lim then lcL own bt cond elt (acc ++ [d]) xs else M.stuck) else lcL own bt cond elt acc xs
/-- with the slot i's object put aside -/
def aside {α : Type} (i : Nat) (f : List D → M α) : M α := fun ρ =>
  match slotOb ρ i with
  | some (io, .lst xs) => match f xs (ρ.set i (some .lck)) with
    | some (.ok a ρ') => some (.ok a (ρ'.set i (some (.own io (.lst xs)))))
    | some (.ex x ρ') => some (.ex x (ρ'.set i (some (.own io (.lst xs)))))
    | none => none
  | _ => none
def itemsM {α : Type} (it : Itm) (f : List D → M α) : M α :=
  match it with
  | .items xs => f xs
  | .slot i => aside i f
def lcM (own : List Nat) (f : M (List D)) : M (List D) := fun ρ =>
  match f (wipeE ρ own) with
  | some (.ok a ρ') => some (.ok a (restE ρ ρ' own))
  | _ => none
def mmM (m : Mm) (i : Nat) (as : List D) : M R := fun ρ =>
  match slotOb ρ i with
  | some (io, .lst xs) => (mmD m xs as).map fun p => .ok (.val p.1) (ρ.set i (some (.own io (.lst p.2))))
  | _ => none
def itmOf (ρ : Env) : AR → Option Itm
  | .loc i => match slotOb ρ i with
    | some (_, .lst _) => some (.slot i)
    | _ => none
  | .val (.tup xs) => some (.items xs)
  | .val (.lst xs) => some (.items xs)
  | .val (.str s) => some (.items (s.map fun c => .str [c]))
  | _ => none
def rng1D : D → Option Itm
  | .int j => if okRange j then some (.items (rangeD 0 j)) else none
  | _ => none
def rng2D : D → D → Option Itm
  | .int i, .int j => if okRange i && okRange j then some (.items (rangeD i j)) else none
  | _, _ => none
def rdM (r : R) : M D := fun ρ => (r.rd ρ).map fun d => .ok d ρ

/-- text.replace(c, ""): both written, or the module's own -/
def litS : Xp → Option (List Nat)
  | .k (.str s) => some s
  | .g _ (.str s) => some s
  | _ => none
def replD (p : D) (x y : Xp) : Option D := match p, litS x, litS y with
  | .str s, some [c], some [] => some (.str (s.filter (· != c)))
  | _, _, _ => none
def intM : D → M (Option Int)
  | .int i => M.pure (some i)
  | _ => M.stuck
/-- a slice's bound -/
def evOf (e : Xp) (m : M R) : M (Option Int) := match e with
  | .anil => M.pure none
  | _ => M.bind m fun x => M.bind (rdM x) intM
/-- a test -/
def tst (m : M R) : M Bool := M.bind m fun x => M.bind (rdM x) fun p => M.pure p.tru
/-! #### the ways of putting meanings together -/
def op2 (fa fb : M R) (op : D → D → Option RV) : M R := M.bind fa fun x => M.bind fb fun y => M.bind (rdM x) fun p => M.bind (rdM y) fun q => M.of ((op p q).map RV.r)
def negM (fa : M R) : M R := M.bind fa fun x => M.bind (rdM x) fun p => match p with
  | .int i => M.pure (.val (.int (-i)))
  | _ => M.stuck
def notM (fa : M R) : M R := M.bind fa fun x => M.bind (rdM x) fun p => M.pure (.val (.bl (!p.tru)))
def andM (fa fb : M R) : M R := M.bind fa fun x => M.bind (rdM x) fun p => if p.tru then fb else M.pure x
def orM (fa fb : M R) : M R := M.bind fa fun x => M.bind (rdM x) fun p => if p.tru then M.pure x else fb
def cmpR (o : COp) (p q : D) : Option RV := (cmpD o p q).map fun b => .val (.bl b)
def chnM (fa fb fc : M R) (o o' : COp) : M R := M.bind fa fun x => M.bind fb fun y => M.bind (rdM x) fun p => M.bind (rdM y) fun q => M.bind (M.of (cmpD o p q)) fun t =>
  if t then M.bind fc fun z => M.bind (rdM y) fun q' => M.bind (rdM z) fun r => M.of ((cmpR o' q' r).map RV.r) else M.pure (.val (.bl false))
def ifM (ft : M Bool) (fa fb : M R) : M R := M.bind ft fun c => if c then fa else fb
def tupM (fa : M (List AR)) : M R := M.bind fa fun as => M.bind (M.of (ARs.dat as)) fun ds => if ds.length ≤ lim then M.pure (.val (.tup ds)) else M.stuck
def lstM (fa : M (List AR)) : M R := M.bind fa fun as => M.bind (M.of (ARs.dat as)) fun ds => if ds.length ≤ lim then M.pure (.own (.lst ds)) else M.stuck
def slM (fa : M R) (fl fh : M (Option Int)) : M R := M.bind fa fun x => M.bind fl fun l => M.bind fh fun h => M.bind (rdM x) fun p => M.of ((slD p l h).map RV.r)
def revM (fa : M R) : M R := M.bind fa fun x => M.bind (rdM x) fun p => match p with
  | .lst xs => M.pure (.own (.lst xs.reverse))
  | _ => M.stuck
def opA (fa : M (List AR)) (op : List D → Option RV) : M R := M.bind fa fun as => fun ρ => match (ARs.rd ρ as).bind op with
  | some r => some (.ok r.r ρ)
  | none => none
def isiM (fa : M R) (t : Ty) : M R := M.bind fa fun x => M.bind (rdM x) fun p => M.pure (.val (.bl (tyD t p)))
def replM (fa : M R) (x y : Xp) : M R := M.bind fa fun u => M.bind (rdM u) fun p => M.bind (M.of (replD p x y)) fun d => M.pure (.val d)
def opM (fo : M R) (fa : M (List AR)) (op : List Nat → List D → Option RV) : M R := M.bind fo fun x => M.bind (rdM x) fun p => match p with
  | .str s => M.bind fa fun as => fun ρ => match (ARs.rd ρ as).bind (op s) with
    | some r => some (.ok r.r ρ)
    | none => none
  | _ => M.stuck
def mmX (m : Mm) (i : Nat) (fa : M (List AR)) : M R := fun ρ => match slotOb ρ i with
  | some (_, .lst _) => M.bind fa (fun as => M.bind (M.of (ARs.dat as)) fun ds => mmM m i ds) ρ
  | _ => none
def callX (cl : Calls) (f : Nat) (fa : M (List AR)) : M R := M.bind fa fun as => callM cl f as
def datM (fa : M R) : M D := M.bind fa fun r => M.of r.dat
def evIt (ik : ItK) (fa fb : M R) : M Itm := match ik with
  | .over => M.bind fa fun x => M.bind (M.of x.ar) fun r => fun ρ => (itmOf ρ r).map fun it => .ok it ρ
  | .rng1 => M.bind fa fun x => M.bind (rdM x) fun p => M.of (rng1D p)
  | .rng2 => M.bind fa fun x => M.bind fb fun y => M.bind (rdM x) fun p => M.bind (rdM y) fun q => M.of (rng2D p q)
def lcX (fi : M Itm) (own : List Nat) (t : Tg) (fc : M Bool) (fe : M R) : M R := M.bind fi fun it =>
  M.bind (itemsM it fun xs => lcM own (lcL own (bindT t) fc (datM fe) [] xs)) fun ds => M.pure (.own (.lst ds))
def consA (fa : M R) (fr : M (List AR)) : M (List AR) := M.bind fa fun x => M.bind (M.of x.ar) fun r => M.bind fr fun rs => M.pure (r :: rs)
def varM (i : Nat) : M R := fun ρ => match ρ[i]? with
  | some (some (.val d)) => some (.ok (.val d) ρ)
  | some (some (.own _ _)) => some (.ok (.loc i) ρ)
  | _ => none
mutual
/-- an expression -/
def evE (cl : Calls) : Xp → M R
  | .k d => M.pure (.val d)
  | .g _ d => M.pure (.val d)
  | .v i => varM i
  | .bin o a b => op2 (evE cl a) (evE cl b) (binD o)
  | .neg a => negM (evE cl a)
  | .nt a => notM (evE cl a)
  | .and a b => andM (evE cl a) (evE cl b)
  | .or a b => orM (evE cl a) (evE cl b)
  | .cmp o a b => op2 (evE cl a) (evE cl b) (cmpR o)
  | .chn o o' a b c => chnM (evE cl a) (evE cl b) (evE cl c) o o'
  | .ife t a b => ifM (tst (evE cl t)) (evE cl a) (evE cl b)
  | .tup es => tupM (evA cl es)
  | .lst es => lstM (evA cl es)
  | .ix a i => op2 (evE cl a) (evE cl i) (fun p q => (ixD p q).map .val)
  | .sl a lo hi => slM (evE cl a) (evOf lo (evE cl lo)) (evOf hi (evE cl hi))
  | .rev a => revM (evE cl a)
  | .bi f es => opA (evA cl es) (biD f)
  | .isi t a => isiM (evE cl a) t
  | .repl a x y => replM (evE cl a) x y
  | .mt m a es => opM (evE cl a) (evA cl es) (fun s => mtD m (.str s))
  | .mm m i es => mmX m i (evA cl es)
  | .call f es => callX cl f (evA cl es)
  | .lc elt t ik a b cond own => lcX (evIt ik (evE cl a) (evE cl b)) own t (tst (evE cl cond)) (evE cl elt)
  | .anil => M.stuck
  | .acons _ _ => M.stuck
/-- arguments -/
def evA (cl : Calls) : Xp → M (List AR)
  | .anil => M.pure []
  | .acons a es => consA (evE cl a) (evA cl es)
  | _ => M.stuck
end
/-! ### statements -/
inductive Fl where
  | next | brk | cont | ret (r : RV)
def forL (bt : D → M Unit) (b : M Fl) : List D → M Fl
  | [] => M.pure .next
  | x :: xs => M.bind (bt x) fun _ => M.bind b fun f => match f with
    | .next => forL bt b xs
    | .cont => forL bt b xs
    | .brk => M.pure .next
    | .ret r => M.pure (.ret r)
def whlN (t : M Bool) (b : M Fl) : Nat → M Fl
  | 0 => M.stuck
  | n + 1 => M.bind t fun c => if c then M.bind b fun f => match f with
    | .next => whlN t b n
    | .cont => whlN t b n
    | .brk => M.pure .next
    | .ret r => M.pure (.ret r)
    else M.pure .next
open Classical in
/-- as long as it takes -/
noncomputable def whlC (t : M Bool) (b : M Fl) : M Fl := fun ρ => if h : ∃ n r, whlN t b n ρ = some r then some (choose (choose_spec h)) else none
/-- a new object or data goes to a slot; f: it is data from now on -/
def stoM (i : Nat) (f : Bool) (r : R) : M Unit :=
  match r with
  | .val d => setSlot i (.val d)
  | .own o => if f then (match o.toD with
    | some d => setSlot i (.val d)
    | none => M.stuck) else setSlot i (.own false o)
  | .loc _ => M.stuck
/-- a slot's value is taken: an object of the def's own leaves the slot -/
def takeM (j : Nat) : M R := fun ρ => match ρ[j]? with
  | some (some (.val d)) => some (.ok (.val d) ρ)
  | some (some (.own false o)) => some (.ok (.own o) (ρ.set j none))
  | _ => none
/-- the values of a, b = .. -/
def consP (fa : M R) (fr : M (List R)) : M (List R) := M.bind fa fun r => M.bind fr fun rs => M.pure (r :: rs)
def evP (cl : Calls) : Xp → M (List R)
  | .anil => M.pure []
  | .acons a es => consP (evE cl a) (evP cl es)
  | _ => M.stuck
def stoP : List (Nat × Bool) → List R → M Unit
  | [], [] => M.pure ()
  | t :: ts, r :: rs => M.bind (stoM t.1 t.2 r) fun _ => stoP ts rs
  | _, _ => M.stuck
/-- the def's own objects are data from now on: it is about to end -/
def frzE (ρ : Env) : Env := ρ.map fun v => match v with
  | some (.own false o) => o.toD.map .val
  | v => v
def retM (r : R) : M Fl := match r with
  | .val d => M.pure (.ret (.val d))
  | .own o => M.pure (.ret (.own o))
  | .loc _ => M.stuck
def setixM (i : Nat) (k : D) (d : D) : M Unit := fun ρ => match slotOb ρ i, k with
  | some (io, .lst xs), .int j => (natOf j xs.length).map fun n => .ok () (ρ.set i (some (.own io (.lst (xs.set n d)))))
  | _, _ => none
def suM (s : Su) (x : Exn) : M Fl := match s with
  | .ret d => M.pure (.ret (.val d))
  | .cont => M.pure .cont
  | .nop => M.pure .next
  | .pay => match x.pay with
    | some d => M.pure (.ret (.val d))
    | none => M.stuck
/-- sub: is the class c a heir of the class n -/
def hdM (sub : Nat → Nat → Bool) : Hd → Exn → M Fl
  | .nil, x => fun ρ => some (.ex x ρ)
  | .cons c s r, x => if sub x.cls c then suM s x else hdM sub r x
def tryM (sub : Nat → Nat → Bool) (b : M Fl) (hs : Hd) : M Fl := fun ρ => match b ρ with
  | some (.ex x ρ') => hdM sub hs x ρ'
  | r => r
noncomputable def evS (sub : Nat → Nat → Bool) (cl : Calls) : St → M Fl
  | .asg i f e => M.bind (evE cl e) fun r => M.bind (stoM i f r) fun _ => M.pure .next
  | .mov i j => M.bind (takeM j) fun r => M.bind (stoM i false r) fun _ => M.pure .next
  | .asgT t e => M.bind (evE cl e) fun r => M.bind (M.of r.dat) fun d => M.bind (bindT t d) fun _ => M.pure .next
  | .par ts es => M.bind (evP cl es) fun rs => M.bind (stoP ts.reverse rs.reverse) fun _ => M.pure .next
  | .setix i ie e => M.bind (evE cl e) fun r => M.bind (M.of r.dat) fun d => M.bind (evE cl ie) fun y => M.bind (M.of y.dat) fun k => M.bind (setixM i k d) fun _ => M.pure .next
  | .expr e => M.bind (evE cl e) fun _ => M.pure .next
  | .ret e => fun ρ => M.bind (evE cl e) retM (frzE ρ)
  | .retv i => M.bind (takeM i) retM
  | .ite t a b => M.bind (tst (evE cl t)) fun c => if c then evS sub cl a else evS sub cl b
  | .seq a b => M.bind (evS sub cl a) fun f => match f with
    | .next => evS sub cl b
    | f => M.pure f
  | .nop => M.pure .next
  | .for_ t ik x y b => M.bind (evIt ik (evE cl x) (evE cl y)) fun it => itemsM it fun xs => forL (bindT t) (evS sub cl b) xs
  | .whl t b => whlC (tst (evE cl t)) (evS sub cl b)
  | .cont => M.pure .cont
  | .brk => M.pure .brk
  | .raise c => fun ρ => some (.ex ⟨c, none⟩ ρ)
  | .try_ b hs => tryM sub (evS sub cl b) hs

/-! ### defs -/
structure FnD where
  np : Nat
  ns : Nat
  io : List Bool
  body : St
def ioOf : List Bool → Env → Option (List Ob)
  | [], _ => some []
  | true :: bs, some (.own true o) :: ρ => (ioOf bs ρ).map (o :: ·)
  | false :: bs, _ :: ρ => ioOf bs ρ
  | _, _ => none
/-- the arguments are what the def asks: data, objects -/
def fitA : List Bool → List SV → Bool
  | [], [] => true
  | true :: bs, .own true _ :: vs => fitA bs vs
  | false :: bs, .val _ :: vs => fitA bs vs
  | _, _ => false
def endF (io : List Bool) : Option (Rs Fl) → Option FOut
  | some (.ok .next ρ) => (ioOf io ρ).map fun os => .ret (.val .non) os
  | some (.ok (.ret r) ρ) => (ioOf io ρ).map fun os => .ret r os
  | some (.ex x ρ) => (ioOf io ρ).map fun os => .ex x os
  | _ => none
noncomputable def callF (sub : Nat → Nat → Bool) (cl : Calls) (f : FnD) (vs : List SV) : Option FOut :=
  if fitA f.io vs then endF f.io (evS sub cl f.body (vs.map some ++ List.replicate (f.ns - vs.length) none)) else none
noncomputable def run (sub : Nat → Nat → Bool) (T : Nat → Option FnD) : Nat → Calls
  | 0 => fun _ _ => none
  | k + 1 => fun f vs => match T f with
    | some d => callF sub (run sub T k) d vs
    | none => none
end Itp
end
section
set_option Elab.async false
set_option linter.all false
set_option maxRecDepth 100000
set_option maxHeartbeats 4000000
set_option autoImplicit false
namespace Itp
open PySem L2
open Evl (Ex)
/-! ### what stands for what -/
def txt (s : List Nat) : Str := ⟨s.toArray⟩
def StrOk (s : List Nat) : Prop := s.length ≤ lim ∧ ∀ c ∈ s, c < 1114112
mutual
inductive Rp (K : PySem.W.Frag) (G : Hp) : V → D → Prop
  | non : Rp K G .non .non
  | bl (b : Bool) : Rp K G (.bl b) (.bl b)
  | int (i : Int) : Rp K G (.int i) (.int i)
  | str (s : List Nat) : StrOk s → Rp K G (.str (txt s)) (.str s)
  | tup {a : Addr} {vs : List V} {ds : List D} : SqT K G a vs → Rps K G vs ds → Rp K G (.ref a) (.tup ds)
  | lst {a : Addr} {vs : List V} {ds : List D} : G a = some (.lst vs) → Rps K G vs ds → Rp K G (.ref a) (.lst ds)
  | ro {a : Addr} {vs : List V} {ds : List D} : SqL K G a vs → Rps K G vs ds → Rp K G (.ref a) (.ro ds)
inductive Rps (K : PySem.W.Frag) (G : Hp) : List V → List D → Prop
  | nil : Rps K G [] []
  | cons {v : V} {vs : List V} {d : D} {ds : List D} : Rp K G v d → Rps K G vs ds → Rps K G (v :: vs) (d :: ds)
end
section
variable {K : PySem.W.Frag} {G G' : Hp}
mutual
theorem Rp.mono (e : Ex G G') : ∀ (d : D) (v : V), Rp K G v d → Rp K G' v d
  | .non, _, h => by cases h; exact .non
  | .bl b, _, h => by cases h; exact .bl b
  | .int i, _, h => by cases h; exact .int i
  | .str s, _, h => by cases h with | str _ q => exact .str s q
  | .tup ds, _, h => by cases h with | tup a b => exact .tup (Evl.ex_t e a) (Rps.mono e ds _ b)
  | .lst ds, _, h => by cases h with | lst a b => exact .lst (e _ _ a) (Rps.mono e ds _ b)
  | .ro ds, _, h => by cases h with | ro a b => exact .ro (Evl.ex_l e a) (Rps.mono e ds _ b)
theorem Rps.mono (e : Ex G G') : ∀ (ds : List D) (vs : List V), Rps K G vs ds → Rps K G' vs ds
  | [], _, h => by cases h; exact .nil
  | d :: ds, _, h => by cases h with | cons a b => exact .cons (Rp.mono e d _ a) (Rps.mono e ds _ b)
end
theorem Rps.length : ∀ {vs : List V} {ds : List D}, Rps K G vs ds → vs.length = ds.length
  | _, _, .nil => rfl
  | _, _, .cons _ t => by rw [List.length_cons, List.length_cons, Rps.length t]
theorem Rps.get : ∀ {vs : List V} {ds : List D} {i : Nat} {d : D}, Rps K G vs ds → ds[i]? = some d → ∃ v, vs[i]? = some v ∧ Rp K G v d
  | _, _, _, _, .nil, h => by simp at h
  | _, _, 0, _, .cons a _, h => by simp at h; subst h; exact ⟨_, rfl, a⟩
  | _, _, i + 1, d, .cons _ t, h => by
    obtain ⟨v, h1, h2⟩ := Rps.get (i := i) t (by simpa using h)
    exact ⟨v, by simpa using h1, h2⟩
theorem Rps.append : ∀ {vs ws : List V} {ds es : List D}, Rps K G vs ds → Rps K G ws es → Rps K G (vs ++ ws) (ds ++ es)
  | _, _, _, _, .nil, s => s
  | _, _, _, _, .cons r t, s => .cons r (Rps.append t s)
theorem Rps.take : ∀ {vs : List V} {ds : List D} (n : Nat), Rps K G vs ds → Rps K G (vs.take n) (ds.take n)
  | _, _, 0, _ => by rw [List.take_zero, List.take_zero]; exact .nil
  | _, _, _ + 1, .nil => by rw [List.take_nil, List.take_nil]; exact .nil
  | _, _, n + 1, .cons r t => .cons r (Rps.take n t)
theorem Rps.drop : ∀ {vs : List V} {ds : List D} (n : Nat), Rps K G vs ds → Rps K G (vs.drop n) (ds.drop n)
  | _, _, 0, r => r
  | _, _, _ + 1, .nil => by rw [List.drop_nil, List.drop_nil]; exact .nil
  | _, _, n + 1, .cons _ t => Rps.drop n t
theorem Rps.set {v : V} {d : D} (r : Rp K G v d) : ∀ {vs : List V} {ds : List D} (i : Nat), Rps K G vs ds → Rps K G (vs.set i v) (ds.set i d)
  | _, _, _, .nil => .nil
  | _, _, 0, .cons _ t => .cons r t
  | _, _, i + 1, .cons q t => .cons q (Rps.set r i t)
theorem Rps.eraseIdx : ∀ {vs : List V} {ds : List D} (i : Nat), Rps K G vs ds → Rps K G (vs.eraseIdx i) (ds.eraseIdx i)
  | _, _, _, .nil => .nil
  | _, _, 0, .cons _ t => t
  | _, _, i + 1, .cons q t => .cons q (Rps.eraseIdx i t)
theorem Rps.dropLast {vs : List V} {ds : List D} (h : Rps K G vs ds) : Rps K G vs.dropLast ds.dropLast := by
  rw [List.dropLast_eq_take, List.dropLast_eq_take, h.length]
  exact h.take _
theorem Rps.reverse : ∀ {vs : List V} {ds : List D}, Rps K G vs ds → Rps K G vs.reverse ds.reverse
  | _, _, .nil => .nil
  | _, _, .cons r t => by
    rw [List.reverse_cons, List.reverse_cons]
    exact (Rps.reverse t).append (.cons r .nil)
end
/-- an object that a slot owns -/
def ObR (K : PySem.W.Frag) (Hf H : Hp) (a : Addr) : Ob → Prop
  | .lst ds => ∃ vs, H a = some (.lst vs) ∧ Rps K Hf vs ds
  | .dct _ => False
theorem ObR.there {K : PySem.W.Frag} {Hf H : Hp} {a : Addr} {o : Ob} (h : ObR K Hf H a o) : H a ≠ none := by
  cases o with
  | lst ds => obtain ⟨vs, e, _⟩ := h; rw [e]; simp
  | dct _ => exact h.elim
theorem ObR.mono {K : PySem.W.Frag} {Hf H Hf' H' : Hp} {a : Addr} {o : Ob} (h : ObR K Hf H a o) (e : Ex Hf Hf') (k : ∀ o, H a = some o → H' a = some o) : ObR K Hf' H' a o := by
  cases o with
  | lst ds => obtain ⟨vs, e1, r⟩ := h; exact ⟨vs, k _ e1, Rps.mono e _ _ r⟩
  | dct _ => exact h.elim
abbrev OwnAt (ρ : Env) (i : Nat) (io : Bool) (o : Ob) : Prop := ρ[i]? = some (some (.own io o))
def Ow (ρ : Env) (σ : L2.St) (a : Addr) : Prop := ∃ i io o, OwnAt ρ i io o ∧ σ[i]? = some (some (.ref a))
structure Sim (K : PySem.W.Frag) (ρ : Env) (σ : L2.St) (Hf H : Hp) : Prop where
  len : ρ.length = σ.length
  sub : Ex Hf H
  val : ∀ (i : Nat) (d : D), ρ[i]? = some (some (.val d)) → ∃ v, σ[i]? = some (some v) ∧ Rp K Hf v d
  own : ∀ (i : Nat) (io : Bool) (o : Ob), OwnAt ρ i io o → ∃ a, σ[i]? = some (some (.ref a)) ∧ Hf a = none ∧ ObR K Hf H a o
  inj : ∀ (i j : Nat) (io : Bool) (o : Ob) (io' : Bool) (o' : Ob) (a : Addr), OwnAt ρ i io o → OwnAt ρ j io' o' → σ[i]? = some (some (.ref a)) → σ[j]? = some (some (.ref a)) → i = j
structure Grow (O : Addr → Prop) (Hf H Hf' H' : Hp) : Prop where
  ex : Ex Hf Hf'
  fr : ∀ a o, H a = some o → ¬ O a → H' a = some o
  fz : ∀ a, Hf' a ≠ none → Hf a ≠ none ∨ H a = none ∨ O a
  lv : ∀ a, H a ≠ none → H' a ≠ none
section
variable {O O' : Addr → Prop} {Hf H Hf1 H1 Hf2 H2 : Hp}
theorem Grow.refl : Grow O Hf H Hf H := ⟨fun _ _ h => h, fun _ _ h _ => h, fun _ h => .inl h, fun _ h => h⟩
theorem Grow.trans (a : Grow O Hf H Hf1 H1) (b : Grow O' Hf1 H1 Hf2 H2) (h : ∀ x, O' x → O x ∨ H x = none) : Grow O Hf H Hf2 H2 := by
  refine ⟨a.ex.trans b.ex, fun x o e n => ?_, fun x e => ?_, fun x e => b.lv x (a.lv x e)⟩
  · refine b.fr x o (a.fr x o e n) fun z => ?_
    rcases h x z with q | q
    · exact n q
    · rw [e] at q; cases q
  · rcases b.fz x e with q | q | q
    · exact a.fz x q
    · refine .inr (.inl ?_)
      cases e1 : H x with
      | none => rfl
      | some o => exact absurd q (a.lv x (by rw [e1]; simp))
    · rcases h x q with z | z
      · exact .inr (.inr z)
      · exact .inr (.inl z)
theorem Grow.imp (a : Grow O Hf H Hf1 H1) (h : ∀ x, O x → O' x) : Grow O' Hf H Hf1 H1 :=
  ⟨a.ex, fun x o e n => a.fr x o e fun z => n (h x z), fun x e => (a.fz x e).imp id (Or.imp id (h x)), a.lv⟩
theorem Grow.back (a : Grow O Hf H Hf1 H1) {x : Addr} (e : H1 x = none) : H x = none := by
  cases e1 : H x with
  | none => rfl
  | some o => exact absurd e (a.lv x (by rw [e1]; simp))
/-- a new object, not data -/
theorem Grow.new {p : Addr} {o : HO} (h : H p = none) : Grow O Hf H Hf (upd H p o) := by
  refine ⟨fun _ _ h => h, fun x u e _ => ?_, fun x e => .inl e, fun x e => ?_⟩
  · rw [upd_ne (ne_of_none e h)]; exact e
  · by_cases hx : x = p
    · subst hx; rw [upd_same]; simp
    · rw [upd_ne hx]; exact e
/-- a new object that is data -/
theorem Grow.newF {p : Addr} {o : HO} (h : H p = none) (s : Ex Hf H) : Grow O Hf H (upd Hf p o) (upd H p o) := by
  have hf : Hf p = none := Evl.fresh_back s h
  refine ⟨Ex.new hf, fun x u e _ => ?_, fun x e => ?_, fun x e => ?_⟩
  · rw [upd_ne (ne_of_none e h)]; exact e
  · by_cases hx : x = p
    · subst hx; exact .inr (.inl h)
    · rw [upd_ne hx] at e; exact .inl e
  · by_cases hx : x = p
    · subst hx; rw [upd_same]; simp
    · rw [upd_ne hx]; exact e
end
theorem sub_newF {Hf H : Hp} {p : Addr} {o : HO} (s : Ex Hf H) : Ex (upd Hf p o) (upd H p o) := fun x u e => by
  by_cases hx : x = p
  · subst hx; rw [upd_same] at e ⊢; exact e
  · rw [upd_ne hx] at e ⊢; exact s x u e
theorem sub_new {Hf H : Hp} {p : Addr} {o : HO} (s : Ex Hf H) (h : Hf p = none) : Ex Hf (upd H p o) := fun x u e => by
  rw [upd_ne (ne_of_none e h)]; exact s x u e
theorem sub_frz {Hf H : Hp} {p : Addr} {o : HO} (s : Ex Hf H) (h : H p = some o) : Ex (upd Hf p o) H := fun x u e => by
  by_cases hx : x = p
  · subst hx; rw [upd_same] at e; rw [h]; exact e
  · rw [upd_ne hx] at e; exact s x u e
section
variable {K : PySem.W.Frag} {ρ ρ1 ρ2 : Env} {σ σ1 σ2 : L2.St} {Hf H Hf1 H1 Hf2 H2 : Hp} {O : Addr → Prop}
theorem Sim.ow_some (S : Sim K ρ σ Hf H) {a : Addr} (h : Ow ρ σ a) : H a ≠ none ∧ Hf a = none := by
  obtain ⟨i, io, o, e, q⟩ := h
  obtain ⟨b, e1, e2, e3⟩ := S.own i io o e
  rw [q] at e1; cases e1
  exact ⟨e3.there, e2⟩
/-- the state goes on, the slots as they are -/
theorem Sim.grow (S : Sim K ρ σ Hf H) (g : Grow O Hf H Hf1 H1) (s : Ex Hf1 H1) (n : ∀ a, Ow ρ σ a → ¬ O a) : Sim K ρ σ Hf1 H1 where
  len := S.len
  sub := s
  val := fun i d e => let ⟨v, e1, r⟩ := S.val i d e; ⟨v, e1, Rp.mono g.ex _ _ r⟩
  own := fun i io o e => by
    obtain ⟨a, e1, e2, e3⟩ := S.own i io o e
    have na := n a ⟨i, io, o, e, e1⟩
    refine ⟨a, e1, ?_, e3.mono g.ex fun u hu => g.fr a u hu na⟩
    cases q : Hf1 a with
    | none => rfl
    | some u =>
      rcases g.fz a (by rw [q]; simp) with z | z | z
      · exact absurd e2 z
      · exact absurd z e3.there
      · exact absurd z na
  inj := S.inj
/-- what an expression leaves -/
structure Post (K : PySem.W.Frag) (σ : L2.St) (ρ : Env) (Hf H : Hp) (ρ' : Env) (Hf' H' : Hp) : Prop where
  sim : Sim K ρ' σ Hf' H'
  gr : Grow (Ow ρ σ) Hf H Hf' H'
  own : ∀ (i : Nat) (io : Bool), (∃ o, OwnAt ρ i io o) ↔ (∃ o, OwnAt ρ' i io o)
  lk : ∀ i : Nat, ρ[i]? = some (some .lck) → ρ'[i]? = some (some .lck)
theorem Post.ow (p : Post K σ ρ Hf H ρ1 Hf1 H1) {a : Addr} : Ow ρ1 σ a ↔ Ow ρ σ a :=
  ⟨fun ⟨i, io, o, e, q⟩ => let ⟨o', e'⟩ := (p.own i io).mpr ⟨o, e⟩; ⟨i, io, o', e', q⟩, fun ⟨i, io, o, e, q⟩ => let ⟨o', e'⟩ := (p.own i io).mp ⟨o, e⟩; ⟨i, io, o', e', q⟩⟩
theorem Post.refl (S : Sim K ρ σ Hf H) : Post K σ ρ Hf H ρ Hf H := ⟨S, .refl, fun _ _ => Iff.rfl, fun _ h => h⟩
theorem Post.trans (p : Post K σ ρ Hf H ρ1 Hf1 H1) (q : Post K σ ρ1 Hf1 H1 ρ2 Hf2 H2) : Post K σ ρ Hf H ρ2 Hf2 H2 :=
  ⟨q.sim, p.gr.trans q.gr fun x z => .inl (p.ow.mp z), fun i io => (p.own i io).trans (q.own i io), fun i h => q.lk i (p.lk i h)⟩
/-- only the heap has grown -/
theorem Post.heap (S : Sim K ρ σ Hf H) (g : Grow (fun _ => False) Hf H Hf1 H1) (s : Ex Hf1 H1) : Post K σ ρ Hf H ρ Hf1 H1 :=
  ⟨S.grow g s fun _ _ z => z, g.imp fun _ z => z.elim, fun _ _ => Iff.rfl, fun _ h => h⟩
/-- what a statement leaves -/
structure PostS (K : PySem.W.Frag) (ρ : Env) (σ : L2.St) (Hf H : Hp) (ρ' : Env) (σ' : L2.St) (Hf' H' : Hp) : Prop where
  sim : Sim K ρ' σ' Hf' H'
  gr : Grow (Ow ρ σ) Hf H Hf' H'
  own : ∀ a, Ow ρ' σ' a → Ow ρ σ a ∨ H a = none
  io : ∀ (i : Nat) (o : Ob), OwnAt ρ i true o → (∃ o', OwnAt ρ' i true o') ∧ σ'[i]? = σ[i]?
  lk : ∀ i : Nat, ρ[i]? = some (some .lck) → ρ'[i]? = some (some .lck) ∧ σ'[i]? = σ[i]?
theorem PostS.refl (S : Sim K ρ σ Hf H) : PostS K ρ σ Hf H ρ σ Hf H := ⟨S, .refl, fun _ z => .inl z, fun _ o e => ⟨⟨o, e⟩, rfl⟩, fun _ e => ⟨e, rfl⟩⟩
theorem PostS.trans (p : PostS K ρ σ Hf H ρ1 σ1 Hf1 H1) (q : PostS K ρ1 σ1 Hf1 H1 ρ2 σ2 Hf2 H2) : PostS K ρ σ Hf H ρ2 σ2 Hf2 H2 :=
  ⟨q.sim, p.gr.trans q.gr p.own, fun a z => (q.own a z).elim (p.own a) fun e => .inr (p.gr.back e), fun i o e => by
    obtain ⟨⟨o1, e1⟩, s1⟩ := p.io i o e
    obtain ⟨o2, s2⟩ := q.io i o1 e1
    exact ⟨o2, s2.trans s1⟩, fun i e => ⟨(q.lk i (p.lk i e).1).1, (q.lk i (p.lk i e).1).2.trans (p.lk i e).2⟩⟩
theorem Post.s (p : Post K σ ρ Hf H ρ1 Hf1 H1) : PostS K ρ σ Hf H ρ1 σ Hf1 H1 :=
  ⟨p.sim, p.gr, fun a z => .inl (p.ow.mp z), fun i o e => ⟨(p.own i true).mp ⟨o, e⟩, rfl⟩, fun i e => ⟨p.lk i e, rfl⟩⟩
end
/-! ### values of expressions -/
/-- H0: the heap at the expression's start -/
def RRel (K : PySem.W.Frag) (H0 : Hp) (σ : L2.St) (ρ : Env) (Hf H : Hp) : R → V → Prop
  | .val d, v => Rp K Hf v d
  | .own o, v => ∃ a, v = .ref a ∧ Hf a = none ∧ ObR K Hf H a o ∧ H0 a = none
  | .loc i, v => ∃ a io o, OwnAt ρ i io o ∧ σ[i]? = some (some (.ref a)) ∧ v = .ref a
def RVRel (K : PySem.W.Frag) (H0 Hf H : Hp) : RV → V → Prop
  | .val d, v => Rp K Hf v d
  | .own o, v => ∃ a, v = .ref a ∧ Hf a = none ∧ ObR K Hf H a o ∧ H0 a = none
/-- to be read -/
def RdV (K : PySem.W.Frag) (Hf H : Hp) (v : V) : D → Prop
  | .lst ds => ∃ a vs, v = .ref a ∧ H a = some (.lst vs) ∧ Rps K Hf vs ds
  | d => Rp K Hf v d
section
variable {K : PySem.W.Frag} {ρ ρ1 : Env} {σ : L2.St} {H0 Hf H Hf1 H1 : Hp} {v : V}
theorem RdV.of_rp {d : D} (s : Ex Hf H) (h : Rp K Hf v d) : RdV K Hf H v d := by
  cases d with
  | lst ds => cases h with | lst a b => exact ⟨_, _, rfl, s _ _ a, b⟩
  | _ => exact h
theorem RdV.rp {d : D} (s : Ex Hf H) (h : RdV K Hf H v d) : Rp K H v d := by
  cases d with
  | lst ds => obtain ⟨a, vs, rfl, e, r⟩ := h; exact .lst e (Rps.mono s _ _ r)
  | _ => exact Rp.mono s _ _ h
theorem RRel.rv {r : RV} (h : RVRel K H0 Hf H r v) : RRel K H0 σ ρ Hf H r.r v := by
  cases r with
  | val d => exact h
  | own o => exact h
/-- read at last -/
theorem RRel.rd {r : R} {d : D} (S : Sim K ρ σ Hf H) (h : RRel K H0 σ ρ Hf H r v) (e : r.rd ρ = some d) : RdV K Hf H v d := by
  cases r with
  | val x =>
    have : x = d := Option.some.inj e
    subst this
    exact RdV.of_rp S.sub h
  | own o =>
    obtain ⟨a, rfl, _, ob, _⟩ := h
    cases o with
    | lst ds =>
      have : D.lst ds = d := Option.some.inj e
      subst this
      obtain ⟨vs, e1, r1⟩ := ob
      exact ⟨a, vs, rfl, e1, r1⟩
    | dct _ => exact ob.elim
  | loc i =>
    obtain ⟨a, io, o, q, s, rfl⟩ := h
    have z : slotOb ρ i = some (io, o) := by unfold slotOb; rw [q]
    change (slotOb ρ i).bind (fun p => p.2.toD) = some d at e
    rw [z] at e
    cases o with
    | lst ds =>
      have : D.lst ds = d := Option.some.inj e
      subst this
      obtain ⟨b, e1, _, ob⟩ := S.own i io _ q
      rw [s] at e1; cases e1
      obtain ⟨vs, e2, r2⟩ := ob
      exact ⟨a, vs, rfl, e2, r2⟩
    | dct _ => cases e
/-- a value stands while another expression is reckoned -/
theorem RRel.keep {r : R} (S : Sim K ρ σ Hf H) (h : RRel K H0 σ ρ Hf H r v) (h0 : ∀ a, Ow ρ σ a → H0 a ≠ none) (p : Post K σ ρ Hf H ρ1 Hf1 H1) : RRel K H0 σ ρ1 Hf1 H1 r v := by
  cases r with
  | val d => exact Rp.mono p.gr.ex _ _ h
  | own o =>
    obtain ⟨a, rfl, e1, ob, e2⟩ := h
    have na : ¬ Ow ρ σ a := fun z => h0 a z e2
    refine ⟨a, rfl, ?_, ob.mono p.gr.ex fun u hu => p.gr.fr a u hu na, e2⟩
    cases q : Hf1 a with
    | none => rfl
    | some u =>
      rcases p.gr.fz a (by rw [q]; simp) with z | z | z
      · exact absurd e1 z
      · exact absurd z ob.there
      · exact absurd z na
  | loc i =>
    obtain ⟨a, io, o, q, s, rfl⟩ := h
    obtain ⟨o', q'⟩ := (p.own i io).mp ⟨o, q⟩
    exact ⟨a, io, o', q', s, rfl⟩
theorem RRel.start {r : R} {H00 : Hp} (h : RRel K H0 σ ρ Hf H r v) (b : ∀ a, H0 a = none → H00 a = none) : RRel K H00 σ ρ Hf H r v := by
  cases r with
  | val d => exact h
  | own o => obtain ⟨a, e, e1, ob, e2⟩ := h; exact ⟨a, e, e1, ob, b a e2⟩
  | loc i => exact h
/-- it is data from now on -/
theorem RRel.dat {ρ0 : Env} {Hf0 : Hp} {r : R} {d : D} (p : Post K σ ρ0 Hf0 H0 ρ Hf H) (S0 : Sim K ρ0 σ Hf0 H0) (h : RRel K H0 σ ρ Hf H r v) (e : r.dat = some d) : ∃ Hf', Post K σ ρ0 Hf0 H0 ρ Hf' H ∧ Ex Hf Hf' ∧ Rp K Hf' v d := by
  cases r with
  | val x =>
    have : x = d := Option.some.inj e
    subst this
    exact ⟨Hf, p, fun _ _ h => h, h⟩
  | own o =>
    obtain ⟨a, rfl, e1, ob, e2⟩ := h
    cases o with
    | lst ds =>
      have : D.lst ds = d := Option.some.inj e
      subst this
      obtain ⟨vs, e3, r3⟩ := ob
      have na : ¬ Ow ρ σ a := fun z => (S0.ow_some (p.ow.mp z)).1 e2
      have ex : Ex Hf (upd Hf a (.lst vs)) := Ex.new e1
      have g : Grow (fun x => x = a) Hf H (upd Hf a (.lst vs)) H := ⟨ex, fun _ _ h _ => h, fun x hx => by
        by_cases q : x = a
        · exact .inr (.inr q)
        · rw [upd_ne q] at hx; exact .inl hx, fun _ h => h⟩
      refine ⟨upd Hf a (.lst vs), ⟨p.sim.grow g (sub_frz p.sim.sub e3) fun b hb z => na (z ▸ hb), ⟨p.gr.ex.trans ex, p.gr.fr, fun x hx => ?_, p.gr.lv⟩, p.own, p.lk⟩, ex, .lst upd_same (Rps.mono ex _ _ r3)⟩
      by_cases q : x = a
      · subst q; exact .inr (.inl e2)
      · rw [upd_ne q] at hx; exact p.gr.fz x hx
    | dct _ => exact ob.elim
  | loc i => cases e
end
/-! ### what is wanted of a run -/
def Run {α : Type} (f : M α) (ρ : Env) (C : α → Env → Prop) (E : Exn → Env → Prop) : Prop :=
  match f ρ with
  | some (.ok a ρ') => C a ρ'
  | some (.ex x ρ') => E x ρ'
  | none => False
section
variable {α β : Type} {ρ : Env} {E : Exn → Env → Prop}
theorem Run.bind {f : M α} {g : α → M β} {C : β → Env → Prop} (h : Run (M.bind f g) ρ C E) : Run f ρ (fun a ρ' => Run (g a) ρ' C E) E := by
  unfold Run M.bind at h
  unfold Run
  cases e : f ρ with
  | none => rw [e] at h; exact h
  | some r =>
    rw [e] at h
    cases r with
    | ok a ρ' => exact h
    | ex x ρ' => exact h
theorem Run.imp {f : M α} {C C' : α → Env → Prop} {E' : Exn → Env → Prop} (h : Run f ρ C E) (hc : ∀ a ρ', C a ρ' → C' a ρ') (he : ∀ x ρ', E x ρ' → E' x ρ') : Run f ρ C' E' := by
  unfold Run at h ⊢
  cases e : f ρ with
  | none => rw [e] at h; exact h
  | some r =>
    rw [e] at h
    cases r with
    | ok a ρ' => exact hc a ρ' h
    | ex x ρ' => exact he x ρ' h
theorem Run.pure {a : α} {C : α → Env → Prop} (h : Run (M.pure a) ρ C E) : C a ρ := h
theorem Run.of {o : Option α} {C : α → Env → Prop} (h : Run (M.of o) ρ C E) : ∃ a, o = some a ∧ C a ρ := by
  cases o with
  | none => exact h.elim
  | some a => exact ⟨a, rfl, h⟩
theorem Run.rd {r : R} {C : D → Env → Prop} (h : Run (rdM r) ρ C E) : ∃ d, r.rd ρ = some d ∧ C d ρ := by
  unfold Run rdM at h
  cases e : r.rd ρ with
  | none => rw [e] at h; exact h.elim
  | some d => rw [e] at h; exact ⟨d, rfl, h⟩
end
end Itp
end
section
set_option Elab.async false
set_option linter.all false
set_option maxRecDepth 100000
set_option maxHeartbeats 4000000
set_option autoImplicit false
namespace Itp
open PySem L2
open Evl (Ex)
theorem PE_weak {X : Cx} {e : Expr} {t t' : TE} (h : PE X e t) (w : ∀ σ H Q, t' σ H Q → t σ H Q) : PE X e t' := ⟨fun pins s σ H Q I q => h.run pins s σ H Q I (w σ H Q q)⟩
theorem PT_weak {X : Cx} {e : Expr} {t t' : TT} (h : PT X e t) (w : ∀ σ H Q, t' σ H Q → t σ H Q) : PT X e t' := ⟨fun pins s σ H Q I q => h.run pins s σ H Q I (w σ H Q q)⟩
theorem PA_weak {X : Cx} {e : List Expr} {t t' : TA} (h : PA X e t) (w : ∀ σ H Q, t' σ H Q → t σ H Q) : PA X e t' := ⟨fun pos pins s σ H Q I q => h.run pos pins s σ H Q I (w σ H Q q)⟩
theorem PS_weak {X : Cx} {e : Stmt} {t t' : TS} (h : PS X e t) (w : ∀ D σ H, t' D σ H → t D σ H) : PS X e t' := ⟨fun pins s σ H Q I q => h.run pins s σ H Q I (w Q σ H q)⟩
theorem PSs_weak {X : Cx} {e : List Stmt} {t t' : TS} (h : PSs X e t) (w : ∀ D σ H, t' D σ H → t D σ H) : PSs X e t' := ⟨fun pins s σ H Q I q => h.run pins s σ H Q I (w Q σ H q)⟩
/-- how an exception lies -/
abbrev EC := Exn → Value → Option Addr → Hp → Prop
/-- an exception's wish, from a start -/
def XW (W : WX) (ec : EC) (K : PySem.W.Frag) (σ : L2.St) (ρ : Env) (Hf H : Hp) : Exn → Env → Prop := fun x ρ' => ∀ c d Hf' H', Post K σ ρ Hf H ρ' Hf' H' → ec x c d H' → W c d σ H'
/-- an expression's reading by its meaning -/
def tM (W : WX) (ec : EC) (K : PySem.W.Frag) (f : M R) : TE := fun σ H Q => ∃ ρ Hf, Sim K ρ σ Hf H ∧
  Run f ρ (fun r ρ' => ∀ v Hf' H', Post K σ ρ Hf H ρ' Hf' H' → RRel K H σ ρ' Hf' H' r v → Q v H') (XW W ec K σ ρ Hf H)
def tMT (W : WX) (ec : EC) (K : PySem.W.Frag) (f : M Bool) : TT := fun σ H Q => ∃ ρ Hf, Sim K ρ σ Hf H ∧
  Run f ρ (fun b ρ' => ∀ Hf' H', Post K σ ρ Hf H ρ' Hf' H' → Q b H') (XW W ec K σ ρ Hf H)
def ARRel (K : PySem.W.Frag) (σ : L2.St) (ρ : Env) (Hf : Hp) : AR → V → Prop
  | .val d, v => Rp K Hf v d
  | .loc i, v => ∃ a io o, OwnAt ρ i io o ∧ σ[i]? = some (some (.ref a)) ∧ v = .ref a
abbrev ARsRel (K : PySem.W.Frag) (σ : L2.St) (ρ : Env) (Hf : Hp) : List AR → List V → Prop := Paired (ARRel K σ ρ Hf)
def tMA (W : WX) (ec : EC) (K : PySem.W.Frag) (f : M (List AR)) : TA := fun σ H Q => ∃ ρ Hf, Sim K ρ σ Hf H ∧
  Run f ρ (fun rs ρ' => ∀ vs Hf' H', Post K σ ρ Hf H ρ' Hf' H' → ARsRel K σ ρ' Hf' rs vs → Q vs H') (XW W ec K σ ρ Hf H)
/-- a slice's bound -/
def tMO (W : WX) (ec : EC) (K : PySem.W.Frag) (f : M (Option Int)) : TO := fun σ H Q => ∃ ρ Hf, Sim K ρ σ Hf H ∧
  Run f ρ (fun b ρ' => ∀ Hf' H', Post K σ ρ Hf H ρ' Hf' H' → Q b H') (XW W ec K σ ρ Hf H)
section
variable {W : WX} {ec : EC} {K : PySem.W.Frag} {σ : L2.St} {ρ0 ρ1 : Env} {Hf0 H0 Hf1 H1 : Hp} {β : Type} {C : β → Env → Prop}
theorem XW.imp {x : Exn} {ρ' : Env} (p : Post K σ ρ0 Hf0 H0 ρ1 Hf1 H1) (h : XW W ec K σ ρ0 Hf0 H0 x ρ') : XW W ec K σ ρ1 Hf1 H1 x ρ' := fun c d Hf' H' p' e => h c d Hf' H' (p.trans p') e
theorem stepM {f : M R} {g : R → M β} {G : VK} (p : Post K σ ρ0 Hf0 H0 ρ1 Hf1 H1) (h : Run (M.bind f g) ρ1 C (XW W ec K σ ρ0 Hf0 H0))
    (q : ∀ r ρ2 v Hf2 H2, Post K σ ρ0 Hf0 H0 ρ2 Hf2 H2 → Post K σ ρ1 Hf1 H1 ρ2 Hf2 H2 → RRel K H0 σ ρ2 Hf2 H2 r v → Run (g r) ρ2 C (XW W ec K σ ρ0 Hf0 H0) → G v H2) : tM W ec K f σ H1 G :=
  ⟨ρ1, Hf1, p.sim, h.bind.imp (fun r ρ2 hr v Hf2 H2 p2 rr => q r ρ2 v Hf2 H2 (p.trans p2) p2 (rr.start fun _ => p.gr.back) hr) fun x ρ2 hx => hx.imp p⟩
theorem lastM {f : M R} {G : VK} {C : R → Env → Prop} (p : Post K σ ρ0 Hf0 H0 ρ1 Hf1 H1) (h : Run f ρ1 C (XW W ec K σ ρ0 Hf0 H0))
    (q : ∀ r ρ2 v Hf2 H2, Post K σ ρ0 Hf0 H0 ρ2 Hf2 H2 → RRel K H0 σ ρ2 Hf2 H2 r v → C r ρ2 → G v H2) : tM W ec K f σ H1 G :=
  ⟨ρ1, Hf1, p.sim, h.imp (fun r ρ2 hr v Hf2 H2 p2 rr => q r ρ2 v Hf2 H2 (p.trans p2) (rr.start fun _ => p.gr.back) hr) fun x ρ2 hx => hx.imp p⟩
theorem stepA {f : M (List AR)} {g : List AR → M β} {G : List V → Hp → Prop} (p : Post K σ ρ0 Hf0 H0 ρ1 Hf1 H1) (h : Run (M.bind f g) ρ1 C (XW W ec K σ ρ0 Hf0 H0))
    (q : ∀ r ρ2 v Hf2 H2, Post K σ ρ0 Hf0 H0 ρ2 Hf2 H2 → Post K σ ρ1 Hf1 H1 ρ2 Hf2 H2 → ARsRel K σ ρ2 Hf2 r v → Run (g r) ρ2 C (XW W ec K σ ρ0 Hf0 H0) → G v H2) : tMA W ec K f σ H1 G :=
  ⟨ρ1, Hf1, p.sim, h.bind.imp (fun r ρ2 hr v Hf2 H2 p2 rr => q r ρ2 v Hf2 H2 (p.trans p2) p2 rr hr) fun x ρ2 hx => hx.imp p⟩
theorem stepT {f : M Bool} {g : Bool → M β} {G : Bool → Hp → Prop} (p : Post K σ ρ0 Hf0 H0 ρ1 Hf1 H1) (h : Run (M.bind f g) ρ1 C (XW W ec K σ ρ0 Hf0 H0))
    (q : ∀ b ρ2 Hf2 H2, Post K σ ρ0 Hf0 H0 ρ2 Hf2 H2 → Run (g b) ρ2 C (XW W ec K σ ρ0 Hf0 H0) → G b H2) : tMT W ec K f σ H1 G :=
  ⟨ρ1, Hf1, p.sim, h.bind.imp (fun r ρ2 hr Hf2 H2 p2 => q r ρ2 Hf2 H2 (p.trans p2) hr) fun x ρ2 hx => hx.imp p⟩
theorem stepO {f : M (Option Int)} {g : Option Int → M β} {G : Option Int → Hp → Prop} (p : Post K σ ρ0 Hf0 H0 ρ1 Hf1 H1) (h : Run (M.bind f g) ρ1 C (XW W ec K σ ρ0 Hf0 H0))
    (q : ∀ b ρ2 Hf2 H2, Post K σ ρ0 Hf0 H0 ρ2 Hf2 H2 → Post K σ ρ1 Hf1 H1 ρ2 Hf2 H2 → Run (g b) ρ2 C (XW W ec K σ ρ0 Hf0 H0) → G b H2) : tMO W ec K f σ H1 G :=
  ⟨ρ1, Hf1, p.sim, h.bind.imp (fun r ρ2 hr Hf2 H2 p2 => q r ρ2 Hf2 H2 (p.trans p2) p2 hr) fun x ρ2 hx => hx.imp p⟩
theorem ow0 {a : Addr} (S0 : Sim K ρ0 σ Hf0 H0) (p : Post K σ ρ0 Hf0 H0 ρ1 Hf1 H1) (h : Ow ρ1 σ a) : H0 a ≠ none := (S0.ow_some (p.ow.mp h)).1
end
/-- what an operation gives: data, or a new object -/
def NRel (K : PySem.W.Frag) (H0 Hf H : Hp) : RV → V → Prop := RVRel K H0 Hf H
/-- what the end of an operation wants -/
def NEnd (K : PySem.W.Frag) (Hf H : Hp) (r : RV) (Q : VK) : Prop := ∀ v Hf' H', Grow (fun _ => False) Hf H Hf' H' → Ex Hf' H' → RVRel K H Hf' H' r v → Q v H'
def rD (K : PySem.W.Frag) (op : D → D → Option RV) : R2 := fun x y H Q => ∃ Hf p q r, Ex Hf H ∧ RdV K Hf H x p ∧ RdV K Hf H y q ∧ op p q = some r ∧ NEnd K Hf H r Q
inductive RdVs (K : PySem.W.Frag) (Hf H : Hp) : List V → List D → Prop
  | nil : RdVs K Hf H [] []
  | cons {v : V} {vs : List V} {d : D} {ds : List D} : RdV K Hf H v d → RdVs K Hf H vs ds → RdVs K Hf H (v :: vs) (d :: ds)
def rDs (K : PySem.W.Frag) (op : List D → Option RV) : List V → Hp → VK → Prop := fun xs H Q => ∃ Hf ps r, Ex Hf H ∧ RdVs K Hf H xs ps ∧ op ps = some r ∧ NEnd K Hf H r Q
def rDM (K : PySem.W.Frag) (op : D → List D → Option RV) : V → List V → Hp → VK → Prop := fun x xs H Q => ∃ Hf p ps r, Ex Hf H ∧ RdV K Hf H x p ∧ RdVs K Hf H xs ps ∧ op p ps = some r ∧ NEnd K Hf H r Q
section
variable {W : WX} {ec : EC} {K : PySem.W.Frag} {σ : L2.St} {ρ0 ρ ρ1 : Env} {Hf0 H0 Hf H Hf1 H1 : Hp} {v : V} {Q : VK}
/-- ends of operations -/
theorem NEnd.same {d : D} {v : V} (h : NEnd K Hf H (.val d) Q) (s : Ex Hf H) (r : Rp K Hf v d) : Q v H := h v Hf H .refl s r
theorem NEnd.of {r : RV} (p : Post K σ ρ0 Hf0 H0 ρ Hf H) (h : ∀ v Hf' H', Post K σ ρ0 Hf0 H0 ρ Hf' H' → RRel K H0 σ ρ Hf' H' r.r v → Q v H') : NEnd K Hf H r Q := fun v Hf' H' g s q =>
  h v Hf' H' (p.trans (.heap p.sim g s)) ((RRel.rv q).start fun _ => p.gr.back)
theorem NEnd.newT {ds : List D} {vs : List V} {a : Addr} (h : NEnd K Hf H (.val (.tup ds)) Q) (s : Ex Hf H) (n : H a = none) (r : Rps K Hf vs ds) : Q (.ref a) (upd H a (.tup vs)) :=
  h _ (upd Hf a (.tup vs)) _ (.newF n s) (sub_newF s) (.tup (.inl (.inl upd_same)) (Rps.mono (Ex.new (Evl.fresh_back s n)) _ _ r))
theorem NEnd.newL {ds : List D} {vs : List V} {a : Addr} (h : NEnd K Hf H (.own (.lst ds)) Q) (s : Ex Hf H) (n : H a = none) (r : Rps K Hf vs ds) : Q (.ref a) (upd H a (.lst vs)) :=
  h _ Hf _ (.new n) (sub_new s (Evl.fresh_back s n)) ⟨a, rfl, Evl.fresh_back s n, ⟨vs, upd_same, r⟩, n⟩
theorem ARsRel.keep {as : List AR} {vs : List V} (p : Post K σ ρ Hf H ρ1 Hf1 H1) (h : ARsRel K σ ρ Hf as vs) : ARsRel K σ ρ1 Hf1 as vs := by
  induction h with
  | nil => exact .nil
  | @cons a v as vs r t ih =>
    refine .cons ?_ ih
    cases a with
    | val d => exact Rp.mono p.gr.ex _ _ r
    | loc i =>
      obtain ⟨b, io, o, q, s, e⟩ := r
      obtain ⟨o', q'⟩ := (p.own i io).mp ⟨o, q⟩
      exact ⟨b, io, o', q', s, e⟩
theorem ARRel.rd {a : AR} {d : D} (S : Sim K ρ σ Hf H) (h : ARRel K σ ρ Hf a v) (e : a.rd ρ = some d) : RdV K Hf H v d := by
  cases a with
  | val x => exact RRel.rd (H0 := H) (r := .val x) S h e
  | loc i => exact RRel.rd (H0 := H) (r := .loc i) S h e
theorem ARsRel.rd (S : Sim K ρ σ Hf H) : ∀ {as : List AR} {vs : List V} {ds : List D}, ARsRel K σ ρ Hf as vs → ARs.rd ρ as = some ds → RdVs K Hf H vs ds
  | _, _, ds, .nil, e => by
    cases e
    exact .nil
  | a :: as, v :: vs, ds, .cons r t, e => by
    change (a.rd ρ).bind (fun d => (ARs.rd ρ as).map (d :: ·)) = some ds at e
    cases e1 : a.rd ρ with
    | none => rw [e1] at e; cases e
    | some d =>
      rw [e1] at e
      change (ARs.rd ρ as).map (d :: ·) = some ds at e
      cases e2 : ARs.rd ρ as with
      | none => rw [e2] at e; cases e
      | some ds' =>
        rw [e2] at e
        cases e
        exact .cons (ARRel.rd S r e1) (ARsRel.rd S t e2)
theorem ARsRel.dat : ∀ {as : List AR} {vs : List V} {ds : List D}, ARsRel K σ ρ Hf as vs → ARs.dat as = some ds → Rps K Hf vs ds
  | _, _, ds, .nil, e => by
    cases e
    exact .nil
  | .val d :: as, v :: vs, ds, .cons r t, e => by
    change (ARs.dat as).map (d :: ·) = some ds at e
    cases e2 : ARs.dat as with
    | none => rw [e2] at e; cases e
    | some ds' =>
      rw [e2] at e
      cases e
      exact .cons r (ARsRel.dat t e2)
  | .loc _ :: _, _, _, .cons _ _, e => by cases e
/-- an argument -/
theorem RRel.arg {r : R} {a : AR} (p : Post K σ ρ0 Hf0 H0 ρ Hf H) (S0 : Sim K ρ0 σ Hf0 H0) (h : RRel K H0 σ ρ Hf H r v) (e : r.ar = some a) : ∃ Hf', Post K σ ρ0 Hf0 H0 ρ Hf' H ∧ Ex Hf Hf' ∧ ARRel K σ ρ Hf' a v := by
  cases r with
  | val x =>
    obtain ⟨Hf', p', x', q⟩ := RRel.dat (d := x) p S0 h rfl
    cases e
    exact ⟨Hf', p', x', q⟩
  | own o =>
    cases e1 : o.toD with
    | none =>
      change o.toD.map AR.val = some a at e
      rw [e1] at e; cases e
    | some d =>
      change o.toD.map AR.val = some a at e
      rw [e1] at e; cases e
      exact RRel.dat (d := d) p S0 h e1
  | loc i =>
    cases e
    exact ⟨Hf, p, fun _ _ h => h, h⟩
end
/-! ### operations of two -/
section
variable {W : WX} {ec : EC} {K : PySem.W.Frag}
theorem op2_reads {fa fb : M R} {op : D → D → Option RV} (σ : L2.St) (H : Hp) (Q : VK) (h : tM W ec K (op2 fa fb op) σ H Q) : tOp (rD K op) (tM W ec K fa) (tM W ec K fb) σ H Q := by
  obtain ⟨ρ, Hf, S, h⟩ := h
  refine stepM (.refl S) h fun r1 ρ1 v1 Hf1 H1 p1 _ q1 h1 => ?_
  refine stepM p1 h1 fun r2 ρ2 v2 Hf2 H2 p2 p12 q2 h2 => ?_
  obtain ⟨d1, e1, h3⟩ := h2.bind.rd
  obtain ⟨d2, e2, h4⟩ := h3.bind.rd
  obtain ⟨r, e3, h5⟩ := h4.of
  have k1 := q1.keep p1.sim (fun a z => ow0 S p1 z) p12
  cases e4 : op d1 d2 with
  | none => rw [e4] at e3; cases e3
  | some rv =>
    rw [e4] at e3
    cases e3
    exact ⟨Hf2, d1, d2, rv, p2.sim.sub, k1.rd p2.sim e1, q2.rd p2.sim e2, e4, NEnd.of p2 h5⟩
/-- calls of what the library has -/
theorem opA_reads {fa : M (List AR)} {op : List D → Option RV} (σ : L2.St) (H : Hp) (Q : VK) (h : tM W ec K (opA fa op) σ H Q) : tCB (rDs K op) (tMA W ec K fa) σ H Q := by
  obtain ⟨ρ, Hf, S, h⟩ := h
  refine stepA (.refl S) h fun as ρ1 vs Hf1 H1 p1 _ q1 h1 => ?_
  unfold Run at h1
  cases e : ARs.rd ρ1 as with
  | none => simp only [e] at h1; exact h1.elim
  | some ds =>
    cases e2 : op ds with
    | none => simp only [e, Option.bind_some, e2] at h1
    | some r =>
      simp only [e, Option.bind_some, e2] at h1
      exact ⟨Hf1, ds, r, p1.sim.sub, q1.rd p1.sim e, e2, NEnd.of p1 h1⟩
end
end Itp
end
section
set_option Elab.async false
set_option linter.all false
set_option maxRecDepth 100000
set_option maxHeartbeats 4000000
set_option autoImplicit false
/-! Judgements with a lower bound on the tokens that are out. -/
namespace Itp
open PySem PySem.Spec PyProof.Rows L2
open Evl (Ex)
theorem thT {α : Type} {t : Sem α} {Q Q' : α → Shared → Prop} {M : Model} {A : Around} {E : Value → Shared → Prop} {s : Shared} {n : Nat} (hn : n ≤ s.toks) (h : wpAny M A t Q E s) (hQ : ∀ a s', n ≤ s'.toks → Q a s' → Q' a s') : wpAny M A t Q' E s :=
  wpAny_mono (wpAny_toks_of hn h) (fun a s' q => hQ a s' q.1 q.2) fun _ _ q => q.2
def QE (n : Nat) (X : Cx) (e : Expr) (t : TE) : Prop := ∀ (pins : List (Addr × Obj)) (s : Shared) (τ : L2.St) (G : Hp) (Q : VK), n ≤ s.toks → Inv X pins τ G s → t τ G Q →
  wpAny (model X.prog X.w) X.A (eval e X.env) (EP X pins τ Q) X.xe s
def QT (n : Nat) (X : Cx) (e : Expr) (t : TT) : Prop := ∀ (whole : Sem Value) (pins : List (Addr × Obj)) (s : Shared) (τ : L2.St) (G : Hp) (Q : Bool → Hp → Prop), whole = eval e X.env → n ≤ s.toks → Inv X pins τ G s → t τ G Q →
  wpAny (model X.prog X.w) X.A (isTrue e X.env whole) (TP X pins τ Q) X.xe s
def QA (n : Nat) (X : Cx) (es : List Expr) (t : TA) : Prop := ∀ (pos : Pos) (pins : List (Addr × Obj)) (s : Shared) (τ : L2.St) (G : Hp) (Q : List V → Hp → Prop), n ≤ s.toks → Inv X pins τ G s → t τ G Q →
  wpAny (model X.prog X.w) X.A (spliced (backTo pos (starEach es X.env))) (AP X pins τ Q) X.xe s
def QS (n : Nat) (X : Cx) (st : Stmt) (t : TS) : Prop := ∀ (pins : List (Addr × Obj)) (s : Shared) (τ : L2.St) (G : Hp) (D : Ends), n ≤ s.toks → Inv X pins τ G s → t D τ G →
  wpAny (model X.prog X.w) X.A (exec st X.env) (SP X pins D) X.xe s
def QSs (n : Nat) (X : Cx) (st : List Stmt) (t : TS) : Prop := ∀ (pins : List (Addr × Obj)) (s : Shared) (τ : L2.St) (G : Hp) (D : Ends), n ≤ s.toks → Inv X pins τ G s → t D τ G →
  wpAny (model X.prog X.w) X.A (execs st X.env) (SP X pins D) X.xe s
section
variable {n : Nat} {X : Cx} {e a b c : Expr} {es : List Expr} {ta tb tc te : TE} {t : TA} {pos p : Pos}
theorem QE.of (h : PE X e te) : QE n X e te := fun pins s τ G Q _ I q => h.run pins s τ G Q I q
theorem QE.weak {te' : TE} (h : QE n X e te) (w : ∀ τ G Q, te' τ G Q → te τ G Q) : QE n X e te' := fun pins s τ G Q hn I q => h pins s τ G Q hn I (w _ _ _ q)
theorem QT.weak {u u' : TT} (h : QT n X e u) (w : ∀ τ G Q, u' τ G Q → u τ G Q) : QT n X e u' := fun wh pins s τ G Q hw hn I q => h wh pins s τ G Q hw hn I (w _ _ _ q)
theorem QA.weak {t' : TA} (h : QA n X es t) (w : ∀ τ G Q, t' τ G Q → t τ G Q) : QA n X es t' := fun ps pins s τ G Q hn I q => h ps pins s τ G Q hn I (w _ _ _ q)
theorem QS.weak {st : Stmt} {u u' : TS} (h : QS n X st u) (w : ∀ D τ G, u' D τ G → u D τ G) : QS n X st u' := fun pins s τ G D hn I q => h pins s τ G D hn I (w _ _ _ q)
theorem QSs.weak {st : List Stmt} {u u' : TS} (h : QSs n X st u) (w : ∀ D τ G, u' D τ G → u D τ G) : QSs n X st u' := fun pins s τ G D hn I q => h pins s τ G D hn I (w _ _ _ q)
theorem QS.of {st : Stmt} {u : TS} (h : PS X st u) : QS n X st u := fun pins s τ G D _ I q => h.run pins s τ G D I q
/-- one expression, then something of its value -/
theorem QE.then {α : Type} (h : QE n X e te) {pins : List (Addr × Obj)} {s : Shared} {τ : L2.St} {G : Hp} {R : V → Hp → Prop} (hn : n ≤ s.toks) (I : Inv X pins τ G s) (q : te τ G R) {Q : Value → Shared → Prop}
    (k : ∀ u s' x G', n ≤ s'.toks → Inv X pins τ G' s' → RelV x u → R x G' → Q u s') : wpAny (model X.prog X.w) X.A (eval e X.env) Q X.xe s :=
  thT hn (h pins s τ G R hn I q) fun u s' hn' ⟨x, G', I', r, q'⟩ => k u s' x G' hn' I' r q'
theorem QE.two (ha : QE n X a ta) (hb : QE n X b tb) {pins : List (Addr × Obj)} {s : Shared} {τ : L2.St} {G : Hp} {R : V → V → Hp → Prop} (hn : n ≤ s.toks) (I : Inv X pins τ G s)
    (q : ta τ G fun x G1 => tb τ G1 fun y G2 => R x y G2) {Q : Value → Shared → Prop} {f : Value → Value → Sem Value}
    (k : ∀ v u s' x y G', n ≤ s'.toks → Inv X pins τ G' s' → RelV x v → RelV y u → R x y G' → wpAny (model X.prog X.w) X.A (f v u) Q X.xe s') :
    wpAny (model X.prog X.w) X.A (eval a X.env) (fun v s1 => wpAny (model X.prog X.w) X.A (eval b X.env) (fun u s2 => wpAny (model X.prog X.w) X.A (f v u) Q X.xe s2) X.xe s1) X.xe s :=
  QE.then (α := Unit) ha hn I q fun v s1 x G1 hn1 I1 rx q1 => QE.then (α := Unit) hb hn1 I1 q1 fun u s2 y G2 hn2 I2 ry q2 => k v u s2 x y G2 hn2 I2 rx ry q2
theorem qe_op {op : Operator} {r : R2} (ho : OpR X (binaryOp op) r) (ha : QE n X a ta) (hb : QE n X b tb) : QE n X (.BinOp a op b pos) (tOp r ta tb) := fun pins s τ G Q hn I h =>
  wpAny_BinOp (ha.two hb hn I h fun v u s2 x y G2 _ I2 rx ry q => ho pins s2 τ G2 x y v u Q I2 rx ry q)
theorem qe_cmp {op : CmpOp} {r : R2} (ho : OpR X (compareOp op) r) (ha : QE n X a ta) (hb : QE n X b tb) (hm : behindInMarks op b = false) : QE n X (.Compare a [op] [b] pos) (tOp r ta tb) := fun pins s τ G Q hn I h =>
  wpAny_Compare1 (ha.two hb hn I h fun v u s2 x y G2 _ I2 rx ry q => ho pins s2 τ G2 x y v u Q I2 rx ry q) hm
theorem qe_un {op : UnaryOp} {r : V → Hp → VK → Prop} (ho : UnR X (unaryOp op) r) (ha : QE n X a ta) : QE n X (.UnaryOp op a pos) (tUn r ta) := fun pins s τ G Q hn I h =>
  UnaryOp_ (ha.then (α := Unit) hn I h fun v s1 x G1 _ I1 rx q => ho pins s1 τ G1 x v Q I1 rx q)
theorem qe_not (ha : QE n X a ta) : QE n X (.UnaryOp .Not a pos) (tNotT X.K ta) := fun pins s τ G Q hn I h =>
  UnaryOp_ (ha.then (α := Unit) hn I h fun v s1 x G1 _ I1 rx ⟨k, ek, q⟩ =>
    not_of (thn (tru_ok pins s1 τ G1 x v (fun z G2 => Q (.bl (!z)) G2) I1 rx ⟨k, ek, q⟩) fun z s2 ⟨G2, I2, q2⟩ => ⟨.bl (!z), G2, I2, rfl, q2⟩))
theorem qe_and {rest : List Expr} (ha : QE n X a ta) (hb : QE n X (.BoolOp .And (b :: rest) pos) tb) : QE n X (.BoolOp .And (a :: b :: rest) pos) (tAndT X.K ta tb) := fun pins s τ G Q hn I h =>
  BoolOp_and (ha.then (α := Unit) hn I h fun v s1 x G1 hn1 I1 rx ⟨k, ek, q⟩ => by
    refine thT hn1 (tru_ok pins s1 τ G1 x v (fun z G2 => z = k ∧ G2 = G1) I1 rx ⟨k, ek, rfl, rfl⟩) fun z s2 hn2 ⟨G2, I2, e1, e2⟩ => ?_
    subst e1 e2
    cases z
    · exact ⟨x, G2, I2, rx, q⟩
    · exact hb pins s2 τ G2 Q hn2 I2 q)
theorem qe_or {rest : List Expr} (ha : QE n X a ta) (hb : QE n X (.BoolOp .Or (b :: rest) pos) tb) : QE n X (.BoolOp .Or (a :: b :: rest) pos) (tOrT X.K ta tb) := fun pins s τ G Q hn I h =>
  BoolOp_or (ha.then (α := Unit) hn I h fun v s1 x G1 hn1 I1 rx ⟨k, ek, q⟩ => by
    refine thT hn1 (tru_ok pins s1 τ G1 x v (fun z G2 => z = k ∧ G2 = G1) I1 rx ⟨k, ek, rfl, rfl⟩) fun z s2 hn2 ⟨G2, I2, e1, e2⟩ => ?_
    subst e1 e2
    cases z
    · exact hb pins s2 τ G2 Q hn2 I2 q
    · exact ⟨x, G2, I2, rx, q⟩)
theorem qe_one {op : BoolOp} (h : QE n X a ta) : QE n X (.BoolOp op [a] pos) ta := fun pins s τ G Q hn I q => BoolOp_one (h pins s τ G Q hn I q)
theorem qe_chain {op op' : CmpOp} {r r' : R2} (ho : OpR X (compareOp op) r) (ho' : OpR X (compareOp op') r') (ha : QE n X a ta) (hb : QE n X b tb) (hc : QE n X c tc)
    (hm : lastMarks [op, op'] [b, c] = false) : QE n X (.Compare a [op, op'] [b, c] pos) (tChain r r' ta tb tc) := fun pins s τ G Q hn I h =>
  Compare_chain (ha.then (α := Unit) hn I h fun v s1 x G1 hn1 I1 rx q1 => chain_link (hb.then (α := Unit) hn1 I1 q1 fun u s2 y G2 hn2 I2 ry q2 =>
    thT hn2 (ho pins s2 τ G2 x y v u _ I2 rx ry q2) fun d s3 hn3 ⟨z, G3, I3, rz, k, ek, q3⟩ => by
      subst ek
      cases rz
      refine wpAny_truthy_bool ?_
      cases k
      · exact ite_ff ⟨.bl false, G3, I3, rfl, q3⟩
      · exact ite_tt (chain_last (hc.then (α := Unit) hn3 I3 q3 fun w4 s4 z4 G4 _ I4 r4 q4 => ho' pins s4 τ G4 y z4 u w4 Q I4 ry r4 q4)))) hm
theorem qt_chain {op op' : CmpOp} {r r' : R2} (ho : OpR X (compareOp op) r) (ho' : OpR X (compareOp op') r') (ha : QE n X a ta) (hb : QE n X b tb) (hc : QE n X c tc)
    (hm : lastMarks [op, op'] [b, c] = false) : QT n X (.Compare a [op, op'] [b, c] pos) (tTest (tChain r r' ta tb tc)) := fun _ pins s τ G Q _ hn I h =>
  isTrue_chain (ha.then (α := Unit) hn I h fun v s1 x G1 hn1 I1 rx q1 => test_link (hb.then (α := Unit) hn1 I1 q1 fun u s2 y G2 hn2 I2 ry q2 =>
    thT hn2 (ho pins s2 τ G2 x y v u _ I2 rx ry q2) fun d s3 hn3 ⟨z, G3, I3, rz, k, ek, q3⟩ => by
      subst ek
      cases rz
      refine wpAny_truthy_bool ?_
      cases k
      · obtain ⟨k', ek', q'⟩ := q3
        cases ek'
        exact ite_ff ⟨G3, I3, q'⟩
      · refine ite_tt (test_last (hc.then (α := Unit) hn3 I3 q3 fun w4 s4 z4 G4 _ I4 r4 q4 => thn (ho' pins s4 τ G4 y z4 u w4 _ I4 ry r4 q4) fun d5 s5 ⟨z5, G5, I5, r5, k5, ek5, q5⟩ => ?_))
        subst ek5
        cases r5
        exact wpAny_truthy_bool ⟨G5, I5, q5⟩)) hm
theorem qt_cmp {op : CmpOp} {r : R2} (ho : OpR X (compareOp op) r) (ha : QE n X a ta) (hb : QE n X b tb) (hm : behindInMarks op b = false) : QT n X (.Compare a [op] [b] pos) (tTest (tOp r ta tb)) := fun _ pins s τ G Q _ hn I h =>
  wpAny_isTrue_Compare1 (ha.then (α := Unit) hn I h fun v s1 x G1 hn1 I1 rx q1 => hb.then (α := Unit) hn1 I1 q1 fun u s2 y G2 hn2 I2 ry q2 =>
    thn (ho pins s2 τ G2 x y v u _ I2 rx ry q2) fun d s3 ⟨z, G3, I3, rz, k, ek, q3⟩ => by
      subst ek
      cases rz
      exact wpAny_truthy_bool ⟨G3, I3, q3⟩) hm
/-- the truth of a value, of an expression of no special form -/
def tTru (K : PySem.W.Frag) (ta : TE) : TT := fun τ G Q => ta τ G fun x G1 => ∃ k, TruV K x G1 k ∧ Q k G1
theorem qt_plain (ha : QE n X a ta) (hp : ∀ whole, isTrue a X.env whole = (do let v ← whole; standAt a.pos; holding [v] (truthy v))) : QT n X a (tTru X.K ta) := fun wh pins s τ G Q hw hn I h => by
  subst hw
  exact isTrue_plain (ha.then (α := Unit) hn I h fun v s1 x G1 _ I1 rx q => tru_ok pins s1 τ G1 x v Q I1 rx q) (hp _)
theorem qt_not {u : TT} (ha : QT n X a u) : QT n X (.UnaryOp .Not a pos) (tNot u) := fun _ pins s τ G Q _ hn I h => isTrue_not (ha _ pins s τ G (fun z G1 => Q (!z) G1) rfl hn I h)
/-- in and, or what is the whole does not matter -/
def QW (n : Nat) (X : Cx) (e : Expr) (t : TT) : Prop := ∀ (whole : Sem Value) (pins : List (Addr × Obj)) (s : Shared) (τ : L2.St) (G : Hp) (Q : Bool → Hp → Prop), n ≤ s.toks → Inv X pins τ G s → t τ G Q →
  wpAny (model X.prog X.w) X.A (isTrue e X.env whole) (TP X pins τ Q) X.xe s
theorem QW.test {u : TT} (h : QW n X e u) : QT n X e u := fun wh pins s τ G Q _ hn I q => h wh pins s τ G Q hn I q
theorem qw_and1 {u : TT} (ha : QT n X a u) : QW n X (.BoolOp .And [a] pos) u := fun _ pins s τ G Q hn I h => isTrue_and (thn (ha _ pins s τ G Q rfl hn I h) fun z s1 q => by
  cases z
  · exact q
  · exact isTrue_and_nil q)
theorem qw_or1 {u : TT} (ha : QT n X a u) : QW n X (.BoolOp .Or [a] pos) u := fun _ pins s τ G Q hn I h => isTrue_or (thn (ha _ pins s τ G Q rfl hn I h) fun z s1 q => by
  cases z
  · exact isTrue_or_nil q
  · exact q)
theorem qw_and {rest : List Expr} {u v : TT} (ha : QT n X a u) (hb : QW n X (.BoolOp .And (b :: rest) pos) v) : QW n X (.BoolOp .And (a :: b :: rest) pos) (tAnd u v) := fun wh pins s τ G Q hn I h =>
  isTrue_and (thT hn (ha _ pins s τ G _ rfl hn I h) fun z s1 hn1 ⟨G1, I1, q⟩ => by
    cases z
    · exact ⟨G1, I1, q⟩
    · exact hb wh pins s1 τ G1 Q hn1 I1 q)
theorem qw_or {rest : List Expr} {u v : TT} (ha : QT n X a u) (hb : QW n X (.BoolOp .Or (b :: rest) pos) v) : QW n X (.BoolOp .Or (a :: b :: rest) pos) (tOr u v) := fun wh pins s τ G Q hn I h =>
  isTrue_or (thT hn (ha _ pins s τ G _ rfl hn I h) fun z s1 hn1 ⟨G1, I1, q⟩ => by
    cases z
    · exact hb wh pins s1 τ G1 Q hn1 I1 q
    · exact ⟨G1, I1, q⟩)
theorem qe_if {u : TT} (hc : QT n X c u) (ha : QE n X a ta) (hb : QE n X b tb) : QE n X (.IfExp c a b pos) (tIf u ta tb) := fun pins s τ G Q hn I h =>
  wpAny_IfExp (thT hn (hc _ pins s τ G _ rfl hn I h) fun z s1 hn1 ⟨G1, I1, q⟩ => by
    cases z
    · exact hb pins s1 τ G1 Q hn1 I1 q
    · exact ha pins s1 τ G1 Q hn1 I1 q)
theorem qa_nil : QA n X [] tNil := fun _ _ _ _ G Q _ I h => Calls.spliced_nil ⟨[], G, I, .nil, h⟩
theorem qa_cons (ha : QE n X e te) (hr : QA n X es t) (hs : starEach (e :: es) X.env = (false, eval e X.env) :: starEach es X.env) : QA n X (e :: es) (tCons te t) := fun ps pins s τ G Q hn I h => by
  rw [hs]
  show wpAny _ _ (spliced ((false, eval e X.env) :: backTo ps (starEach es X.env))) _ _ s
  exact Calls.spliced_cons (ha.then (α := Unit) hn I h fun u s1 x G1 hn1 I1 rx q => thn (hr ps pins s1 τ G1 _ hn1 I1 q) fun us s2 ⟨xs, G2, I2, rxs, q2⟩ => ⟨x :: xs, G2, I2, .cons rx rxs, q2⟩)
theorem qe_tup {k : Nat} (h : QA n X es t) : QE n X (.Tuple es k pos) (tTup t) := fun pins s τ G Q hn I hq => by
  refine wpAny_Tuple_spliced (thn (h pos pins s τ G _ hn I hq) fun us s1 ⟨xs, G1, I1, r, z, q⟩ => ⟨by rw [← r.length]; exact z, ?_⟩)
  refine ⟨.ref s1.heap.objs.size, _, I1.laid (t' := s1.toks) (o := .tup xs) (fun b u eb => Heap.get?_push_of_some _ eb) (Nat.le_refl _) ⟨z, us, r, ⟨_, Heap.get?_push_size _ rfl, rfl, _, rfl⟩⟩, rfl, q _ (I1.hok.fresh (Nat.le_refl _))⟩
theorem qe_lst (h : QA n X es t) : QE n X (.List es pos) (tLst t) := fun pins s τ G Q hn I hq => by
  refine wpAny_List_spliced (thn (h pos pins s τ G _ hn I hq) fun us s1 ⟨xs, G1, I1, r, z, q⟩ => ⟨by rw [← r.length]; exact z, ?_⟩)
  refine ⟨.ref s1.heap.objs.size, _, I1.laid (t' := s1.toks) (o := .lst xs) (fun b u eb => Heap.get?_push_of_some _ eb) (Nat.le_refl _) ⟨z, us, 0, r, Heap.get?_push_size _ rfl⟩, rfl, q _ (I1.hok.fresh (Nat.le_refl _))⟩
theorem qe_ix {r : R2} (hr : IxR X r) (ha : QE n X a ta) (hb : QE n X b tb) (hs : PlainIx b) : QE n X (.Subscript a b pos) (tOp r ta tb) := fun pins s τ G Q hn I h =>
  Subscript_ (ha.two hb hn I h fun v u s2 x y G2 _ I2 rx ry q => hr a b pins s2 τ G2 x y v u Q I2 rx ry q (hs _ _))
/-- a slice's part -/
def QO (n : Nat) (X : Cx) (e : Option Expr) (t : TO) : Prop := ∀ (pins : List (Addr × Obj)) (s : Shared) (τ : L2.St) (G : Hp) (Q : Option Int → Hp → Prop), n ≤ s.toks → Inv X pins τ G s → t τ G Q →
  wpAny (model X.prog X.w) X.A (evalPart e X.env) (fun u s' => ∃ o G', Inv X pins τ G' s' ∧ IsPart u o ∧ Q o G') X.xe s
end
end Itp
end
section
set_option Elab.async false
set_option linter.all false
set_option maxRecDepth 100000
set_option maxHeartbeats 4000000
set_option autoImplicit false
/-! Slices, calls, methods. -/
namespace Itp
open PySem PySem.Spec PyProof.Rows L2
open Evl (Ex)
section
variable {n : Nat} {X : Cx} {e a b c : Expr} {es : List Expr} {ta tb tc te : TE} {t : TA} {pos p : Pos}
theorem qo_none : QO n X none tNoPart := fun pins s τ G Q _ I h => wpAny_evalPart_none ⟨none, G, I, .none, h⟩
theorem qo_some (h : QE n X e te) : QO n X (some e) (tPart te) := fun pins s τ G Q hn I hw =>
  wpAny_evalPart_some (h.then (α := Unit) hn I hw fun u s1 x G1 _ I1 r ⟨i, ei, q⟩ => by
    subst ei
    obtain ⟨tk, rfl⟩ := r
    exact ⟨some i, G1, I1, .int i tk, q⟩)
theorem QO.weak {o : Option Expr} {u u' : TO} (h : QO n X o u) (w : ∀ τ G Q, u' τ G Q → u τ G Q) : QO n X o u' := fun pins s τ G Q hn I q => h pins s τ G Q hn I (w _ _ _ q)
theorem qe_slice {lo hi : Option Expr} {tl th : TO} {p2 : Pos} {r : V → Option Int → Option Int → Hp → VK → Prop} (hr : SlR X r) (he : QE n X e te) (hl : QO n X lo tl) (hu : QO n X hi th) :
    QE n X (.Subscript e (.Slice lo hi none p2) pos) (tSl r te tl th) := fun pins s τ G Q hn I h => by
  refine Subscript_ (he.then (α := Unit) hn I h fun v s1 x G1 hn1 I1 rx q1 => wpAny_Slice (thT hn1 (hl pins s1 τ G1 _ hn1 I1 q1) fun vl s2 hn2 ⟨l, G2, I2, pl, q2⟩ => thn (hu pins s2 τ G2 _ hn2 I2 q2) fun vu s3 ⟨u, G3, I3, pu, q3⟩ => ?_))
  refine wpAny_evalPart_none ?_
  have I4 : Inv X pins τ G3 { s3 with heap := s3.heap.push { cls := .type "slice", data := .fields #[vl, vu, .none] } } := I3.kept (t' := s3.toks) fun b' ob q => Heap.get?_push_of_some _ q
  obtain ⟨T, id, hT, ht, hg⟩ := hr pins _ τ G3 x v vl vu l u s3.heap.objs.size Q I4 rx (Heap.IsSliceOf.new ..) pl pu q3
  exact tail_any (ops := [.ref s3.heap.objs.size, v]) ht hT hg (by with_unfolding_all rfl)
theorem qe_rev {k : Nat} {p1 p2 p3 : Pos} (he : QE n X e te) : QE n X (.Subscript e (.Slice none none (some (.UnaryOp .USub (.Constant (.int 1) k p1) p2)) p3) pos) (tRevL X.K te) := fun pins s τ G Q hn I h => by
  refine Subscript_ (he.then (α := Unit) hn I h fun v s1 x G1 hn1 I1 rx ⟨a', xs, ex, hx, q⟩ => ?_)
  subst ex
  cases rx
  have hst : PO X (some (.UnaryOp .USub (.Constant (.int 1) k p1) p2)) (tPart (tUn (rU fun i => .int (-i)) (tC (.int 1)))) := po_some (pe_un un_neg pe_int)
  refine wpAny_Slice (wpAny_evalPart_none (wpAny_evalPart_none (thn (hst.run pins s1 τ G1 (fun o G2 => o = some (-1) ∧ G2 = G1) I1 ⟨1, rfl, -1, rfl, rfl, rfl⟩) fun vs s4 ⟨o, G4, I4, ps, eo, e4⟩ => ?_)))
  subst eo e4
  have I5 : Inv X pins τ G4 { s4 with heap := s4.heap.push { cls := .type "slice", data := .fields #[.none, .none, vs] } } := I4.kept (t' := s4.toks) fun b' ob q' => Heap.get?_push_of_some _ q'
  obtain ⟨its, r, ht, hz⟩ := I5.list hx
  refine tail_any (ops := [.ref a', .ref s4.heap.objs.size]) ht.isList.typeIs (PySem.slot_list_getitem.lookup) (wpAny_getItem_list_slice ht.isList (Heap.IsSliceOf.new _ .none .none vs) .none .none ps (by decide) ?_ (by rw [List.size_toArray, ← r.length]; exact hz)) (by with_unfolding_all rfl)
  rw [PySem.W.krv_pick]
  exact ⟨.ref _, _, I5.laid (t' := s4.toks) (o := .lst xs.reverse) (fun b' ob q' => Heap.get?_push_of_some _ q') (Nat.le_refl _) ⟨by rw [List.length_reverse]; exact hz, _, 0, r.reverse, Heap.get?_push_size _ rfl⟩, rfl, q _ (I5.hok.fresh (Nat.le_refl _))⟩
variable {x : Str} {id T : String} {r : List V → Hp → VK → Prop}
theorem qe_callB (hc : CallR X (.builtin id) r) (hg : Gl X x) (hm : X.mg x = none) (hv : bootBuiltins x = some (.builtin id)) (ha : QA n X (e :: es) t) (hnm : x ≠ "__name__") (hdb : (x == ("__debug__" : Str)) = false)
    (he : starEach (e :: es) X.env = (false, eval e X.env) :: starEach es X.env) (hpl : (backTo pos (starEach es X.env)).any (·.1) = false) : QE n X (.Call (.Name x p) (e :: es) [] pos) (tCB r t) := fun pins s τ G Q hn I h =>
  wpAny_Call_Name_kw (ld_blt I hg hm hv (PyProof.Rows.callWith_builtin1 (thn (ha pos pins s τ G _ hn I h) fun us s1 ⟨vs, G1, I1, r1, q1⟩ => hc pins s1 τ G1 vs us Q I1 r1 q1) he hpl) hnm hdb)
theorem qe_callTy (hc : CallR X (.type T) r) (hg : Gl X x) (hm : X.mg x = none) (hv : bootBuiltins x = some (.type T)) (ha : QA n X (e :: es) t) (hnm : x ≠ "__name__") (hdb : (x == ("__debug__" : Str)) = false)
    (he : starEach (e :: es) X.env = (false, eval e X.env) :: starEach es X.env) (hpl : (backTo pos (starEach es X.env)).any (·.1) = false) : QE n X (.Call (.Name x p) (e :: es) [] pos) (tCB r t) := fun pins s τ G Q hn I h =>
  wpAny_Call_Name_kw (ld_blt I hg hm hv (PyProof.Rows.callWith_type1 (thn (ha pos pins s τ G _ hn I h) fun us s1 ⟨vs, G1, I1, r1, q1⟩ => hc pins s1 τ G1 vs us Q I1 r1 q1) he hpl) hnm hdb)
/-- a built-in's method, its receiver's type by the value -/
theorem qe_bm {o : Expr} {to : TE} {name : Str} {apos : Pos} {r : V → List V → Hp → VK → Prop} (pa : PlainAttrs T) (slot : Slot T name id) (hty : typeOf (.builtin id) = pure (.type "method_descriptor")) (hm : MtR X id r) (ho : QE n X o to) (ha : QA n X (e :: es) t)
    (hbase : attributeBase o name X.env (eval o X.env) = eval o X.env)
    (hfew : ((backTo pos (starEach (e :: es) X.env)).all (fun x => !x.1) && (backToKw pos (keywordEach [] X.env)).all (fun x => x.1.isSome)
      && decide ((e :: es).length + ([] : List Keyword).length + (if ([] : List Keyword).isEmpty then 0 else 1) < 30)) = true)
    (hline : (apos.endLine == pos.line) = true) (hs : starEach (e :: es) X.env = (false, eval e X.env) :: starEach es X.env) (hplain : (backTo pos (starEach es X.env)).any (·.1) = false) :
    QE n X (.Call (.Attribute o name apos) (e :: es) [] pos) (tBM X.K T r to t) := fun pins s τ G Q hn I h => by
  refine wpAny_Call_method_late hbase hfew hline rfl (ho.then (α := Unit) hn I h fun v s1 x G1 hn1 I1 r1 ⟨ty, q1⟩ => ?_)
  obtain ⟨h1, h2⟩ := tyV_is I1 r1 ty
  refine ⟨T, id, pa, slot, hty, h1, h2, ?_⟩
  have hA := ha pos pins s1 τ G1 _ hn1 I1 q1
  rw [hs] at hA ⊢
  exact Calls.callWith_builtin (by show (false || (backTo pos (starEach es X.env)).any (·.1)) = false; rw [hplain] <;> rfl) (Calls.evalArgs_plain (thn hA fun us s2 ⟨vs, G2, I2, r2, q2⟩ => hm pins s2 τ G2 x vs v us Q I2 r1 r2 q2))
theorem qe_bm0 {o : Expr} {to : TE} {name : Str} {apos : Pos} {r : V → List V → Hp → VK → Prop} (pa : PlainAttrs T) (slot : Slot T name id) (hty : typeOf (.builtin id) = pure (.type "method_descriptor")) (hm : MtR X id r) (ho : QE n X o to)
    (hbase : attributeBase o name X.env (eval o X.env) = eval o X.env) (hline : (apos.endLine == pos.line) = true) : QE n X (.Call (.Attribute o name apos) [] [] pos) (tBM0 X.K T r to) := fun pins s τ G Q hn I h => by
  refine wpAny_Call_method0_late hbase hline (ho.then (α := Unit) hn I h fun v s1 x G1 hn1 I1 r1 ⟨ty, q1⟩ => ?_)
  obtain ⟨h1, h2⟩ := tyV_is I1 r1 ty
  exact ⟨T, id, pa, slot, hty, h1, h2, Calls.callWith_builtin rfl (PySem.evalArgs_none (hm pins s1 τ G1 x [] v [] Q I1 r1 .nil q1))⟩
end
/-! ### defs -/
/-- a def's promise, where at least n tokens are out -/
structure FnT (n : Nat) (P : Program) (w : World) (K : PySem.W.Frag) (mg : Str → Option Value) (base : Heap) (k : Nat) (f : Addr) (fd : FuncData) (ps : List Str) (sp : Sp) : Prop where
  len : ∀ vs G Q E, sp vs G Q E → vs.length = ps.length
  run : ∀ (A : Around) (outer : List PySem.Env) (s : Shared) (G : Hp) (args : Args) (us : List Value) (vs : List V) (Q : VK) (E : XK), n ≤ s.toks → Room k A → Env0 P w K mg base A outer s G → BindsTo s fd args (ps.zip us) → Vals vs us → sp vs G Q E →
    codeAny (model P w) A (.call (.ref f) args) (CR (L2.CX P w) outer P w G s Q E) s
section
variable {P : Program} {w : World} {K : PySem.W.Frag} {mg : Str → Option Value} {base : Heap}
theorem FnT.imp {n k : Nat} {f : Addr} {fd : FuncData} {ps : List Str} {sp sp' : Sp} (F : FnT n P w K mg base k f fd ps sp) (h : ∀ vs G Q E, sp' vs G Q E → sp vs G Q E) : FnT n P w K mg base k f fd ps sp' :=
  ⟨fun vs G Q E q => F.len vs G Q E (h _ _ _ _ q), fun A outer s G args us vs Q E hn hr e0 hb r q => F.run A outer s G args us vs Q E hn hr e0 hb r (h _ _ _ _ q)⟩
theorem fnT_of {n k : Nat} {f : Addr} {name qual : Str} {params : Arguments} {body : List Stmt} {scope : Scope} {dV kV doc pm cdv ct oc : Value} {an od : Option Addr}
    {osl : Array (Option Value)} {N ps : List Str} {sp : Sp} (lk : K.lookup f = some ⟨oc, od, .func (PySem.W.fnOf name qual params body scope dV kV doc pm an cdv ct), osl⟩) (hcd : PySem.W.codeIn K cdv qual = true) (S : FnScope N ps scope)
    (len : ∀ vs G Q E, sp vs G Q E → vs.length = ps.length)
    (hbody : ∀ (A : Around) (outer : List PySem.Env) (s : Shared) (G : Hp) (vs : List V) (Q : VK) (E : XK), Room k (A.deeper (envOfC qual scope s.heap.objs.size f cdv)) → sp vs G Q E →
      ∃ t, QSs n (cxOf (L2.CX P w) P w K mg base N qual scope f cdv A outer s G E) body t ∧ t { nx := fun _ G' => Q .non G', rt := Q } (start N vs) G) :
    FnT n P w K mg base (k + 1) f (PySem.W.fnOf name qual params body scope dV kV doc pm an cdv ct) ps sp := by
  refine ⟨len, fun A outer s G args us vs Q E hn hr e0 hb r hsp => ?_⟩
  have hl := len _ _ _ _ hsp
  have kx : K.In s.heap := e0.mod.kin.keeps fun b o e => (e0.bs b o e).1
  have nl : s.heap.NoLimit := e0.mod.nolimit.keeps fun b o e => (e0.bs b o e).1
  have kinds : ∀ y ∈ ps.zip us, scope.names.lookup y.1 = some .local ∨ (scope.names.lookup y.1 = some .cell ∧ ((cellsFrom (s.heap.objs.size + 1) scope.names []).lookup y.1).isSome = true) := fun ⟨y, v⟩ hy =>
    (S.par y (List.of_mem_zip hy).1).imp id fun q => ⟨q, PySem.W.cellsFrom_some _ _ _ (.inl q)⟩
  refine codeAny_call_function hr.depth (kx _ _ lk) rfl S.co S.gen rfl (PySem.W.codeRec_of kx hcd) (hb _ _ _ _ (wpAny_with_toks (n := n) hn ?_))
  refine wpAny_newFunctionEnv_cells S.kind kinds fun env he s1 x hn1 => ?_
  subst he
  refine ⟨nl.keeps x.toInCall.keep, codeAny_func ?_⟩
  obtain ⟨t, ht, hq⟩ := hbody A outer s G vs Q E (hr.deeper _) hsp
  refine wpAny_mono (ht [] s1 (start N vs) G _ hn1 (inv_start S hr.hd e0 hl r x) hq) (fun fl s' hs => ?_) fun e s' hs => hs
  cases fl with
  | next =>
    obtain ⟨τ', G', J, q⟩ := hs
    exact ⟨.non, G', J.os, J.bare, J.base, J.hok, rfl, q⟩
  | ret u =>
    obtain ⟨v, τ', G', J, rv, q⟩ := hs
    exact ⟨v, G', J.os, J.bare, J.base, J.hok, rv, q⟩
  | brk => exact hs.elim fun _ z => z.elim fun _ z => z.2.elim
  | cont => exact hs.elim fun _ z => z.elim fun _ z => z.2.elim
end
section
variable {n k : Nat} {X : Cx} {f : Addr} {fd : FuncData} {ps : List Str} {sp : Sp} {x : Str} {e : Expr} {es : List Expr} {t : TA} {pos p : Pos} {E : L2.St → XK}
theorem runT (F : FnT n X.prog X.w X.K X.mg X.base k f fd ps sp) (hr : Room k X.A) (hb : Binds X.K fd ps []) {pins : List (Addr × Obj)} {τ : L2.St} {G : Hp} {s : Shared} {Q : VK} {us : List Value} {vs : List V}
    (hx : PassesAt (L2.CX X.prog X.w) X τ (E τ)) (hn : n ≤ s.toks) (I : Inv X pins τ G s) (r : Vals vs us) (h : sp vs G Q (E τ)) : wpAny (model X.prog X.w) X.A (call (.ref f) us) (EP X pins τ Q) X.xe s := by
  have hl : us.length = ps.length := by rw [← r.length]; exact F.len _ _ _ _ h
  have hb' := hb s us I.kIn (by rw [List.append_nil]; exact hl)
  rw [List.append_nil] at hb'
  refine wpAny_call (codeAny_mono (F.run X.A X.stack s G ⟨us, []⟩ us vs Q (E τ) hn hr I.env0 hb' r h) fun rr s' hq => ?_)
  cases rr with
  | error z => exact hx pins G s z s' I hq
  | ok fl =>
    cases fl with
    | ret u => exact I.after hq
    | next => exact hq.elim
    | brk => exact hq.elim
    | cont => exact hq.elim
/-- f(e, ..) -/
def tCallT (sp : Sp) (E : L2.St → XK) (t : TA) : TE := fun τ G Q => t τ G fun vs G1 => sp vs G1 Q (E τ)
theorem qe_call (F : FnT n X.prog X.w X.K X.mg X.base k f fd ps sp) (hr : Room k X.A) (hg : Gl X x) (hm : X.mg x = some (.ref f)) (hk : PySem.W.keepIn X.K (.ref f) = true) (hb : Binds X.K fd ps []) (hx : ∀ τ, PassesAt (L2.CX X.prog X.w) X τ (E τ))
    (ha : QA n X (e :: es) t) (hdb : (x == ("__debug__" : Str)) = false) (he : starEach (e :: es) X.env = (false, eval e X.env) :: starEach es X.env) (hpl : (backTo pos (starEach es X.env)).any (·.1) = false) :
    QE n X (.Call (.Name x p) (e :: es) [] pos) (tCallT sp E t) := fun pins s τ G Q hn I h =>
  wpAny_Call_Name_kw (ld_glob I hg hm (PySem.W.callWith_K (h₀ := X.base) I.ok.mod.kin hk (thT hn (ha pos pins s τ G _ hn I h) fun us s1 hn1 ⟨vs, G1, I1, r, q⟩ => ⟨I1.kIn, runT F hr hb (hx τ) hn1 I1 r q⟩) he hpl) hdb)
end
end Itp
end
section
set_option Elab.async false
set_option linter.all false
set_option maxRecDepth 100000
set_option maxHeartbeats 4000000
set_option autoImplicit false
/-! Operations by values are as the small language says. -/
namespace Itp
open PySem PySem.Spec PyProof.Rows L2
open Evl (Ex)
/-! ### data as the library's data -/
mutual
def D.py : D → PyData
  | .non => .none
  | .bl b => .bool b
  | .int i => .int i
  | .str s => .str (txt s)
  | .tup xs => .tuple (D.pys xs)
  | .lst xs => .list (D.pys xs)
  | .ro xs => .list (D.pys xs)
def D.pys : List D → List PyData
  | [] => []
  | x :: xs => D.py x :: D.pys xs
end
theorem txt_inj {a b : List Nat} (h : txt a = txt b) : a = b := by
  have : a.toArray = b.toArray := congrArg Str.cps h
  simpa using this
theorem txt_beq (a b : List Nat) : (txt a == txt b) = (a == b) := by
  by_cases h : a = b
  · subst h; simp
  · rw [beq_eq_false_iff_ne.mpr h, beq_eq_false_iff_ne.mpr fun z => h (txt_inj z)]
theorem txt_len (s : List Nat) : (txt s).length = s.length := by show s.toArray.size = _; simp
theorem txt_cps (s : List Nat) : (txt s).cps.toList = s := by show s.toArray.toList = _; simp
mutual
theorem D.py_eqv : ∀ a b : D, PyData.eqv a.py b.py = a.eqv b
  | .non, b => by cases b <;> rfl
  | .bl x, b => by cases b <;> rfl
  | .int i, b => by cases b <;> rfl
  | .str s, .str t => txt_beq s t
  | .str s, .non => rfl
  | .str s, .bl _ => rfl
  | .str s, .int _ => rfl
  | .str s, .tup _ => rfl
  | .str s, .lst _ => rfl
  | .str s, .ro _ => rfl
  | .tup xs, .tup ys => D.pys_eqv xs ys
  | .tup xs, .non => rfl
  | .tup xs, .bl _ => rfl
  | .tup xs, .int _ => rfl
  | .tup xs, .str _ => rfl
  | .tup xs, .lst _ => rfl
  | .tup xs, .ro _ => rfl
  | .lst xs, .lst ys => D.pys_eqv xs ys
  | .lst xs, .ro ys => D.pys_eqv xs ys
  | .lst xs, .non => rfl
  | .lst xs, .bl _ => rfl
  | .lst xs, .int _ => rfl
  | .lst xs, .str _ => rfl
  | .lst xs, .tup _ => rfl
  | .ro xs, .lst ys => D.pys_eqv xs ys
  | .ro xs, .ro ys => D.pys_eqv xs ys
  | .ro xs, .non => rfl
  | .ro xs, .bl _ => rfl
  | .ro xs, .int _ => rfl
  | .ro xs, .str _ => rfl
  | .ro xs, .tup _ => rfl
theorem D.pys_eqv : ∀ xs ys : List D, PyData.eqvAll (D.pys xs) (D.pys ys) = D.eqvs xs ys
  | [], [] => rfl
  | [], _ :: _ => rfl
  | _ :: _, [] => rfl
  | x :: xs, y :: ys => by
    show (PyData.eqv x.py y.py && PyData.eqvAll (D.pys xs) (D.pys ys)) = (D.eqv x y && D.eqvs xs ys)
    rw [D.py_eqv x y, D.pys_eqv xs ys]
end
mutual
theorem D.py_dep : ∀ a : D, a.py.depth = a.dep
  | .non => rfl
  | .bl _ => rfl
  | .int _ => rfl
  | .str _ => rfl
  | .tup xs => by show PyData.depthAll (D.pys xs) + 1 = D.deps xs + 1; rw [D.pys_dep xs]
  | .lst xs => by show PyData.depthAll (D.pys xs) + 1 = D.deps xs + 1; rw [D.pys_dep xs]
  | .ro xs => by show PyData.depthAll (D.pys xs) + 1 = D.deps xs + 1; rw [D.pys_dep xs]
theorem D.pys_dep : ∀ xs : List D, PyData.depthAll (D.pys xs) = D.deps xs
  | [] => rfl
  | x :: xs => by show max x.py.depth (PyData.depthAll (D.pys xs)) = max x.dep (D.deps xs); rw [D.py_dep x, D.pys_dep xs]
end
theorem pys_any (x : D) : ∀ ys : List D, ((D.pys ys).any fun y => PyData.eqv y x.py) = ys.any fun y => y.eqv x
  | [] => rfl
  | y :: ys => by
    show (PyData.eqv y.py x.py || ((D.pys ys).any fun y => PyData.eqv y x.py)) = (y.eqv x || ys.any fun y => y.eqv x)
    rw [D.py_eqv, pys_any x ys]
section
variable {K : PySem.W.Frag} {G : Hp}
mutual
theorem Rp.dp : ∀ (d : D) (v : V), Rp K G v d → Dp K G v d.py
  | .non, _, h => by cases h; exact .non
  | .bl _, _, h => by cases h; exact .bl _
  | .int _, _, h => by cases h; exact .int _
  | .str _, _, h => by cases h; exact .str _
  | .tup ds, _, h => by cases h with | tup a b => exact .tup a (Rps.dps ds _ b)
  | .lst ds, _, h => by cases h with | lst a b => exact .lst (.inl (.inl a)) (Rps.dps ds _ b)
  | .ro ds, _, h => by cases h with | ro a b => exact .lst a (Rps.dps ds _ b)
theorem Rps.dps : ∀ (ds : List D) (vs : List V), Rps K G vs ds → DpAll K G vs (D.pys ds)
  | [], _, h => by cases h; exact .nil
  | d :: ds, _, h => by cases h with | cons a b => exact .cons (Rp.dp d _ a) (Rps.dps ds _ b)
end
mutual
theorem Rp.lay : ∀ (d : D) (v : V), Rp K G v d → d.py.canLay0 = true
  | .non, _, h => rfl
  | .bl _, _, h => rfl
  | .int _, _, h => rfl
  | .str s, _, h => by
    cases h with
    | str _ q =>
      show PySem.PyData.strOk (txt s) = true
      show (txt s).cps.all (fun c => decide (c < 0x110000)) = true
      rw [← Array.all_toList, txt_cps, List.all_eq_true]
      exact fun c hc => decide_eq_true (q.2 c hc)
  | .tup ds, _, h => by cases h with | tup a b => exact Rps.lay ds _ b
  | .lst ds, _, h => by cases h with | lst a b => exact Rps.lay ds _ b
  | .ro ds, _, h => by cases h with | ro a b => exact Rps.lay ds _ b
theorem Rps.lay : ∀ (ds : List D) (vs : List V), Rps K G vs ds → PyData.canLayAll0 (D.pys ds) = true
  | [], _, h => rfl
  | d :: ds, _, h => by
    cases h with
    | cons a b =>
      show (d.py.canLay0 && PyData.canLayAll0 (D.pys ds)) = true
      rw [Rp.lay d _ a, Rps.lay ds _ b]; rfl
end
end
section
variable {K : PySem.W.Frag} {X : Cx} {Hf H : Hp} {x : V} {Q : VK}
theorem RdV.int {i : Int} (h : RdV K Hf H x (.int i)) : x = .int i := by cases h; rfl
theorem RdV.bl {i : Bool} (h : RdV K Hf H x (.bl i)) : x = .bl i := by cases h; rfl
theorem RdV.non (h : RdV K Hf H x .non) : x = .non := by cases h; rfl
theorem RdV.str {s : List Nat} (h : RdV K Hf H x (.str s)) : x = .str (txt s) ∧ StrOk s := by cases h with | str _ q => exact ⟨rfl, q⟩
theorem RdV.tup {ds : List D} (e : Ex Hf H) (h : RdV K Hf H x (.tup ds)) : ∃ a vs, x = .ref a ∧ SqT K H a vs ∧ Rps K Hf vs ds := by cases h with | tup a b => exact ⟨_, _, rfl, Evl.ex_t e a, b⟩
theorem RdV.ro {ds : List D} (e : Ex Hf H) (h : RdV K Hf H x (.ro ds)) : ∃ a vs, x = .ref a ∧ SqL K H a vs ∧ Rps K Hf vs ds := by cases h with | ro a b => exact ⟨_, _, rfl, Evl.ex_l e a, b⟩
theorem line_lim : (sizeLine : Nat) = lim := by rw [sizeLine_eq]; rfl
theorem NEnd.int {i : Int} (h : NEnd K Hf H (.val (.int i)) Q) (s : Ex Hf H) : Q (.int i) H := h.same s (.int i)
theorem NEnd.bl {i : Bool} (h : NEnd K Hf H (.val (.bl i)) Q) (s : Ex Hf H) : Q (.bl i) H := h.same s (.bl i)
theorem NEnd.str {t : List Nat} (h : NEnd K Hf H (.val (.str t)) Q) (s : Ex Hf H) (q : StrOk t) : Q (.str (txt t)) H := h.same s (.str t q)
/-! ### + - * // % ** -/
theorem smallI_iff {i : Int} (h : smallI i = true) : -(2 ^ 64) < i ∧ i < 2 ^ 64 := by
  unfold smallI at h
  simpa using h
theorem StrOk.app {a b : List Nat} (ha : StrOk a) (hb : StrOk b) (h : a.length + b.length ≤ lim) : StrOk (a ++ b) :=
  ⟨by rw [List.length_append]; exact h, fun c hc => (List.mem_append.mp hc).elim (ha.2 c) (hb.2 c)⟩
theorem txt_app (a b : List Nat) : txt a ++ txt b = txt (a ++ b) := by
  show Str.mk _ = Str.mk _
  congr 1
  show a.toArray ++ b.toArray = (a ++ b).toArray
  simp
def opOf : BOp → Operator
  | .add => .Add | .sub => .Sub | .mul => .Mult | .fdiv => .FloorDiv | .mod => .Mod | .pow => .Pow
theorem bin_ok (o : BOp) : OpR X (binaryOp (opOf o)) (rD X.K (binD o)) := by
  intro pins s σ H x y v u Q I rx ry ⟨Hf, p, q, r, ex, hp, hq, e, q'⟩
  cases o with
  | add =>
    cases p with
    | int i =>
      cases q with
      | int j => cases e; exact op_add pins s σ H x y v u Q I rx ry ⟨i, j, hp.int, hq.int, q'.int ex⟩
      | _ => cases e
    | str a =>
      cases q with
      | str b =>
        change (if a.length + b.length ≤ lim then some _ else none) = some r at e
        split at e
        · rename_i hz
          cases e
          obtain ⟨rfl, oa⟩ := hp.str
          obtain ⟨rfl, ob⟩ := hq.str
          refine op_add_str pins s σ H _ _ v u Q I rx ry ⟨_, _, rfl, rfl, by rw [txt_len, txt_len, line_lim]; exact hz, ?_⟩
          rw [txt_app]
          exact q'.str ex (oa.app ob hz)
        · cases e
      | _ => cases e
    | tup a =>
      cases q with
      | tup b =>
        change (if a.isEmpty = true then none else if a.length + b.length ≤ lim then some _ else none) = some r at e
        split at e
        · cases e
        · rename_i h0
          split at e
          · rename_i hz
            cases e
            obtain ⟨x1, vs, rfl, h1, r1⟩ := hp.tup ex
            obtain ⟨x2, ws, rfl, h2, r2⟩ := hq.tup ex
            have l1 := r1.length
            have l2 := r2.length
            refine op_catA pins s σ H _ _ v u Q I rx ry ⟨x1, x2, vs, ws, rfl, rfl, h1, h2, by rw [l1, l2, line_lim]; exact hz, fun z => ?_, fun _ z => ?_, fun _ _ t nt => q'.newT ex nt (r1.append r2)⟩
            · subst z
              cases r1
              exact (h0 rfl).elim
            · subst z
              cases r2
              cases hp with
              | tup k1 k2 => exact q'.same ex (by rw [List.append_nil]; exact .tup k1 k2)
          · cases e
      | _ => cases e
    | lst a =>
      cases q with
      | lst b =>
        change (if a.length + b.length ≤ lim then some _ else none) = some r at e
        split at e
        · rename_i hz
          cases e
          obtain ⟨x1, vs, rfl, h1, r1⟩ := hp
          obtain ⟨x2, ws, rfl, h2, r2⟩ := hq
          refine op_cat pins s σ H _ _ v u Q I rx ry ⟨x1, x2, vs, ws, rfl, rfl, h1, h2, by rw [r1.length, r2.length, line_lim]; exact hz, fun t nt => q'.newL ex nt (r1.append r2)⟩
        · cases e
      | _ => cases e
    | _ => cases e
  | sub =>
    cases p with
    | int i =>
      cases q with
      | int j => cases e; exact op_sub pins s σ H x y v u Q I rx ry ⟨i, j, hp.int, hq.int, q'.int ex⟩
      | _ => cases e
    | _ => cases e
  | mul =>
    cases p with
    | int i =>
      cases q with
      | int j =>
        change (if (smallI i || smallI j) = true then some _ else none) = some r at e
        split at e
        · rename_i hz
          cases e
          refine op_mul pins s σ H x y v u Q I rx ry ⟨i, j, hp.int, hq.int, ?_, q'.int ex⟩
          rcases (Bool.or_eq_true _ _).mp hz with z | z
          · exact .inl (smallI_iff z)
          · exact .inr (smallI_iff z)
        · cases e
      | _ => cases e
    | _ => cases e
  | fdiv =>
    cases p with
    | int i =>
      cases q with
      | int j =>
        change (if j ≠ 0 ∧ j.natAbs < 1073741824 then some _ else none) = some r at e
        split at e
        · rename_i hz
          cases e
          exact op_fdivN pins s σ H x y v u Q I rx ry ⟨i, j, hp.int, hq.int, hz, q'.int ex⟩
        · cases e
      | _ => cases e
    | _ => cases e
  | mod =>
    cases p with
    | int i =>
      cases q with
      | int j =>
        change (if j ≠ 0 then some _ else none) = some r at e
        split at e
        · rename_i hz
          cases e
          exact op_modN pins s σ H x y v u Q I rx ry ⟨i, j, hp.int, hq.int, hz, q'.int ex⟩
        · cases e
      | _ => cases e
    | _ => cases e
  | pow =>
    cases p with
    | int i =>
      cases q with
      | int j =>
        change (if 0 ≤ j ∧ j ≤ 100 ∧ i.natAbs < 2 ^ 64 then some _ else none) = some r at e
        split at e
        · rename_i hz
          cases e
          exact op_pow pins s σ H x y v u Q I rx ry ⟨i, j, hp.int, hq.int, ⟨hz.1, Int.le_trans hz.2.1 (by decide), hz.2.2⟩, q'.int ex⟩
        · cases e
      | _ => cases e
    | _ => cases e
/-! ### comparisons -/
def opC : COp → CmpOp
  | .eq => .Eq | .ne => .NotEq | .lt => .Lt | .le => .LtE | .gt => .Gt | .ge => .GtE | .is => .Is | .isNot => .IsNot | .mem => .In | .notMem => .NotIn
theorem RdV.reads {pins : List (Addr × Obj)} {σ : L2.St} {s : Shared} {d : D} {u : Value} (I : Inv X pins σ H s) (ex : Ex Hf H) (h : RdV X.K Hf H x d) (r : RelV x u) : ∃ as, Reads s.heap u d.py as ∧ d.py.canLay0 = true :=
  let ⟨as, q⟩ := Dp.reads I d.py x u (Rp.dp d x (h.rp ex)) r
  ⟨as, q, Rp.lay d x (h.rp ex)⟩
theorem eq_ok (hu : X.A.units + 70 < cLine) : OpR X (compareOp .Eq) (rD X.K (cmpR .eq)) := by
  intro pins s σ H x y v u Q I rx ry ⟨Hf, p, q, r, ex, hp, hq, e, q'⟩
  obtain ⟨as, r1, l1⟩ := hp.reads I ex rx
  obtain ⟨bs, r2, l2⟩ := hq.reads I ex ry
  change ((if min p.dep q.dep ≤ 64 then some (p.eqv q) else none).map _) = some r at e
  split at e
  · rename_i hz
    cases e
    refine SeqAt.compareEq_reads r1 r2 l1 l2 (by rw [D.py_dep, D.py_dep]; omega) ?_
    rw [D.py_eqv]
    exact ⟨.bl _, H, I, rfl, q'.bl ex⟩
  · cases e
theorem ne_ok (hu : X.A.units + 70 < cLine) : OpR X (compareOp .NotEq) (rD X.K (cmpR .ne)) := by
  intro pins s σ H x y v u Q I rx ry ⟨Hf, p, q, r, ex, hp, hq, e, q'⟩
  obtain ⟨as, r1, l1⟩ := hp.reads I ex rx
  obtain ⟨bs, r2, l2⟩ := hq.reads I ex ry
  change (((if min p.dep q.dep ≤ 64 then some (p.eqv q) else none).map (!·)).map _) = some r at e
  split at e
  · rename_i hz
    cases e
    refine SeqAt.compareNe_reads r1 r2 l1 l2 (by rw [D.py_dep, D.py_dep]; omega) ?_
    rw [D.py_eqv]
    exact ⟨.bl _, H, I, rfl, q'.bl ex⟩
  · cases e
theorem mem_ok (hu : X.A.units + 70 < cLine) : OpR X (compareOp .In) (rD X.K (cmpR .mem)) := by
  intro pins s σ H x y v u Q I rx ry ⟨Hf, p, q, r, ex, hp, hq, e, q'⟩
  have e : (memQ p q).map (fun b => RV.val (.bl b)) = some r := by
    have e' := e
    unfold cmpR at e'
    cases p <;> cases q <;> exact e'
  cases q with
  | str b =>
    change ((sgn p).map fun c => decide (c ∈ b)).map (fun b => RV.val (.bl b)) = some r at e
    cases es : sgn p with
    | none => rw [es] at e; cases e
    | some c =>
      have ep : p = .str [c] := by
        unfold sgn at es
        split at es
        · cases es; rfl
        · cases es
      subst ep
      cases e
      obtain ⟨rfl, oa⟩ := hp.str
      obtain ⟨rfl, ob⟩ := hq.str
      refine op_in_sign pins s σ H _ _ v u Q I rx ry ⟨c, txt b, rfl, rfl, ?_⟩
      rw [txt_cps]
      exact q'.bl ex
  | tup ys =>
    change (memD p ys).map (fun b => RV.val (.bl b)) = some r at e
    obtain ⟨as, r1, l1⟩ := hp.reads I ex rx
    obtain ⟨bs, r2, l2⟩ := hq.reads I ex ry
    unfold memD at e
    split at e
    · rename_i hz
      cases e
      refine SeqAt.in_tuple_reads r2 r1 l2 l1 (by rw [D.pys_dep, D.py_dep]; omega) ?_
      rw [pys_any]
      exact ⟨.bl _, H, I, rfl, q'.bl ex⟩
    · cases e
  | lst ys =>
    change (memD p ys).map (fun b => RV.val (.bl b)) = some r at e
    obtain ⟨as, r1, l1⟩ := hp.reads I ex rx
    obtain ⟨bs, r2, l2⟩ := hq.reads I ex ry
    unfold memD at e
    split at e
    · rename_i hz
      cases e
      refine SeqAt.in_list_reads r2 r1 l2 l1 (by rw [D.pys_dep, D.py_dep]; omega) ?_
      rw [pys_any]
      exact ⟨.bl _, H, I, rfl, q'.bl ex⟩
    · cases e
  | _ => cases e
theorem notMem_ok (hu : X.A.units + 70 < cLine) : OpR X (compareOp .NotIn) (rD X.K (cmpR .notMem)) := by
  intro pins s σ H x y v u Q I rx ry ⟨Hf, p, q, r, ex, hp, hq, e, q'⟩
  have e : ((memQ p q).map (!·)).map (fun b => RV.val (.bl b)) = some r := by
    have e' := e
    unfold cmpR at e'
    cases p <;> cases q <;> exact e'
  cases q with
  | str b =>
    change (((sgn p).map fun c => decide (c ∈ b)).map (!·)).map (fun b => RV.val (.bl b)) = some r at e
    cases es : sgn p with
    | none => rw [es] at e; cases e
    | some c =>
      have ep : p = .str [c] := by
        unfold sgn at es
        split at es
        · cases es; rfl
        · cases es
      subst ep
      cases e
      obtain ⟨rfl, oa⟩ := hp.str
      obtain ⟨rfl, ob⟩ := hq.str
      refine op_notIn_sign pins s σ H _ _ v u Q I rx ry ⟨c, txt b, rfl, rfl, ?_⟩
      rw [txt_cps]
      exact q'.bl ex
  | tup ys =>
    change ((memD p ys).map (!·)).map (fun b => RV.val (.bl b)) = some r at e
    obtain ⟨as, r1, l1⟩ := hp.reads I ex rx
    obtain ⟨bs, r2, l2⟩ := hq.reads I ex ry
    unfold memD at e
    split at e
    · rename_i hz
      cases e
      refine SeqAt.notIn_tuple_reads r2 r1 l2 l1 (by rw [D.pys_dep, D.py_dep]; omega) ?_
      rw [pys_any]
      exact ⟨.bl _, H, I, rfl, q'.bl ex⟩
    · cases e
  | lst ys =>
    change ((memD p ys).map (!·)).map (fun b => RV.val (.bl b)) = some r at e
    obtain ⟨as, r1, l1⟩ := hp.reads I ex rx
    obtain ⟨bs, r2, l2⟩ := hq.reads I ex ry
    unfold memD at e
    split at e
    · rename_i hz
      cases e
      refine SeqAt.notIn_list_reads r2 r1 l2 l1 (by rw [D.pys_dep, D.py_dep]; omega) ?_
      rw [pys_any]
      exact ⟨.bl _, H, I, rfl, q'.bl ex⟩
    · cases e
  | _ => cases e
mutual
theorem D.py_alk : ∀ a b : D, a.alk b = true → PySem.W.alike a.py b.py = true
  | .bl _, .bl _, _ => rfl
  | .int _, .int _, _ => rfl
  | .str _, .str _, _ => rfl
  | .tup xs, .tup ys, h => D.pys_alk xs ys h
theorem D.pys_alk : ∀ xs ys : List D, D.alks xs ys = true → PySem.W.alikeAll (D.pys xs) (D.pys ys) = true
  | x :: xs, y :: ys, h => by
    have h' : (D.alk x y && D.alks xs ys) = true := h
    rw [Bool.and_eq_true] at h'
    show (PySem.W.alike x.py y.py && PySem.W.alikeAll (D.pys xs) (D.pys ys)) = true
    rw [D.py_alk x y h'.1, D.pys_alk xs ys h'.2]
    rfl
  | [], _, _ => by unfold D.pys; unfold PySem.W.alikeAll; rfl
  | _ :: _, [], _ => rfl
end
mutual
theorem D.py_lt : ∀ a b : D, a.alk b = true → PySem.W.dataLt a.py b.py = a.ltq b
  | .bl a, .bl b, _ => by
    show PySem.W.dataLt (.bool a) (.bool b) = _
    rw [PySem.W.dataLt_bool]
    cases a <;> cases b <;> rfl
  | .int i, .int j, _ => PySem.W.dataLt_int i j
  | .str a, .str b, _ => by
    show PySem.W.dataLt (.str (txt a)) (.str (txt b)) = decide (a < b)
    rw [PySem.W.dataLt_str, txt_cps, txt_cps]
  | .tup xs, .tup ys, h => by
    show PySem.W.dataLt (.tuple (D.pys xs)) (.tuple (D.pys ys)) = D.ltqs xs ys
    rw [PySem.W.dataLt_tuple]
    exact D.pys_lt xs ys h
theorem D.pys_lt : ∀ xs ys : List D, D.alks xs ys = true → PyProof.Rows.lexLt PyProof.Rows.itemOrd (PySem.W.keyToksAll (D.pys xs)) (PySem.W.keyToksAll (D.pys ys)) = D.ltqs xs ys
  | x :: xs, y :: ys, h => by
    have h' : (D.alk x y && D.alks xs ys) = true := h
    rw [Bool.and_eq_true] at h'
    have a1 := D.py_alk x y h'.1
    show PyProof.Rows.lexLt PyProof.Rows.itemOrd (PySem.W.keyToksAll (x.py :: D.pys xs)) (PySem.W.keyToksAll (y.py :: D.pys ys)) = if D.eqv x y = true then D.ltqs xs ys else D.ltq x y
    by_cases e : D.eqv x y = true
    · rw [if_pos e, PySem.W.dataLt_all_yes a1 (by rw [D.py_eqv]; exact e)]
      exact D.pys_lt xs ys h'.2
    · rw [if_neg e, PySem.W.dataLt_all_no a1 (by rw [D.py_eqv]; simpa using e)]
      exact D.py_lt x y h'.1
  | [], [], _ => by rfl
  | [], _ :: _, _ => by rfl
  | _ :: _, [], _ => by rfl
end
theorem isNon {d : D} (h : RdV X.K Hf H x d) : decide (x = V.non) = (match d with | .non => true | _ => false) := by
  cases d with
  | lst ds => obtain ⟨a, vs, rfl, _⟩ := h; rfl
  | _ => cases h; rfl
theorem cmp_ok (hu : X.A.units + 70 < cLine) (o : COp) : OpR X (compareOp (opC o)) (rD X.K (cmpR o)) := by
  cases o with
  | eq => exact eq_ok hu
  | ne => exact ne_ok hu
  | mem => exact mem_ok hu
  | notMem => exact notMem_ok hu
  | lt =>
    intro pins s σ H x y v u Q I rx ry ⟨Hf, p, q, r, ex, hp, hq, e, q'⟩
    cases p with
    | int i =>
      cases q with
      | int j => cases e; exact op_lt pins s σ H x y v u Q I rx ry ⟨i, j, hp.int, hq.int, q'.bl ex⟩
      | _ => cases e
    | str a =>
      cases q with
      | str b =>
        cases e
        obtain ⟨rfl, _⟩ := hp.str
        obtain ⟨rfl, _⟩ := hq.str
        refine op_lt_str pins s σ H _ _ v u Q I rx ry ⟨_, _, rfl, rfl, ?_⟩
        rw [txt_cps, txt_cps]
        exact q'.bl ex
      | _ => cases e
    | tup a =>
      cases q with
      | tup b =>
        have e : (if D.alks a b = true ∧ min (D.deps a) (D.deps b) ≤ 64 then some (D.ltqs a b) else none).map (fun b => RV.val (.bl b)) = some r := e
        split at e
        · rename_i hz
          cases e
          obtain ⟨as, r1, l1⟩ := hp.reads I ex rx
          obtain ⟨bs, r2, l2⟩ := hq.reads I ex ry
          refine PySem.W.lt_data r1 r2 (D.py_alk (.tup a) (.tup b) hz.1) (fun z => nomatch z) ?_ ?_
          · rw [D.py_dep, D.py_dep]
            have h1 : D.dep (.tup a) = D.deps a + 1 := rfl
            have h2 : D.dep (.tup b) = D.deps b + 1 := rfl
            rw [h1, h2]
            have := hz.2
            omega
          · rw [D.py_lt (.tup a) (.tup b) hz.1]
            exact ⟨.bl _, H, I, rfl, q'.bl ex⟩
        · cases e
      | _ => cases e
    | _ => cases q <;> cases e
  | le =>
    intro pins s σ H x y v u Q I rx ry ⟨Hf, p, q, r, ex, hp, hq, e, q'⟩
    cases p with
    | int i =>
      cases q with
      | int j => cases e; exact op_le pins s σ H x y v u Q I rx ry ⟨i, j, hp.int, hq.int, q'.bl ex⟩
      | _ => cases e
    | _ => cases q <;> cases e
  | gt =>
    intro pins s σ H x y v u Q I rx ry ⟨Hf, p, q, r, ex, hp, hq, e, q'⟩
    cases p with
    | int i =>
      cases q with
      | int j => cases e; exact op_gt pins s σ H x y v u Q I rx ry ⟨i, j, hp.int, hq.int, q'.bl ex⟩
      | _ => cases e
    | _ => cases q <;> cases e
  | ge =>
    intro pins s σ H x y v u Q I rx ry ⟨Hf, p, q, r, ex, hp, hq, e, q'⟩
    cases p with
    | int i =>
      cases q with
      | int j => cases e; exact op_ge pins s σ H x y v u Q I rx ry ⟨i, j, hp.int, hq.int, q'.bl ex⟩
      | _ => cases e
    | _ => cases q <;> cases e
  | is =>
    intro pins s σ H x y v u Q I rx ry ⟨Hf, p, q, r, ex, hp, hq, e, q'⟩
    cases q with
    | non =>
      refine op_isN pins s σ H x y v u Q I rx ry ⟨hq.non, ?_⟩
      rw [isNon hp]
      cases p <;> cases e <;> exact q'.bl ex
    | _ => cases p <;> cases e
  | isNot =>
    intro pins s σ H x y v u Q I rx ry ⟨Hf, p, q, r, ex, hp, hq, e, q'⟩
    cases q with
    | non =>
      refine op_notN pins s σ H x y v u Q I rx ry ⟨hq.non, ?_⟩
      rw [isNon hp]
      cases p <;> cases e <;> exact q'.bl ex
    | _ => cases p <;> cases e
/-! ### subscripts, slices -/
theorem StrOk.one {s : List Nat} {c : Nat} (h : StrOk s) (hc : c ∈ s) : StrOk [c] := ⟨(by decide : 1 ≤ lim), fun d hd => by
  rw [List.mem_singleton] at hd
  subst hd
  exact h.2 d hc⟩
theorem atD_at {α : Type} (xs : List α) (i : Int) : atD xs i = atI xs i := rfl
theorem atD_mem {α : Type} {xs : List α} {i : Int} {v : α} (h : atD xs i = some v) : ∃ j : Nat, xs[j]? = some v ∧ natOf i xs.length = some j := by
  unfold atD at h
  cases e : natOf i xs.length with
  | none => rw [e] at h; cases h
  | some j => rw [e] at h; exact ⟨j, h, rfl⟩
theorem atI_of {K : PySem.W.Frag} {G : Hp} {vs : List V} {ds : List D} {i : Int} {d : D} (r : Rps K G vs ds) (h : atD ds i = some d) : ∃ v, atI vs i = some v ∧ Rp K G v d := by
  obtain ⟨j, e1, e2⟩ := atD_mem h
  obtain ⟨v, e3, q⟩ := r.get e1
  refine ⟨v, ?_, q⟩
  show (natOf i vs.length).bind (fun j => vs[j]?) = some v
  rw [r.length, e2]
  exact e3
theorem ix_ok : IxR X (rD X.K fun p q => (ixD p q).map .val) := by
  intro value slice pins s σ H x y v u Q I rx ry ⟨Hf, p, q, r, ex, hp, hq, e, q'⟩ hs
  cases q with
  | int i =>
    cases p with
    | tup xs =>
      change (atD xs i).map RV.val = some r at e
      cases e1 : atD xs i with
      | none => rw [e1] at e; cases e
      | some d =>
        rw [e1] at e; cases e
        obtain ⟨a, vs, rfl, h1, r1⟩ := hp.tup ex
        obtain ⟨z, e2, r2⟩ := atI_of r1 e1
        exact ix_tup value slice pins s σ H _ y v u Q I rx ry ⟨a, vs, i, z, rfl, hq.int, h1, e2, q'.same ex r2⟩ hs
    | lst xs =>
      change (atD xs i).map RV.val = some r at e
      cases e1 : atD xs i with
      | none => rw [e1] at e; cases e
      | some d =>
        rw [e1] at e; cases e
        obtain ⟨a, vs, rfl, h1, r1⟩ := hp
        obtain ⟨z, e2, r2⟩ := atI_of r1 e1
        exact ix_list value slice pins s σ H _ y v u Q I rx ry ⟨a, vs, i, z, rfl, hq.int, .inl (.inl h1), e2, q'.same ex r2⟩ hs
    | ro xs =>
      change (atD xs i).map RV.val = some r at e
      cases e1 : atD xs i with
      | none => rw [e1] at e; cases e
      | some d =>
        rw [e1] at e; cases e
        obtain ⟨a, vs, rfl, h1, r1⟩ := hp.ro ex
        obtain ⟨z, e2, r2⟩ := atI_of r1 e1
        exact ix_list value slice pins s σ H _ y v u Q I rx ry ⟨a, vs, i, z, rfl, hq.int, h1, e2, q'.same ex r2⟩ hs
    | str t =>
      change ((atD t i).map fun c => D.str [c]).map RV.val = some r at e
      cases e1 : atD t i with
      | none => rw [e1] at e; cases e
      | some c =>
        rw [e1] at e; cases e
        obtain ⟨rfl, ot⟩ := hp.str
        obtain ⟨j, e2, _⟩ := atD_mem e1
        exact ix_str value slice pins s σ H _ y v u Q I rx ry ⟨txt t, i, c, rfl, hq.int, by rw [txt_len, line_lim]; exact ot.1, by rw [txt_cps]; exact e1, q'.str ex (ot.one (List.mem_of_getElem? e2))⟩ hs
    | _ => cases e
  | _ => cases p <;> cases e
def rSlD (K : PySem.W.Frag) : V → Option Int → Option Int → Hp → VK → Prop := fun x lo hi H Q => ∃ Hf p r, Ex Hf H ∧ RdV K Hf H x p ∧ slD p lo hi = some r ∧ NEnd K Hf H r Q
theorem Rps.cut {K : PySem.W.Frag} {G : Hp} {vs : List V} {ds : List D} (r : Rps K G vs ds) (lo hi : Option Int) : Rps K G (cutV vs lo hi) (Itp.cut ds lo hi) := by
  show Rps K G ((vs.drop (sIx vs.length 0 lo)).take (sIx vs.length vs.length hi - sIx vs.length 0 lo)) ((ds.drop (sIx ds.length 0 lo)).take (sIx ds.length ds.length hi - sIx ds.length 0 lo))
  rw [r.length]
  exact (r.drop _).take _
theorem StrOk.sub {a b : List Nat} (h : StrOk b) (hs : a.Sublist b) : StrOk a := ⟨Nat.le_trans hs.length_le h.1, fun c hc => h.2 c (hs.subset hc)⟩
theorem cut_sub {α : Type} (xs : List α) (lo hi : Option Int) : (Itp.cut xs lo hi).Sublist xs := (List.take_sublist _ _).trans (List.drop_sublist _ _)
theorem sl_ok : SlR X (rSlD X.K) := by
  intro pins s σ H x v vl vu lo hi sl Q I rx hs pl pu ⟨Hf, p, r, ex, hp, e, q'⟩
  cases p with
  | str t =>
    cases e
    obtain ⟨rfl, ot⟩ := hp.str
    refine sl_str pins s σ H _ v vl vu lo hi sl Q I rx hs pl pu ⟨txt t, rfl, by rw [txt_len, line_lim]; exact ot.1, ?_⟩
    have : cutS (txt t) lo hi = txt (Itp.cut t lo hi) := by
      show Str.mk _ = Str.mk _
      rw [txt_cps, txt_len]
      rfl
    rw [this]
    exact q'.str ex (ot.sub (cut_sub t lo hi))
  | tup xs =>
    change (if (Itp.cut xs lo hi).length = xs.length then none else some _) = some r at e
    split at e
    · cases e
    · rename_i hz
      cases e
      obtain ⟨a, vs, rfl, h1, r1⟩ := hp.tup ex
      refine sl_tupA pins s σ H _ v vl vu lo hi sl Q I rx hs pl pu ⟨a, vs, rfl, h1, fun z => ?_, fun _ t nt => q'.newT ex nt (r1.cut lo hi)⟩
      exfalso
      refine hz ?_
      have l1 := r1.length
      rw [l1] at z
      have z1 : sIx xs.length 0 lo = 0 := z.1
      have z2 : sIx xs.length xs.length hi = xs.length := z.2
      unfold Itp.cut
      rw [z1, z2, List.drop_zero, Nat.sub_zero, List.take_length]
  | lst xs =>
    cases e
    obtain ⟨a, vs, rfl, h1, r1⟩ := hp
    exact sl_list pins s σ H _ v vl vu lo hi sl Q I rx hs pl pu ⟨a, vs, rfl, .inl (.inl h1), fun t nt => q'.newL ex nt (r1.cut lo hi)⟩
  | _ => cases e
end
end Itp
end
section
set_option Elab.async false
set_option linter.all false
set_option maxRecDepth 100000
set_option maxHeartbeats 4000000
set_option autoImplicit false
/-! Built-in functions and methods by values. -/
namespace Itp
open PySem PySem.Spec PyProof.Rows L2
open Evl (Ex)
section
variable {K : PySem.W.Frag} {X : Cx} {Hf H : Hp} {x : V} {Q : VK}
theorem RdVs.one {vs : List V} {d : D} (h : RdVs K Hf H vs [d]) : ∃ v, vs = [v] ∧ RdV K Hf H v d := by
  cases h with
  | cons a t => cases t; exact ⟨_, rfl, a⟩
theorem RdVs.two {vs : List V} {d e : D} (h : RdVs K Hf H vs [d, e]) : ∃ v w, vs = [v, w] ∧ RdV K Hf H v d ∧ RdV K Hf H w e := by
  cases h with
  | cons a t => cases t with | cons b t => cases t; exact ⟨_, _, rfl, a, b⟩
/-- bools -/
theorem Rps.bls : ∀ {ds : List D} {vs : List V} {b : Bool}, Rps K Hf vs ds → allBl ds = some b → ∃ bs : List Bool, vs = bs.map V.bl ∧ bs.all id = b
  | [], _, b, r, e => by
    cases r; cases e; exact ⟨[], rfl, rfl⟩
  | d :: ds, _, b, r, e => by
    cases r with
    | cons a t =>
      cases d with
      | bl c =>
        change (allBl ds).map (c && ·) = some b at e
        cases e1 : allBl ds with
        | none => rw [e1] at e; cases e
        | some b' =>
          rw [e1] at e; cases e
          obtain ⟨bs, e2, e3⟩ := Rps.bls t e1
          cases a
          exact ⟨c :: bs, by rw [e2]; rfl, by rw [List.all_cons, e3]; rfl⟩
      | _ => cases e
theorem Rps.bls' : ∀ {ds : List D} {vs : List V} {b : Bool}, Rps K Hf vs ds → anyBl ds = some b → ∃ bs : List Bool, vs = bs.map V.bl ∧ bs.any id = b
  | [], _, b, r, e => by
    cases r; cases e; exact ⟨[], rfl, rfl⟩
  | d :: ds, _, b, r, e => by
    cases r with
    | cons a t =>
      cases d with
      | bl c =>
        change (anyBl ds).map (c || ·) = some b at e
        cases e1 : anyBl ds with
        | none => rw [e1] at e; cases e
        | some b' =>
          rw [e1] at e; cases e
          obtain ⟨bs, e2, e3⟩ := Rps.bls' t e1
          cases a
          exact ⟨c :: bs, by rw [e2]; rfl, by rw [List.any_cons, e3]; rfl⟩
      | _ => cases e
theorem Rps.ints : ∀ {ds : List D} {vs : List V} {b : Int}, Rps K Hf vs ds → sumI ds = some b → ∃ bs : List Int, vs = bs.map V.int ∧ bs.sum = b
  | [], _, b, r, e => by
    cases r; cases e; exact ⟨[], rfl, rfl⟩
  | d :: ds, _, b, r, e => by
    cases r with
    | cons a t =>
      cases d with
      | int c =>
        change (sumI ds).map (c + ·) = some b at e
        cases e1 : sumI ds with
        | none => rw [e1] at e; cases e
        | some b' =>
          rw [e1] at e; cases e
          obtain ⟨bs, e2, e3⟩ := Rps.ints t e1
          cases a
          exact ⟨c :: bs, by rw [e2]; rfl, by rw [List.sum_cons, e3]⟩
      | _ => cases e
theorem Rps.txts : ∀ {ds : List D} {vs : List V} {ss : List (List Nat)}, Rps K Hf vs ds → strsOf ds = some ss → vs = (ss.map txt).map V.str ∧ ∀ s ∈ ss, StrOk s
  | [], _, b, r, e => by
    cases r; cases e; exact ⟨rfl, fun _ h => nomatch h⟩
  | d :: ds, _, b, r, e => by
    cases r with
    | cons a t =>
      cases d with
      | str c =>
        change (strsOf ds).map (c :: ·) = some b at e
        cases e1 : strsOf ds with
        | none => rw [e1] at e; cases e
        | some b' =>
          rw [e1] at e; cases e
          obtain ⟨e2, e3⟩ := Rps.txts t e1
          cases a with
          | str _ q =>
            refine ⟨by rw [e2]; rfl, fun s hs => ?_⟩
            rcases List.mem_cons.mp hs with z | z
            · subst z; exact q
            · exact e3 s z
      | _ => cases e
theorem SqL_of {a : Addr} {vs : List V} (h : H a = some (.lst vs)) : SqL K H a vs := .inl (.inl h)
/-- the signs of a text, as texts -/
theorem signs_vals {z : List Nat} {acc : Array Value} (h : ItemsOf (SignAt (txt z)) acc (txt z).cps.size) : Vals (z.map fun c => V.str (txt [c])) acc.toList := by
  have hl : (z.map fun c => V.str (txt [c])).length = acc.toList.length := by
    have h1 : acc.size = z.length := by
      rw [show acc.size = (txt z).cps.size from h.1]
      show z.toArray.size = _
      simp
    have h2 : acc.toList.length = acc.size := by simp
    rw [List.length_map, h2, h1]
  refine vals_of_at hl fun j v u e1 e2 => ?_
  obtain ⟨c, t, e3, e4⟩ := h.2 j u (by rw [← Array.getElem?_toList]; exact e2)
  subst e4
  rw [List.getElem?_map] at e1
  have e5 : z[j]? = some c := by
    have : (txt z).cps.toList[j]? = some c := by rw [Array.getElem?_toList]; exact e3
    rw [txt_cps] at this
    exact this
  rw [e5] at e1
  cases e1
  exact ⟨t, rfl⟩
theorem Rps.signs {z : List Nat} (h : StrOk z) : Rps K Hf (z.map fun c => V.str (txt [c])) (z.map fun c => D.str [c]) := by
  have : ∀ y : List Nat, (∀ c ∈ y, c ∈ z) → Rps K Hf (y.map fun c => V.str (txt [c])) (y.map fun c => D.str [c]) := by
    intro y
    induction y with
    | nil => exact fun _ => .nil
    | cons c y ih => exact fun hy => .cons (.str [c] (h.one (hy c (by simp)))) (ih fun d hd => hy d (by simp [hd]))
  exact this z fun _ h => h
def biF : Bi → Value
  | .len => .builtin "len" | .list => .type "list" | .tuple => .type "tuple" | .all => .builtin "all" | .any => .builtin "any" | .sum => .builtin "sum" | .max => .builtin "max" | .min => .builtin "min" | .int => .type "int"
def biN : Bi → Str
  | .len => "len" | .list => "list" | .tuple => "tuple" | .all => "all" | .any => "any" | .sum => "sum" | .max => "max" | .min => "min" | .int => "int"
theorem lst_of {d : D} {xs : List D} (h : lstD d = some xs) : d = .lst xs := by
  cases d <;> first | (cases h; rfl) | cases h
theorem str_of {d : D} {xs : List Nat} (h : strOf d = some xs) : d = .str xs := by
  cases d <;> first | (cases h; rfl) | cases h
theorem sgn_of {d : D} {c : Nat} (h : sgn d = some c) : d = .str [c] := by
  unfold sgn at h
  split at h
  · cases h; rfl
  · cases h
theorem bi1_of {f : Bi} {ps : List D} {r : RV} (h : biD f ps = some r) : (∃ d, ps = [d] ∧ bi1 f d = some r) ∨ ∃ d e, ps = [d, e] ∧ bi2 f d e = some r := by
  match ps, h with
  | [d], h => exact .inl ⟨d, rfl, h⟩
  | [d, e], h => exact .inr ⟨d, e, rfl, h⟩
theorem map_of {α β : Type} {o : Option α} {g : α → β} {r : β} (h : o.map g = some r) : ∃ a, o = some a ∧ g a = r := by
  cases o with
  | none => cases h
  | some a => exact ⟨a, rfl, Option.some.inj h⟩
theorem bind_of {α β : Type} {o : Option α} {g : α → Option β} {r : β} (h : o.bind g = some r) : ∃ a, o = some a ∧ g a = some r := by
  cases o with
  | none => cases h
  | some a => exact ⟨a, rfl, h⟩
theorem RdV.len {d : D} {n : Nat} (ex : Ex Hf H) (h : RdV K Hf H x d) (e : lenD d = some n) : LenV K x H n := by
  cases d with
  | str t => cases e; obtain ⟨rfl, o⟩ := h.str; exact ⟨by rw [txt_len, line_lim]; exact o.1, (txt_len t).symm⟩
  | tup t => cases e; obtain ⟨a, vs, rfl, h1, r1⟩ := h.tup ex; exact .inr ⟨vs, h1, r1.length.symm⟩
  | lst t => cases e; obtain ⟨a, vs, rfl, h1, r1⟩ := h; exact .inl ⟨vs, SqL_of h1, r1.length.symm⟩
  | ro t => cases e; obtain ⟨a, vs, rfl, h1, r1⟩ := h.ro ex; exact .inl ⟨vs, h1, r1.length.symm⟩
  | _ => cases e
theorem bi_ok (hc : X.calm = true) (f : Bi) : CallR X (biF f) (rDs X.K (biD f)) := by
  intro pins s σ H xs us Q I rx ⟨Hf, ps, r, ex, hp, e, q'⟩
  rcases bi1_of e with ⟨d, rfl, ee⟩ | ⟨d, d', rfl, ee⟩
  · obtain ⟨v, rfl, h⟩ := hp.one
    cases f with
    | len =>
      unfold bi1 at ee
      obtain ⟨n, e1, e2⟩ := map_of ee
      subst e2
      exact call_len pins s σ H _ us Q I rx ⟨_, n, rfl, h.len ex e1, q'.int ex⟩
    | list =>
      obtain ⟨ys, e1, e2⟩ := map_of (show (listD d).map _ = some r from ee)
      subst e2
      cases d with
      | str t =>
        cases e1
        obtain ⟨rfl, o⟩ := h.str
        obtain ⟨u, rfl, tk, rfl⟩ := vals1 rx
        refine PySem.call_list_str (I.ok.hd hc) (txt t) tk (fun h' tk' acc c' hk hS hacc => ?_) (by rw [line_lim]; show t.toArray.size ≤ lim; rw [List.size_toArray]; exact o.1)
        refine ⟨.ref s.heap.objs.size, _, I.laid hk (Nat.le_refl _) (o := .lst (t.map fun c => V.str (txt [c]))) ⟨?_, acc.toList, c', signs_vals hacc, ?_⟩, rfl, q'.newL ex (I.hok.fresh (Nat.le_refl _)) (Rps.signs o)⟩
        · rw [List.length_map, line_lim]; exact o.1
        · rw [Array.toArray_toList]; exact hS
      | tup t =>
        cases e1
        obtain ⟨a, vs, rfl, h1, r1⟩ := h.tup ex
        exact call_list_of pins s σ H _ us Q I rx ⟨_, vs, rfl, .inr h1, fun l nl => q'.newL ex nl r1⟩
      | lst t =>
        cases e1
        obtain ⟨a, vs, rfl, h1, r1⟩ := h
        exact call_list_of pins s σ H _ us Q I rx ⟨_, vs, rfl, .inl (SqL_of h1), fun l nl => q'.newL ex nl r1⟩
      | _ => cases e1
    | tuple =>
      obtain ⟨ys, e1, e2⟩ := map_of (show (seqD d).map _ = some r from ee)
      subst e2
      cases d with
      | tup t =>
        cases e1
        cases h with
        | tup k1 k2 => exact call_tuple_of pins s σ H _ us Q I rx ⟨_, _, rfl, .inr ⟨Evl.ex_t ex k1, q'.same ex (.tup k1 k2)⟩⟩
      | lst t =>
        cases e1
        obtain ⟨a, vs, rfl, h1, r1⟩ := h
        exact call_tuple_of pins s σ H _ us Q I rx ⟨_, vs, rfl, .inl ⟨SqL_of h1, fun l nl => q'.newT ex nl r1⟩⟩
      | _ => cases e1
    | all =>
      obtain ⟨b, e1, e2⟩ := map_of (show ((lstD d).bind allBl).map _ = some r from ee)
      subst e2
      obtain ⟨t, e3, e4⟩ := bind_of e1
      cases lst_of e3
      obtain ⟨a, vs, rfl, h1, r1⟩ := h
      obtain ⟨bs, rfl, rfl⟩ := r1.bls e4
      exact cr_all hc pins s σ H _ us Q I rx ⟨a, bs, rfl, SqL_of h1, q'.bl ex⟩
    | any =>
      obtain ⟨b, e1, e2⟩ := map_of (show ((lstD d).bind anyBl).map _ = some r from ee)
      subst e2
      obtain ⟨t, e3, e4⟩ := bind_of e1
      cases lst_of e3
      obtain ⟨a, vs, rfl, h1, r1⟩ := h
      obtain ⟨bs, rfl, rfl⟩ := r1.bls' e4
      exact cr_any hc pins s σ H _ us Q I rx ⟨a, bs, rfl, SqL_of h1, q'.bl ex⟩
    | sum =>
      obtain ⟨b, e1, e2⟩ := map_of (show ((lstD d).bind sumI).map _ = some r from ee)
      subst e2
      obtain ⟨t, e3, e4⟩ := bind_of e1
      cases lst_of e3
      obtain ⟨a, vs, rfl, h1, r1⟩ := h
      obtain ⟨bs, rfl, rfl⟩ := r1.ints e4
      exact cr_sum hc pins s σ H _ us Q I rx ⟨a, bs, rfl, SqL_of h1, q'.int ex⟩
    | max => cases ee
    | min => cases ee
    | int =>
      obtain ⟨i, e1, e2⟩ := map_of (show (intD d).map _ = some r from ee)
      subst e2
      cases d with
      | int j => cases e1; cases h.int; exact call_int1 pins s σ H _ us Q I rx (.inl ⟨_, rfl, q'.int ex⟩)
      | bl b => cases e1; cases h.bl; exact call_int1 pins s σ H _ us Q I rx (.inr ⟨b, rfl, q'.int ex⟩)
      | _ => cases e1
  · obtain ⟨v, w, rfl, h1, h2⟩ := hp.two
    cases f with
    | max =>
      change max2D d d' = some r at ee
      cases d with
      | int i =>
        cases d' with
        | int j =>
          cases ee
          cases h1.int
          cases h2.int
          exact call_max2 hc pins s σ H _ us Q I rx ⟨i, j, rfl, q'.int ex⟩
        | _ => cases ee
      | _ => cases d' <;> cases ee
    | min =>
      change min2D d d' = some r at ee
      cases d with
      | int i =>
        cases d' with
        | int j =>
          cases ee
          cases h1.int
          cases h2.int
          exact call_min2 hc pins s σ H _ us Q I rx ⟨i, j, rfl, q'.int ex⟩
        | _ => cases ee
      | _ => cases d' <;> cases ee
    | _ => cases ee
/-! ### truth -/
theorem RdV.tru {d : D} (ex : Ex Hf H) (h : RdV K Hf H x d) : TruV K x H d.tru := by
  cases d with
  | non => cases h.non; rfl
  | bl b => cases h.bl; rfl
  | int i => cases h.int; rfl
  | str s =>
    obtain ⟨rfl, o⟩ := h.str
    refine ⟨by rw [txt_len, line_lim]; exact o.1, ?_⟩
    rw [txt_len]
    cases s with
    | nil => rfl
    | cons a r =>
      show true = (((a :: r).length : Int) != 0)
      rw [List.length_cons, eq_comm, bne_iff_ne]
      omega
  | tup ds =>
    obtain ⟨a, vs, rfl, h1, r1⟩ := h.tup ex
    refine .inr (.inl ⟨vs, h1, ?_⟩)
    cases r1 <;> rfl
  | lst ds =>
    obtain ⟨a, vs, rfl, h1, r1⟩ := h
    refine .inl ⟨vs, SqL_of h1, ?_⟩
    cases r1 <;> rfl
  | ro ds =>
    obtain ⟨a, vs, rfl, h1, r1⟩ := h.ro ex
    refine .inl ⟨vs, h1, ?_⟩
    cases r1 <;> rfl
/-! ### isinstance -/
def tyN : Ty → String
  | .int => "int" | .str => "str" | .tuple => "tuple" | .list => "list" | .bool => "bool"
def dTy : D → String
  | .non => "NoneType" | .bl _ => "bool" | .int _ => "int" | .str _ => "str" | .tup _ => "tuple" | .lst _ => "list" | .ro _ => "list"
theorem RdV.tyx {d : D} (ex : Ex Hf H) (h : RdV K Hf H x d) : TyX K H x (.type (dTy d)) := by
  cases d with
  | non => cases h.non; exact .base .non
  | bl b => cases h.bl; exact .base (.bl b)
  | int i => cases h.int; exact .base (.int i)
  | str s => obtain ⟨rfl, o⟩ := h.str; exact .base (.str _)
  | tup ds =>
    obtain ⟨a, vs, rfl, h1, r1⟩ := h.tup ex
    rcases h1 with (h1 | ⟨o, h1⟩) | ⟨o, _, _, h1, h2, _⟩
    · exact .base (.tup h1)
    · exact .fTuple h1
    · exact .kTuple h1 h2
  | lst ds => obtain ⟨a, vs, rfl, h1, r1⟩ := h; exact .base (.lst h1)
  | ro ds =>
    obtain ⟨a, vs, rfl, h1, r1⟩ := h.ro ex
    rcases h1 with (h1 | ⟨o, h1⟩) | ⟨o, _, _, h1, h2, _⟩
    · exact .base (.lst h1)
    · exact .base (.frz h1)
    · exact .kList h1 h2
theorem kit_tyD (t : Ty) (d : D) : kitB (dTy d) (tyN t) = some (tyD t d) := by
  cases t <;> cases d <;> first | rfl | decide +kernel
theorem kit_all (t : Ty) (d : D) : PySem.W.kitOne K (.type (dTy d)) (.type (tyN t)) = some (tyD t d) := kit_ty (kit_tyD t d)
/-! ### methods -/
theorem joinS_join (sep : List Nat) : ∀ ss : List (List Nat), Txt.join (txt sep) (ss.map txt) = txt (joinS sep ss) := by
  intro ss
  have : ∀ ss : List (List Nat), Str.join (txt sep) (ss.map txt) = txt (joinS sep ss) := by
    intro ss
    induction ss with
    | nil => rfl
    | cons s r ih =>
      cases r with
      | nil => rfl
      | cons t r =>
        show txt s ++ txt sep ++ Str.join (txt sep) ((t :: r).map txt) = txt (s ++ sep ++ joinS sep (t :: r))
        rw [ih, txt_app, txt_app]
  first | exact this ss | (show Builtin.Str.glued _ _ = _; rw [PySem.StrLaws.glued_eq_join]; exact this ss)
theorem joinS_len (sep : List Nat) : ∀ ss : List (List Nat), (joinS sep ss).length ≤ (ss.map List.length).sum + ss.length * sep.length
  | [] => Nat.zero_le _
  | [s] => by
    show s.length ≤ ([s].map List.length).sum + 1 * sep.length
    simp
  | s :: t :: r => by
    have ih := joinS_len sep (t :: r)
    show (s ++ sep ++ joinS sep (t :: r)).length ≤ _
    rw [List.length_append, List.length_append, List.map_cons, List.sum_cons, List.length_cons, Nat.succ_mul]
    omega
theorem joinS_mem {sep : List Nat} {c : Nat} : ∀ {ss : List (List Nat)}, c ∈ joinS sep ss → c ∈ sep ∨ ∃ s ∈ ss, c ∈ s
  | [], h => nomatch h
  | [s], h => .inr ⟨s, by simp, h⟩
  | s :: t :: r, h => by
    change c ∈ s ++ sep ++ joinS sep (t :: r) at h
    rcases List.mem_append.mp h with h | h
    · rcases List.mem_append.mp h with h | h
      · exact .inr ⟨s, by simp, h⟩
      · exact .inl h
    · rcases joinS_mem h with h | ⟨u, hu, h⟩
      · exact .inl h
      · exact .inr ⟨u, List.mem_cons_of_mem _ hu, h⟩
theorem mt1_of {m : Mt} {p : D} {ps : List D} {r : RV} (h : mtD m p ps = some r) : ∃ d, ps = [d] ∧ mt1 m p d = some r := by
  match ps, h with
  | [d], h => exact ⟨d, rfl, h⟩
theorem join_ok : MtR X "str.join" (rDM X.K (mtD .join)) := by
  intro pins s σ H x xs v us Q I rx rxs ⟨Hf, p, ps, r, ex, hp, hps, e, q'⟩
  obtain ⟨d, rfl, ee⟩ := mt1_of e
  obtain ⟨sep, e1, f1⟩ := bind_of (show (strOf p).bind _ = some r from ee)
  obtain ⟨ss, e2, f2⟩ := bind_of f1
  obtain ⟨t, e3, e4⟩ := bind_of e2
  cases str_of e1
  cases lst_of e3
  split at f2
  · rename_i hz
    cases f2
    obtain ⟨rfl, os⟩ := hp.str
    obtain ⟨v', rfl, h⟩ := hps.one
    obtain ⟨a, vs, rfl, h1, r1⟩ := h
    obtain ⟨rfl, oss⟩ := r1.txts e4
    refine mt_join pins s σ H _ _ v us Q I rx rxs ⟨txt sep, a, ss.map txt, rfl, rfl, .inl (SqL_of h1), ?_, ?_⟩
    · rw [List.map_map, List.length_map, txt_len, show (fun x : Str => x.length) ∘ txt = List.length from funext txt_len]
      exact hz
    · rw [joinS_join]
      refine q'.str ex ⟨Nat.le_trans (joinS_len sep ss) hz, fun c hc => ?_⟩
      rcases joinS_mem hc with z | ⟨u, hu, z⟩
      · exact os.2 c z
      · exact (oss u hu).2 c z
  · cases f2
theorem count_ok : MtR X "str.count" (rDM X.K (mtD .count)) := by
  intro pins s σ H x xs v us Q I rx rxs ⟨Hf, p, ps, r, ex, hp, hps, e, q'⟩
  obtain ⟨d, rfl, ee⟩ := mt1_of e
  obtain ⟨t, e1, f1⟩ := bind_of (show (strOf p).bind _ = some r from ee)
  obtain ⟨c, e2, f2⟩ := map_of f1
  subst f2
  cases str_of e1
  cases sgn_of e2
  obtain ⟨rfl, os⟩ := hp.str
  obtain ⟨v', rfl, h⟩ := hps.one
  obtain ⟨rfl, oc⟩ := h.str
  refine mt_count pins s σ H _ _ v us Q I rx rxs ⟨txt t, txt [c], rfl, rfl, ?_⟩
  have : Txt.count (txt t) (txt [c]) = ((t.count c : Nat) : Int) := by
    show Txt.count (txt t) ⟨#[c]⟩ = _
    rw [count_cnt, txt_cps]
    have : ∀ l : List Nat, cnt c l = ((l.count c : Nat) : Int) := by
      intro l
      induction l with
      | nil => rfl
      | cons a r ih =>
        rw [cnt_cons, ih, List.count_cons]
        by_cases h : a = c
        · subst h; simp; omega
        · have : (a == c) = false := by simpa using h
          simp [h, this]
    exact this t
  rw [this]
  exact q'.int ex
end
end Itp
end
section
set_option Elab.async false
set_option linter.all false
set_option maxRecDepth 100000
set_option maxHeartbeats 4000000
set_option autoImplicit false
/-! Loops and comprehensions. -/
namespace Itp
open PySem PySem.Spec PyProof.Rows L2
open Evl (Ex)
def QI (n : Nat) (X : Cx) (tg iter : Expr) (wi : TI) : Prop := ∀ (pins : List (Addr × Obj)) (s : Shared) (τ : L2.St) (G : Hp) (R : It → Hp → Prop), n ≤ s.toks → Inv X pins τ G s → wi τ G R →
  wpAny (model X.prog X.w) X.A (eval iter X.env) (fun v s1 => wpAny (model X.prog X.w) X.A (pyIter v) (PIE X pins τ tg R) X.xe s1) X.xe s
/-- what is walked, by its value -/
def iVal (K : PySem.W.Frag) (x : V) (G : Hp) (R : It → Hp → Prop) : Prop :=
  (∃ a xs, x = .ref a ∧ SqL K G a xs ∧ R (Itl K a) G) ∨ (∃ a xs, x = .ref a ∧ SqT K G a xs ∧ R (Itt K a) G) ∨ ∃ z, x = .str z ∧ R (Its z) G
section
variable {n : Nat} {X : Cx} {e a b tg : Expr} {te : TE} {ta : TA} {pos p : Pos}
theorem iter_val {pins : List (Addr × Obj)} {s : Shared} {τ : L2.St} {G : Hp} {R : It → Hp → Prop} {x : V} {v : Value} (I : Inv X pins τ G s) (r : RelV x v) (h : iVal X.K x G R) : wpAny (model X.prog X.w) X.A (pyIter v) (PIE X pins τ tg R) X.xe s := by
  rcases h with ⟨c, xs, rfl, hs, q⟩ | ⟨c, xs, rfl, hs, q⟩ | ⟨z, rfl, q⟩
  · cases r
    obtain ⟨its, rv, ht, _⟩ := I.list hs
    exact wpAny_pyIter_list ht.isList (pi_one (tk := s.toks) I _ (turn_list c _) ⟨_, Heap.get?_push_size _ rfl, rfl, rfl⟩ q)
  · cases r
    obtain ⟨its, rv, ht, _⟩ := I.tuple hs
    exact wpAny_pyIter_tuple (show s.heap.IsTuple c its.toArray from ht) (pi_one (tk := s.toks) I _ (turn_tuple c _) ⟨_, Heap.get?_push_size _ rfl, rfl, rfl⟩ q)
  · obtain ⟨t, rfl⟩ := r
    by_cases ha : z.cps.all (· < 128) = true
    · exact wpAny_pyIter_ascii ha (pi_one (tk := s.toks) I _ (turn_str _ z t "str_ascii_iterator" (.inl rfl)) ⟨_, Heap.get?_push_size _ rfl, rfl, rfl⟩ q)
    · exact wpAny_pyIter_wide (Bool.eq_false_iff.mpr ha) (pi_one (tk := s.toks) I _ (turn_str _ z t "str_iterator" (.inr rfl)) ⟨_, Heap.get?_push_size _ rfl, rfl, rfl⟩ q)
theorem qi_over (he : QE n X e te) : QI n X tg e (fun τ G R => te τ G fun x G1 => iVal X.K x G1 R) := fun pins s τ G R hn I h =>
  he.then (α := Unit) hn I h fun v s1 x G1 _ I1 r q => iter_val I1 r q
theorem qi_rng1 (hg : Gl X "range") (hm : X.mg "range" = none) (ha : QA n X [a] ta) (hs : starEach [a] X.env = [(false, eval a X.env)]) : QI n X tg (.Call (.Name "range" p) [a] [] pos) (iRng1 ta) := fun pins s τ G R hn I h => by
  refine Call_ (ld_blt I hg hm boot_range (PyProof.Rows.callWith_type1 (thn (ha pos pins s τ G _ hn I h) fun us s1 ⟨vs, G1, I1, r1, j, ej, k1, k2, q⟩ => ?_) hs rfl))
  subst ej
  obtain ⟨u, eu, t, et⟩ := vals1 r1
  subst eu et
  exact call_range_1 (range_it I1 (by omega) (by omega) k1 k2 (by simpa using q))
theorem qi_rng2 (hg : Gl X "range") (hm : X.mg "range" = none) (ha : QA n X [a, b] ta) (hs : starEach [a, b] X.env = [(false, eval a X.env), (false, eval b X.env)]) (hs2 : starEach [b] X.env = [(false, eval b X.env)]) :
    QI n X tg (.Call (.Name "range" p) [a, b] [] pos) (iRng2 ta) := fun pins s τ G R hn I h => by
  refine Call_ (ld_blt I hg hm boot_range (PyProof.Rows.callWith_type1 (thn (ha pos pins s τ G _ hn I h) fun us s1 ⟨vs, G1, I1, r1, i, j, ej, k, q⟩ => ?_) (by rw [hs, hs2]) (by rw [hs2]; rfl)))
  subst ej
  obtain ⟨u, u', eu, ⟨t, et⟩, t', et'⟩ := vals2 r1
  subst eu et et'
  exact call_range_2 (range_it I1 k.1 k.2.1 k.2.2.1 k.2.2.2 q)
/-- for -/
theorem qs_for {iter : Expr} {body : List Stmt} {wi : TI} {g : TG} {tb : TS} (hp : PassesOwn (model X.prog X.w) X.A X.env X.xe) (hc : X.calm = true) (hi : QI n X tg iter wi) (hg : PG X tg g) (hb : QSs n X body tb)
    (hs : ∀ x, foldedSetIterable iter X.env x = pure x) : QS n X (.For tg iter body [] pos) (tFor wi g tb) := fun pins s τ G D hn I h => by
  refine wpAny_For (thT hn (hi pins s τ G _ hn I h) fun v s1 hn1 h1 => thT hn1 h1 fun itv s2 hn2 h2 => ?_) hs
  obtain ⟨it, fp, tn, J, G2, eit, I2, T, st2, f2, W, ⟨m0, w0⟩, turn⟩ := h2
  subst eit
  have stay : ∀ {G' : Hp}, (∀ b ∈ fp, G' b = none) → ∀ b ∈ fp, FpOk X pins G' b := fun hh b hb => ⟨hh b hb, (f2 b hb).2⟩
  refine codeAny_forLoop_any (fun m s' => n ≤ s'.toks ∧ ∃ i τ' G', Inv X pins τ' G' s' ∧ tn i s'.heap ∧ (∀ b ∈ fp, G' b = none) ∧ W i m τ' G') ?_ m0 ⟨hn2, 0, τ, G2, I2, st2, fun b hb => (f2 b hb).1, w0⟩
  rintro m s3 ⟨hn3, i, τ3, G3, I3, st3, fr3, w3⟩
  rcases turn i m τ3 G3 w3 with ⟨stop, qn⟩ | ⟨go, N, hN, step⟩
  · refine wpAny_passesOwn hp (thn (T.done X rfl rfl rfl hc i pins s3 τ3 G3 X.xe I3 (stay fr3) st3 stop) fun r s4 ⟨hr, I4⟩ => ?_)
    subst hr
    exact wpAny_execs_nil ⟨τ3, G3, I4, qn⟩
  · refine wpAny_passesOwn hp (thT hn3 (T.item X rfl rfl rfl hc i pins s3 τ3 G3 X.xe I3 (stay fr3) st3 go) fun r s4 hn4 ⟨u, hr, h4⟩ => ?_)
    subst hr
    refine wpAny_passesOwn hp (thT hn4 h4 fun _ s5 hn5 ⟨x, G5, I5, r5, y5, st5, fr5⟩ => ?_)
    have J5 := I5.pinned (stay fr5) (T.obj _ _ st5)
    refine wpAny_passesOwn hp (thT hn5 (hg.run _ s5 τ3 G5 x u _ J5 r5 (step x G5 y5)) fun _ s6 hn6 ⟨τ6, G6, I6, q6⟩ => ?_)
    refine wpAny_passesOwn hp (thT hn6 (hb _ s6 τ6 G6 _ hn6 I6 q6) fun f s7 hn7 q7 => ?_)
    have more : ∀ {τ7 : L2.St} {G7 : Hp}, Inv X (pins ++ pinsAt fp s5.heap) τ7 G7 s7 → N τ7 G7 → ∃ m', m' < m ∧ n ≤ s7.toks ∧ ∃ i τ' G', Inv X pins τ' G' s7 ∧ tn i s7.heap ∧ (∀ b ∈ fp, G' b = none) ∧ W i m' τ' G' := fun {τ7 G7} I7 n7 => by
      obtain ⟨m', hm, w7⟩ := hN τ7 G7 n7
      have pin7 : ∀ b ∈ fp, ∀ o, s5.heap.get? b = some o → s7.heap.get? b = some o ∧ G7 b = none := fun b hb o eb =>
        let z := I7.pin (b, o) (List.mem_append_right _ (List.mem_append_right _ (mem_pinsAt hb eb)))
        ⟨z.1, z.2.1⟩
      exact ⟨m', hm, hn7, i + 1, τ7, G7, I7.unpinned, T.keep _ _ _ st5 fun b hb o eb => (pin7 b hb o eb).1, fun b hb => let ⟨o, eb, _⟩ := T.obj _ _ st5 b hb; (pin7 b hb o eb).2, w7⟩
    cases f with
    | next => exact let ⟨_, _, I7, n7⟩ := q7; more I7 n7
    | cont => exact let ⟨_, _, I7, n7⟩ := q7; more I7 n7
    | brk => exact let ⟨τ7, G7, I7, z⟩ := q7; ⟨τ7, G7, I7.unpinned, z⟩
    | ret v => exact let ⟨w, τ7, G7, I7, r7, z⟩ := q7; ⟨w, τ7, G7, I7.unpinned, r7, z⟩
/-- while -/
theorem qs_while {c : Expr} {body : List Stmt} {tc : TT} {tb : TS} (hp : PassesOwn (model X.prog X.w) X.A X.env X.xe) (hc : QT n X c tc) (hb : QSs n X body tb) : QS n X (.While c body [] pos) (tWhile tc tb) := fun pins s τ G D hn I h => by
  obtain ⟨W, ⟨m0, w0⟩, turn⟩ := h
  refine wpAny_While (codeAny_whileLoop (fun m s' => n ≤ s'.toks ∧ ∃ τ' G', Inv X pins τ' G' s' ∧ W m τ' G') ?_ m0 ⟨hn, τ, G, I, w0⟩)
  rintro m s1 ⟨hn1, τ1, G1, I1, w1⟩
  refine wpAny_passesOwn hp (thT hn1 (hc _ pins s1 τ1 G1 _ rfl hn1 I1 (turn m τ1 G1 w1)) fun z s2 hn2 ⟨G2, I2, q2⟩ => ?_)
  cases z with
  | false =>
    rw [if_neg Bool.false_ne_true]
    exact wpAny_execs_nil ⟨τ1, G2, I2, q2⟩
  | true =>
    obtain ⟨N, hN, q2⟩ := q2
    rw [if_pos rfl]
    have more : ∀ {s3 : Shared}, n ≤ s3.toks → (∃ τ3 G3, Inv X pins τ3 G3 s3 ∧ N τ3 G3) → ∃ m', m' < m ∧ n ≤ s3.toks ∧ ∃ τ' G', Inv X pins τ' G' s3 ∧ W m' τ' G' := fun hn3 ⟨τ3, G3, I3, n3⟩ =>
      let ⟨m', hm, w3⟩ := hN τ3 G3 n3
      ⟨m', hm, hn3, τ3, G3, I3, w3⟩
    refine wpAny_passesOwn hp (thT hn2 (hb pins s2 τ1 G2 _ hn2 I2 q2) fun f s3 hn3 q3 => ?_)
    cases f with
    | next => exact more hn3 q3
    | cont => exact more hn3 q3
    | brk => exact q3
    | ret v => exact q3
/-- a comprehension's tests -/
def QTs (n : Nat) (X : Cx) (ifs : List Expr) (t : TT) : Prop := ∀ (pins : List (Addr × Obj)) (s : Shared) (τ : L2.St) (G : Hp) (Q : Bool → Hp → Prop), n ≤ s.toks → Inv X pins τ G s → t τ G Q →
  wpAny (model X.prog X.w) X.A (forIn ifs true fun c r => if r = true then do let ok ← isTrue c X.env (eval c X.env); pure (ForInStep.yield ok) else pure (ForInStep.yield r)) (TP X pins τ Q) X.xe s
theorem qts_nil : QTs n X [] tYes := fun _ _ _ G _ _ I h => wpAny_tests_nil ⟨G, I, h⟩
theorem qts_one {c : Expr} {t : TT} (h : QT n X c t) : QTs n X [c] t := fun pins s τ G Q hn I hw => wpAny_tests_one (h _ pins s τ G Q rfl hn I hw)
/-- the block's loop -/
theorem comp_core {pins : List (Addr × Obj)} {s : Shared} {τ : L2.St} {G : Hp} {Q : VK} {elt iter : Expr} {ifs : List Expr} {scope : Scope} {own : List (Str × Nat)} {pos' : Pos} {wi : TI} {g : TG} {tt : TT} {use : Option (Value → Sem Unit)} {Qf : Value → Shared → Prop}
    (hc : X.calm = true) (hN : X.N.Nodup) (hn : n ≤ s.toks) (I : Inv X pins τ G s) (hi : QI n X tg iter wi) (ok : BlkOk X.N X.env.scope scope own)
    (hg : ∀ (s : Shared) (G : Hp) (C : Addr) (cl : List (Str × Addr)) (fp : List Addr), PG (X.blk s G scope (compEnvC scope cl C X.env) fp) tg g) (ht : ∀ (s : Shared) (G : Hp) (C : Addr) (cl : List (Str × Addr)) (fp : List Addr), QTs n (X.blk s G scope (compEnvC scope cl C X.env) fp) ifs tt)
    (he : ∀ (s : Shared) (G : Hp) (C : Addr) (cl : List (Str × Addr)) (fp : List Addr), QE n (X.blk s G scope (compEnvC scope cl C X.env) fp) elt te) (hs : ∀ x, foldedSetIterable iter X.env x = pure x)
    (h : tLc wi g tt te (own.map (·.2)) τ G Q)
    (fin : ∀ D C s' m G', n ≤ s'.toks → Inv X pins τ G' s' → Q (.ref D) G' → s'.heap.Ns C m → FpOk X pins G' C → compPost (model X.prog X.w) X.A X.xe use Qf (.ref D) C (.ok .next) s') :
    wpAny (model X.prog X.w) X.A (comprehension (.ListComp elt [⟨tg, iter, ifs, 0⟩] scope pos) scope X.env pos' (newList []) false (eval iter X.env) use) Qf X.xe s := by
  have capt : ∀ y ∈ scope.names, y.2 = .free → ∃ c, X.env.cells.lookup y.1 = some c := fun y hy ey => I.ok.has _ (ok.free y hy ey)
  refine wpAny_comprehension_free (use := use) rfl hs (closure_ok capt) ok.kind (fun y hy ey => by rw [ok.uniq y hy, ey]) (thT hn (hi pins s τ G _ hn I h) fun xv s1 hn1 hx => thT hn1 hx fun itv s2 hn2 h2 => ?_)
  obtain ⟨it, fp, tn, J, G2, eit, I2, T, st2, f2, q⟩ := h2
  subst eit
  refine wpAny_newObj_type (newEnv_comp ?_) (Nat.zero_le _)
  generalize eD : s2.heap.objs.size = D
  have nD : G2 D = none := I2.hok.fresh (Nat.le_of_eq eD)
  obtain ⟨W, ⟨m0, w0⟩, turn⟩ := q D nD
  generalize es3 : ({ s2 with heap := s2.heap.push { cls := .type "list", data := .seq ([] : List Value).toArray } } : Shared) = s3
  have hp3 : s3.heap = s2.heap.push { cls := .type "list", data := .seq ([] : List Value).toArray } := by rw [← es3]
  have ht3 : s3.toks = s2.toks := by rw [← es3]
  have I3 : Inv X pins τ (upd G2 D (.lst [])) s3 := by
    rw [← es3]
    refine I2.laid (t' := s2.toks) (fun b o eb => Heap.get?_push_of_some _ eb) (Nat.le_of_eq eD) ⟨Nat.zero_le _, [], 0, .nil, ?_⟩
    rw [← eD]
    exact Heap.get?_push_size _ rfl
  have old : ∀ b ∈ fp, b < s2.heap.objs.size := fun b hb => let ⟨_, eb, _⟩ := T.obj _ _ st2 b hb; Heap.lt_size eb
  have f3 : ∀ b ∈ fp, FpOk X pins (upd G2 D (.lst [])) b ∧ b < s3.heap.objs.size := fun b hb => by
    refine ⟨⟨?_, (f2 b hb).2⟩, by rw [hp3, Heap.size_push]; exact Nat.lt_succ_of_lt (old b hb)⟩
    rw [upd_ne (by rw [← eD]; exact Nat.ne_of_lt (old b hb))]
    exact (f2 b hb).1
  have st3 : tn 0 s3.heap := T.keep _ _ _ st2 fun b _ o eb => by rw [hp3]; exact Heap.get?_push_of_some _ eb
  have I4 := block_start I3 ok hN f3
  generalize eG3 : upd G2 D (.lst []) = G3 at I3 I4 w0 f3
  have qg := hg s3 G3 s3.heap.objs.size (cellsFrom (s3.heap.objs.size + 1) scope.names (cloFrom X.env.cells scope.names [])) fp
  have qt := ht s3 G3 s3.heap.objs.size (cellsFrom (s3.heap.objs.size + 1) scope.names (cloFrom X.env.cells scope.names [])) fp
  have qe := he s3 G3 s3.heap.objs.size (cellsFrom (s3.heap.objs.size + 1) scope.names (cloFrom X.env.cells scope.names [])) fp
  have nf3 : ∀ b ∈ fp, G3 b = none := fun b hb => (f3 b hb).1.1
  show codeAny _ _ (.compStart (.ListComp elt [⟨tg, iter, ifs, 0⟩] scope pos) 0 (.ref it) (.ref D) (compEnvC scope (cellsFrom (s3.heap.objs.size + 1) scope.names (cloFrom X.env.cells scope.names [])) s3.heap.objs.size X.env)) (compPost (model X.prog X.w) X.A X.xe use Qf (.ref D) s3.heap.objs.size) { s3 with heap := pushCells (s3.heap.push { cls := .type "dict", data := .dict #[] }) scope.names }
  generalize ece : compEnvC scope (cellsFrom (s3.heap.objs.size + 1) scope.names (cloFrom X.env.cells scope.names [])) s3.heap.objs.size X.env = ce at I4 qg qt qe ⊢
  have cL : ce.locals = s3.heap.objs.size := by rw [← ece]; rfl
  generalize es4 : ({ s3 with heap := pushCells (s3.heap.push { cls := .type "dict", data := .dict #[] }) scope.names } : Shared) = s4 at I4 ⊢
  have hn4 : n ≤ s4.toks := by rw [← es4]; show n ≤ s3.toks; rw [ht3]; exact hn2
  have st4 : tn 0 s4.heap := T.keep _ _ _ st3 fun b _ o eb => by rw [← es4]; exact pushCells_keeps _ _ _ _ (Heap.get?_push_of_some _ eb)
  have stay : ∀ {τ' : L2.St} {G' : Hp} {s' : Shared}, Inv (X.blk s3 G3 scope ce fp) [] τ' G' s' → (∀ b ∈ fp, G' b = none) → ∀ b ∈ fp, FpOk (X.blk s3 G3 scope ce fp) [] G' b := fun {τ' G' s'} J' hh b hb =>
    ⟨hh b hb, (J'.ok.exf b hb).1, J'.ok.exfs b hb, .inl hb, fun x c ec => (J'.ok.exf b hb).2 x c ec, fun p hp => absurd (show p ∈ ([] : List (Addr × Obj)) ++ [] from hp) (by simp)⟩
  have loop : codeAny (model X.prog X.w) X.A (.compLoop (.ListComp elt [⟨tg, iter, ifs, 0⟩] scope pos) 0 (.ref it) (.ref D) ce) (compPost (model X.prog X.w) X.A X.xe use Qf (.ref D) s3.heap.objs.size) s4 := by
    refine compLoop_any (fun m s' => n ≤ s'.toks ∧ ∃ i G', Inv (X.blk s3 G3 scope ce fp) [] (wipe τ (own.map (·.2))) G' s' ∧ tn i s'.heap ∧ (∀ b ∈ fp, G' b = none) ∧ W i m G') ?_ m0 ⟨hn4, 0, G3, I4, st4, nf3, w0⟩
    rintro m s5 ⟨hn5, i, G5, I5, st5, n5, w5⟩
    rcases turn i m G5 w5 with ⟨stop, qq⟩ | ⟨go, Nx, hNx, step⟩
    · refine wpAny_mono (wpAny_toks_of hn5 (T.done (X.blk s3 G3 scope ce fp) rfl rfl rfl hc i [] s5 _ G5 (fun _ _ => False) I5 (stay I5 n5) st5 stop)) (fun r s6 hh => ?_) fun _ _ z => z.2.elim
      obtain ⟨hn6, hr, I6⟩ := hh
      subst hr
      have I7 : Inv X pins τ G5 s6 := I3.call' (ch := fp) I6.os I6.base I6.hok I6.bare fun b hb => ⟨(f3 b hb).1.2.2.2.1, (f3 b hb).1.2.1, (f3 b hb).1.2.2.2.2.1, (f3 b hb).1.2.2.2.2.2⟩
      have z := I6.free
      have nC : G5 s3.heap.objs.size = none := by rw [← cL]; exact z
      obtain ⟨mm, hm, _⟩ := I6.loc
      have hm' : s6.heap.Ns s3.heap.objs.size mm := by rw [← cL]; exact hm
      exact fin D s3.heap.objs.size s6 mm G5 hn6 I7 qq hm' (I3.fpOk (Nat.le_refl _) nC)
    · refine wpAny_mono (wpAny_toks_of hn5 (T.item (X.blk s3 G3 scope ce fp) rfl rfl rfl hc i [] s5 _ G5 (fun _ _ => False) I5 (stay I5 n5) st5 go)) (fun r s6 hh => ?_) fun _ _ z => z.2.elim
      obtain ⟨hn6, u, hr, h6⟩ := hh
      subst hr
      refine wpAny_mono (wpAny_toks_of hn6 h6) (fun _ s7 hh => ?_) fun _ _ z => z.2.elim
      obtain ⟨hn7, x, G7, I7, r7, y7, st7, n7⟩ := hh
      have J7 := I7.pinned (stay I7 n7) (T.obj _ _ st7)
      refine wpAny_mono (wpAny_toks_of hn7 (qg.run _ s7 _ G7 x u _ J7 r7 (step x G7 y7))) (fun _ s8 hh => ?_) fun _ _ z => z.2.elim
      obtain ⟨hn8, τ8, G8, I8, hw8, q8⟩ := hh
      refine wpAny_mono (wpAny_toks_of hn8 (qt _ s8 τ8 G8 _ hn8 I8 q8)) (fun c s9 hh => ?_) fun _ _ z => z.2.elim
      obtain ⟨hn9, G9, I9, q9⟩ := hh
      have next : ∀ {s' : Shared} {G' : Hp}, n ≤ s'.toks → Inv (X.blk s3 G3 scope ce fp) ([] ++ pinsAt fp s7.heap) τ8 G' s' → Nx G' → ∃ m', m' < m ∧ n ≤ s'.toks ∧ ∃ i G', Inv (X.blk s3 G3 scope ce fp) [] (wipe τ (own.map (·.2))) G' s' ∧ tn i s'.heap ∧ (∀ b ∈ fp, G' b = none) ∧ W i m' G' := fun {s' G'} hn' J' nx => by
        obtain ⟨m', hm, w'⟩ := hNx G' nx
        have pin' : ∀ b ∈ fp, ∀ o, s7.heap.get? b = some o → s'.heap.get? b = some o ∧ G' b = none := fun b hb o eb =>
          let z := J'.pin (b, o) (List.mem_append_right _ (List.mem_append_right _ (mem_pinsAt hb eb)))
          ⟨z.1, z.2.1⟩
        refine ⟨m', hm, hn', i + 1, G', (J'.unpinned (pins := [])).weak (by rw [← hw8, wipe_length]) (fun j v ev => ?_), T.keep _ _ _ st7 fun b hb o eb => (pin' b hb o eb).1, fun b hb => let ⟨o, eb, _⟩ := T.obj _ _ st7 b hb; (pin' b hb o eb).2, w'⟩
        rw [← hw8] at ev
        exact (wipe_some ev).1
      cases c with
      | false =>
        simp only [Bool.false_eq_true, if_false] at q9 ⊢
        exact next hn9 I9 q9
      | true =>
        simp only [if_true] at q9 ⊢
        refine wpAny_mono (wpAny_toks_of hn9 (qe _ s9 τ8 G9 _ hn9 I9 q9)) (fun z s10 hh => ?_) fun _ _ z => z.2.elim
        obtain ⟨hn10, yv, G10, I10, r10, acc, hD10, hz10, nx⟩ := hh
        exact wpAny_with_toks hn10 (app_ok (X := X.blk s3 G3 scope ce fp) I10 hD10 hz10 r10 fun s11 I11 hn11 => next hn11 I11 nx)
  exact codeAny_compStart_list loop (T.self X.A 0 _ _ _ st4 loop)
theorem qe_lc {elt iter : Expr} {ifs : List Expr} {scope : Scope} {own : List (Str × Nat)} {wi : TI} {g : TG} {tt : TT} (hc : X.calm = true) (hN : X.N.Nodup) (hi : QI n X tg iter wi) (ok : BlkOk X.N X.env.scope scope own)
    (hg : ∀ (s : Shared) (G : Hp) (C : Addr) (cl : List (Str × Addr)) (fp : List Addr), PG (X.blk s G scope (compEnvC scope cl C X.env) fp) tg g) (ht : ∀ (s : Shared) (G : Hp) (C : Addr) (cl : List (Str × Addr)) (fp : List Addr), QTs n (X.blk s G scope (compEnvC scope cl C X.env) fp) ifs tt)
    (he : ∀ (s : Shared) (G : Hp) (C : Addr) (cl : List (Str × Addr)) (fp : List Addr), QE n (X.blk s G scope (compEnvC scope cl C X.env) fp) elt te) (hs : ∀ x, foldedSetIterable iter X.env x = pure x) :
    QE n X (.ListComp elt [⟨tg, iter, ifs, 0⟩] scope pos) (tLc wi g tt te (own.map (·.2))) := fun pins s τ G Q hn I h => by
  rw [eval_ListComp]
  refine comp_core hc hN hn I hi ok hg ht he hs h fun D C s' m G' hn' I' q hm f => ⟨m, hm, fun h2 sb => ?_⟩
  exact ⟨.ref D, G', I'.turned (t' := s'.toks) (fun b o hb eb => (sb.2 b hb).trans eb) f.1 f.2.1 f.2.2.2.1 f.2.2.2.2.1 f.2.2.2.2.2, rfl, q⟩
/-- name = [..] on one line -/
theorem qs_setLc {i : Nat} {y : Str} {py spos : Pos} {elt iter : Expr} {ifs : List Expr} {scope : Scope} {own : List (Str × Nat)} {wi : TI} {g : TG} {tt : TT} (hc : X.calm = true) (hN : X.N.Nodup) (hy : X.N[i]? = some y) (hyl : X.env.scope.names.lookup y = some .local)
    (hsw : swapsWith (.ListComp elt [⟨tg, iter, ifs, 0⟩] scope pos) (some (.Name y py)) spos.line X.env = pure true) (hi : QI n X tg iter wi) (ok : BlkOk X.N X.env.scope scope own)
    (hg : ∀ (s : Shared) (G : Hp) (C : Addr) (cl : List (Str × Addr)) (fp : List Addr), PG (X.blk s G scope (compEnvC scope cl C X.env) fp) tg g) (ht : ∀ (s : Shared) (G : Hp) (C : Addr) (cl : List (Str × Addr)) (fp : List Addr), QTs n (X.blk s G scope (compEnvC scope cl C X.env) fp) ifs tt)
    (he : ∀ (s : Shared) (G : Hp) (C : Addr) (cl : List (Str × Addr)) (fp : List Addr), QE n (X.blk s G scope (compEnvC scope cl C X.env) fp) elt te) (hs : ∀ x, foldedSetIterable iter X.env x = pure x) :
    QS n X (.Assign [.Name y py] (.ListComp elt [⟨tg, iter, ifs, 0⟩] scope pos) spos) (tAsg (tLc wi g tt te (own.map (·.2))) (gName i)) := fun pins s τ G D hn I h => by
  rw [exec_Assign_Name_used _ _ _ _ hsw]
  refine wpAny_bind (wpAny_standAt (wpAny_bind ?_))
  show wpAny _ X.A (do let _ ← comprehension (.ListComp elt [⟨tg, iter, ifs, 0⟩] scope pos) scope X.env (firstIterPos [⟨tg, iter, ifs, 0⟩] pos) (newList []) false (eval iter X.env) (some (assign (.Name y py) X.env))) _ _ s
  have h : tLc wi g tt te (own.map (·.2)) τ G (fun x G1 => gName i x τ G1 D.nx) := h
  refine wpAny_bind (thn (comp_core (Qf := fun _ s' => SP X pins D .next s') hc hN hn I hi ok hg ht he hs h fun L C s' m G' hn' I' q hm f => ?_) fun _ s' hq => wpAny_pure (wpAny_pure hq))
  show wpAny _ _ (assign (.Name y py) X.env (.ref L)) _ _ _
  refine wpAny_assign_Name (store_ok2 (v := V.ref L) I' hN hy (.inl hyl) rfl (fun s2 I2 ⟨c, sb, hc'⟩ => ?_) (.inr hyl))
  have ne : C ≠ c := by
    rcases hc' with z | z
    · rw [z]; exact f.2.1
    · exact fun ez => f.2.2.2.2.1 y c z ez.symm
  exact ⟨m, hm.sameBut sb ne, fun h3 sb3 => ⟨_, G', I2.turned (t' := s2.toks) (fun b o hb eb => (sb3.2 b hb).trans eb) f.1 f.2.1 f.2.2.2.1 f.2.2.2.2.1 f.2.2.2.2.2, q⟩⟩
end
end Itp
end
section
set_option Elab.async false
set_option linter.all false
set_option maxRecDepth 100000
set_option maxHeartbeats 4000000
set_option autoImplicit false
/-! Calls of the program's own defs, by their meaning. -/
namespace Itp
open PySem PySem.Spec PyProof.Rows L2
open Evl (Ex)
def putIo : List SV → List Ob → List SV
  | [], _ => []
  | .val d :: r, os => .val d :: putIo r os
  | .own io o :: r, o' :: os => .own io o' :: putIo r os
  | .own io o :: r, [] => .own io o :: putIo r []
  | .lck :: r, os => .lck :: putIo r os
/-- a def's promise by its meaning -/
def spF (K : PySem.W.Frag) (ec : EC) (F : List SV → Option FOut) (np : Nat) : Sp := fun vs G Q E => ∃ svs Hf, vs.length = np ∧ svs.length = np ∧ Sim K (svs.map some) (vs.map some) Hf G ∧
  match F svs with
  | some (.ret r os) => ∀ v Hf' G', Grow (Ow (svs.map some) (vs.map some)) Hf G Hf' G' → Sim K ((putIo svs os).map some) (vs.map some) Hf' G' → RVRel K G Hf' G' r v → Q v G'
  | some (.ex x os) => ∀ c d Hf' G', Grow (Ow (svs.map some) (vs.map some)) Hf G Hf' G' → Sim K ((putIo svs os).map some) (vs.map some) Hf' G' → ec x c d G' → E c d G'
  | none => False
section
variable {K : PySem.W.Frag} {ρ ρ' : Env} {σ : L2.St} {Hf H Hf' H' : Hp}
theorem slotOb_of {i : Nat} {p : Bool × Ob} (h : slotOb ρ i = some p) : OwnAt ρ i p.1 p.2 := by
  unfold slotOb at h
  split at h
  · rename_i io o e
    cases h
    exact e
  · cases h
theorem slotOb_is {i : Nat} {io : Bool} {o : Ob} (h : OwnAt ρ i io o) : slotOb ρ i = some (io, o) := by unfold slotOb; rw [h]
theorem giveA_spec : ∀ {as : List AR} {svs : List SV}, giveA ρ as = some svs → svs.length = as.length ∧ ∀ k : Nat, (∀ d, as[k]? = some (.val d) → svs[k]? = some (.val d)) ∧ (∀ i, as[k]? = some (.loc i) → ∃ io o, OwnAt ρ i io o ∧ svs[k]? = some (.own true o))
  | [], svs, h => by
    cases h
    exact ⟨rfl, fun k => ⟨fun d e => by simp at e, fun i e => by simp at e⟩⟩
  | .val d :: as, svs, h => by
    obtain ⟨r, e1, e2⟩ := map_of (show (giveA ρ as).map (SV.val d :: ·) = some svs from h)
    subst e2
    obtain ⟨l, q⟩ := giveA_spec e1
    refine ⟨by rw [List.length_cons, List.length_cons, l], fun k => ?_⟩
    cases k with
    | zero => exact ⟨fun d' e => by cases e; rfl, fun i e => by cases e⟩
    | succ k => exact q k
  | .loc i :: as, svs, h => by
    obtain ⟨p, e1, h⟩ := bind_of (show (slotOb ρ i).bind (fun p => (giveA ρ as).map (SV.own true p.2 :: ·)) = some svs from h)
    obtain ⟨r, e2, e3⟩ := map_of h
    subst e3
    obtain ⟨l, q⟩ := giveA_spec e2
    refine ⟨by rw [List.length_cons, List.length_cons, l], fun k => ?_⟩
    cases k with
    | zero =>
      refine ⟨fun d' e => (nomatch e), fun j e => ?_⟩
      have : i = j := by injection (Option.some.inj e)
      subst this
      exact ⟨p.1, p.2, slotOb_of e1, rfl⟩
    | succ k => exact q k
theorem mem_locs {i : Nat} : ∀ {as : List AR} {k : Nat}, as[k]? = some (.loc i) → i ∈ locsA as
  | [], _, h => by simp at h
  | .val _ :: as, 0, h => by cases h
  | .loc _ :: as, 0, h => by cases h; exact List.mem_cons_self
  | .val _ :: as, k + 1, h => mem_locs (as := as) (k := k) h
  | .loc _ :: as, k + 1, h => List.mem_cons_of_mem _ (mem_locs (as := as) (k := k) h)
theorem locs_get {i : Nat} : ∀ {as : List AR}, i ∈ locsA as → ∃ k : Nat, as[k]? = some (.loc i)
  | .val _ :: as, h => let ⟨k, e⟩ := locs_get (as := as) h; ⟨k + 1, e⟩
  | .loc j :: as, h => by
    rcases List.mem_cons.mp h with z | z
    · subst z; exact ⟨0, rfl⟩
    · obtain ⟨k, e⟩ := locs_get z; exact ⟨k + 1, e⟩
theorem locs_inj {i : Nat} : ∀ {as : List AR} {k l : Nat}, (locsA as).Nodup → as[k]? = some (.loc i) → as[l]? = some (.loc i) → k = l
  | [], _, _, _, h, _ => by simp at h
  | .val _ :: as, 0, _, _, h, _ => by cases h
  | .val _ :: as, _, 0, _, _, h => by cases h
  | .val _ :: as, k + 1, l + 1, nd, h1, h2 => congrArg _ (locs_inj (as := as) nd h1 h2)
  | .loc _ :: as, 0, 0, _, _, _ => rfl
  | .loc _ :: as, 0, l + 1, nd, h1, h2 => by cases h1; exact absurd (mem_locs (as := as) h2) (List.nodup_cons.mp nd).1
  | .loc _ :: as, k + 1, 0, nd, h1, h2 => by cases h2; exact absurd (mem_locs (as := as) h1) (List.nodup_cons.mp nd).1
  | .loc _ :: as, k + 1, l + 1, nd, h1, h2 => congrArg _ (locs_inj (as := as) (List.nodup_cons.mp nd).2 h1 h2)
theorem backA_spec {ρ0 : Env} : ∀ {as : List AR} {svs : List SV} {os : List Ob} {ρ ρ' : Env}, giveA ρ0 as = some svs → backA ρ (locsA as) os = some ρ' → (locsA as).Nodup →
    ρ'.length = ρ.length ∧ ∀ j : Nat, (j ∉ locsA as → ρ'[j]? = ρ[j]?) ∧ ∀ k : Nat, as[k]? = some (.loc j) → ∃ io o o', OwnAt ρ j io o ∧ (putIo svs os)[k]? = some (.own true o') ∧ OwnAt ρ' j io o'
  | [], svs, os, ρ, ρ', g, h, _ => by
    cases os with
    | nil => cases h; exact ⟨rfl, fun j => ⟨fun _ => rfl, fun k e => by simp at e⟩⟩
    | cons _ _ => cases h
  | .val d :: as, svs, os, ρ, ρ', g, h, nd => by
    obtain ⟨r, e1, e2⟩ := map_of (show (giveA ρ0 as).map (SV.val d :: ·) = some svs from g)
    subst e2
    obtain ⟨l, q⟩ := backA_spec (as := as) e1 h nd
    refine ⟨l, fun j => ⟨(q j).1, fun k e => ?_⟩⟩
    cases k with
    | zero => cases e
    | succ k => exact (q j).2 k e
  | .loc i :: as, svs, os, ρ, ρ', g, h, nd => by
    obtain ⟨p, e1, g⟩ := bind_of (show (slotOb ρ0 i).bind (fun p => (giveA ρ0 as).map (SV.own true p.2 :: ·)) = some svs from g)
    obtain ⟨r, e2, e3⟩ := map_of g
    subst e3
    cases os with
    | nil => cases h
    | cons o os =>
      change (match slotOb ρ i with | some (io, _) => backA (ρ.set i (some (.own io o))) (locsA as) os | none => none) = some ρ' at h
      cases es : slotOb ρ i with
      | none => rw [es] at h; cases h
      | some pp =>
        obtain ⟨io, o1⟩ := pp
        rw [es] at h
        obtain ⟨ni, nd'⟩ := List.nodup_cons.mp nd
        obtain ⟨l, q⟩ := backA_spec (as := as) e2 h nd'
        have li : i < ρ.length := (List.getElem?_eq_some_iff.mp (slotOb_of es)).1
        refine ⟨by rw [l, List.length_set], fun j => ⟨fun hj => ?_, fun k e => ?_⟩⟩
        · have hji : i ≠ j := fun z => hj (by subst z; exact List.mem_cons_self)
          rw [(q j).1 fun z => hj (List.mem_cons_of_mem _ z), List.getElem?_set_ne hji]
        · cases k with
          | zero =>
            cases e
            refine ⟨io, o1, o, slotOb_of es, rfl, ?_⟩
            show ρ'[i]? = _
            rw [(q i).1 ni, List.getElem?_set_self li]
          | succ k =>
            have hji : i ≠ j := fun z => ni (by subst z; exact mem_locs (as := as) e)
            obtain ⟨io', oo, o', a1, a2, a3⟩ := (q j).2 k e
            rw [OwnAt, List.getElem?_set_ne hji] at a1
            exact ⟨io', oo, o', a1, a2, a3⟩
theorem ARsRel.length {as : List AR} {vs : List V} (h : ARsRel K σ ρ Hf as vs) : as.length = vs.length := Paired.length h
theorem ARsRel.get : ∀ {as : List AR} {vs : List V} {k : Nat} {a : AR}, ARsRel K σ ρ Hf as vs → as[k]? = some a → ∃ v, vs[k]? = some v ∧ ARRel K σ ρ Hf a v
  | _, _, _, _, .nil, e => by simp at e
  | _, _, 0, _, .cons r _, e => by simp at e; subst e; exact ⟨_, rfl, r⟩
  | _, _, k + 1, a, .cons _ t, e => by
    obtain ⟨v, h1, h2⟩ := ARsRel.get (k := k) t (by simpa using e)
    exact ⟨v, by simpa using h1, h2⟩
theorem get_map {α β : Type} {f : α → β} {l : List α} {i : Nat} {y : β} (h : (l.map f)[i]? = some y) : ∃ x, l[i]? = some x ∧ f x = y := by
  rw [List.getElem?_map] at h
  exact map_of h
theorem map_get {α β : Type} {f : α → β} {l : List α} {i : Nat} {x : α} (h : l[i]? = some x) : (l.map f)[i]? = some (f x) := by rw [List.getElem?_map, h]; rfl
/-- what is handed in is as it is to be -/
theorem give_sim (S : Sim K ρ σ Hf H) {as : List AR} {vs : List V} {svs : List SV} (h : ARsRel K σ ρ Hf as vs) (nd : (locsA as).Nodup) (g : giveA ρ as = some svs) :
    Sim K (svs.map some) (vs.map some) Hf H ∧ ∀ a, Ow (svs.map some) (vs.map some) a → Ow ρ σ a := by
  obtain ⟨l, q⟩ := giveA_spec g
  have at_ : ∀ {i : Nat} {io : Bool} {o : Ob}, OwnAt (svs.map some) i io o → ∃ j, as[i]? = some (.loc j) ∧ ∃ io', OwnAt ρ j io' o ∧ ∃ a, σ[j]? = some (some (.ref a)) ∧ vs[i]? = some (.ref a) := by
    intro i io o e
    obtain ⟨sv, e1, e2⟩ := get_map e
    cases e2
    have li : i < as.length := by rw [← l]; exact (List.getElem?_eq_some_iff.mp e1).1
    have ea := List.getElem?_eq_getElem li
    cases hx : as[i] with
    | val d =>
      rw [hx] at ea
      rw [(q i).1 d ea] at e1
      cases e1
    | loc j =>
      rw [hx] at ea
      obtain ⟨io', o', w, e3⟩ := (q i).2 j ea
      rw [e3] at e1
      cases e1
      obtain ⟨v, e4, r⟩ := h.get ea
      obtain ⟨a, _, _, _, s, rfl⟩ := r
      exact ⟨j, ea, io', w, a, s, e4⟩
  refine ⟨⟨by rw [List.length_map, List.length_map, l, h.length], S.sub, fun i d e => ?_, fun i io o e => ?_, fun i j io o io' o' a e1 e2 e3 e4 => ?_⟩, fun a ⟨i, io, o, e, e'⟩ => ?_⟩
  · obtain ⟨sv, e1, e2⟩ := get_map e
    cases e2
    have li : i < as.length := by rw [← l]; exact (List.getElem?_eq_some_iff.mp e1).1
    have ea := List.getElem?_eq_getElem li
    cases hx : as[i] with
    | val d' =>
      rw [hx] at ea
      rw [(q i).1 d' ea] at e1
      cases e1
      obtain ⟨v, e4, r⟩ := h.get ea
      exact ⟨v, map_get e4, r⟩
    | loc j =>
      rw [hx] at ea
      obtain ⟨io', o', w, e3⟩ := (q i).2 j ea
      rw [e3] at e1
      cases e1
  · obtain ⟨j, ea, io', w, a, s, e4⟩ := at_ e
    obtain ⟨b, e5, e6, e7⟩ := S.own j io' o w
    rw [s] at e5; cases e5
    exact ⟨a, map_get e4, e6, e7⟩
  · obtain ⟨k, ea, jo, w, b, s, e5⟩ := at_ e1
    obtain ⟨k', ea', jo', w', b', s', e5'⟩ := at_ e2
    rw [map_get e5] at e3
    rw [map_get e5'] at e4
    cases e3
    cases e4
    have := S.inj k k' jo _ jo' _ _ w w' s s'
    subst this
    exact locs_inj nd ea ea'
  · obtain ⟨j, ea, io', w, b, s, e5⟩ := at_ e
    rw [map_get e5] at e'
    cases e'
    exact ⟨j, io', o, w, s⟩
/-- what has come back -/
theorem back_post (S : Sim K ρ σ Hf H) {as : List AR} {vs : List V} {svs : List SV} {os : List Ob} (h : ARsRel K σ ρ Hf as vs) (nd : (locsA as).Nodup) (g : giveA ρ as = some svs)
    (gr : Grow (Ow (svs.map some) (vs.map some)) Hf H Hf' H') (T : Sim K ((putIo svs os).map some) (vs.map some) Hf' H') (b : backA ρ (locsA as) os = some ρ') : Post K σ ρ Hf H ρ' Hf' H' := by
  obtain ⟨_, sub⟩ := give_sim S h nd g
  obtain ⟨l, q⟩ := backA_spec g b nd
  have gr' : Grow (Ow ρ σ) Hf H Hf' H' := gr.imp sub
  -- an object of ρ'
  have at_ : ∀ {i : Nat} {io : Bool} {o : Ob}, OwnAt ρ' i io o → ∃ a, σ[i]? = some (some (.ref a)) ∧ Hf' a = none ∧ ObR K Hf' H' a o ∧ ∃ o0, OwnAt ρ i io o0 := by
    intro i io o e
    by_cases hi : i ∈ locsA as
    · obtain ⟨k, ea⟩ := locs_get hi
      obtain ⟨io', o0, o', w, e1, w'⟩ := (q i).2 k ea
      rw [OwnAt] at w' e
      rw [w'] at e
      cases e
      obtain ⟨v, e4, r⟩ := h.get ea
      obtain ⟨a, _, _, _, s, rfl⟩ := r
      obtain ⟨b', e5, e6, e7⟩ := T.own k true o (map_get e1)
      rw [map_get e4] at e5
      cases e5
      exact ⟨a, s, e6, e7, o0, w⟩
    · have e0 : OwnAt ρ i io o := by rw [OwnAt, ← (q i).1 hi]; exact e
      obtain ⟨a, s, e6, e7⟩ := S.own i io o e0
      have na : ¬ Ow (svs.map some) (vs.map some) a := fun ⟨k, jo, o1, w, w'⟩ => by
        obtain ⟨sv, e1, e2⟩ := get_map w
        cases e2
        obtain ⟨lg, qg⟩ := giveA_spec g
        have lk : k < as.length := by rw [← lg]; exact (List.getElem?_eq_some_iff.mp e1).1
        have ea := List.getElem?_eq_getElem lk
        cases hx : as[k] with
        | val d =>
          rw [hx] at ea
          rw [(qg k).1 d ea] at e1
          cases e1
        | loc j =>
          rw [hx] at ea
          obtain ⟨v, e4, r⟩ := h.get ea
          obtain ⟨c, jo', o2, w2, s2, rfl⟩ := r
          rw [map_get e4] at w'
          cases w'
          have := S.inj i j io o jo' o2 _ e0 w2 s s2
          subst this
          exact hi (mem_locs ea)
      refine ⟨a, s, ?_, e7.mono gr.ex fun u hu => gr.fr a u hu na, o, e0⟩
      cases hz : Hf' a with
      | none => rfl
      | some u =>
        rcases gr.fz a (by rw [hz]; simp) with z | z | z
        · exact absurd e6 z
        · exact absurd z e7.there
        · exact absurd z na
  refine ⟨⟨by rw [l]; exact S.len, T.sub, fun i d e => ?_, fun i io o e => let ⟨a, s, e1, e2, _⟩ := at_ e; ⟨a, s, e1, e2⟩, fun i j io o io' o' a e1 e2 e3 e4 => ?_⟩, gr', fun i io => ⟨fun ⟨o, e⟩ => ?_, fun ⟨o, e⟩ => let ⟨_, _, _, _, o0, e0⟩ := at_ e; ⟨o0, e0⟩⟩, fun i e => ?_⟩
  · by_cases hi : i ∈ locsA as
    · obtain ⟨k, ea⟩ := locs_get hi
      obtain ⟨io', o0, o', w, e1, w'⟩ := (q i).2 k ea
      rw [OwnAt] at w'
      rw [w'] at e
      cases e
    · rw [(q i).1 hi] at e
      obtain ⟨v, e1, r⟩ := S.val i d e
      exact ⟨v, e1, Rp.mono gr.ex _ _ r⟩
  · obtain ⟨_, _, _, _, o1, w1⟩ := at_ e1
    obtain ⟨_, _, _, _, o2, w2⟩ := at_ e2
    exact S.inj i j io o1 io' o2 a w1 w2 e3 e4
  · by_cases hi : i ∈ locsA as
    · obtain ⟨k, ea⟩ := locs_get hi
      obtain ⟨io', o0, o', w, e1, w'⟩ := (q i).2 k ea
      rw [OwnAt] at w e
      rw [e] at w
      cases w
      exact ⟨o', w'⟩
    · exact ⟨o, by rw [OwnAt, (q i).1 hi]; exact e⟩
  · by_cases hi : i ∈ locsA as
    · obtain ⟨k, ea⟩ := locs_get hi
      obtain ⟨io', o0, o', w, _⟩ := (q i).2 k ea
      rw [OwnAt, e] at w
      cases w
    · rw [(q i).1 hi]; exact e
/-- a call's reading by its meaning -/
theorem call_reads {W : WX} {ec : EC} {cl : Calls} {f np : Nat} {fa : M (List AR)} (hnp : ∀ svs, cl f svs ≠ none → svs.length = np) (σ : L2.St) (H : Hp) (Q : VK) (h : tM W ec K (M.bind fa fun as => callM cl f as) σ H Q) :
    tCallT (spF K ec (cl f) np) (WE W) (tMA W ec K fa) σ H Q := by
  obtain ⟨ρ, Hf, S, h⟩ := h
  refine stepA (.refl S) h fun as ρ1 vs Hf1 H1 p1 _ q1 h1 => ?_
  by_cases nd : (locsA as).Nodup
  case neg =>
    unfold Run callM at h1
    simp only [if_neg nd] at h1
  case pos =>
    unfold Run callM at h1
    simp only [if_pos nd] at h1
    cases hg : giveA ρ1 as with
    | none => simp only [hg] at h1
    | some svs =>
      simp only [hg] at h1
      obtain ⟨T, sub⟩ := give_sim p1.sim q1 nd hg
      cases hc : cl f svs with
      | none => simp only [hc] at h1
      | some out =>
        have ln := hnp svs (by rw [hc]; simp)
        have lv : vs.length = np := by rw [← ln, (giveA_spec hg).1, q1.length]
        refine ⟨svs, Hf1, lv, ln, T, ?_⟩
        rw [hc]
        cases out with
        | ret r os =>
          simp only [hc] at h1
          cases hb : backA ρ1 (locsA as) os with
          | none => simp only [hb, Option.map_none] at h1
          | some ρ2 =>
            simp only [hb, Option.map_some] at h1
            intro v Hf' G' gr T' rr
            have p2 := back_post p1.sim q1 nd hg gr T' hb
            exact h1 v Hf' G' (p1.trans p2) ((RRel.rv rr).start fun _ => p1.gr.back)
        | ex x os =>
          simp only [hc] at h1
          cases hb : backA ρ1 (locsA as) os with
          | none => simp only [hb, Option.map_none] at h1
          | some ρ2 =>
            simp only [hb, Option.map_some] at h1
            intro c d Hf' G' gr T' xx
            have p2 := back_post p1.sim q1 nd hg gr T' hb
            exact h1 c d Hf' G' (p1.trans p2) xx
end
end Itp
end
section
set_option Elab.async false
set_option linter.all false
set_option maxRecDepth 100000
set_option maxHeartbeats 4000000
set_option autoImplicit false
/-! Targets, loops of comprehensions. -/
namespace Itp
open PySem PySem.Spec PyProof.Rows L2
open Evl (Ex)
section
variable {K : PySem.W.Frag} {ρ ρ' ρ1 : Env} {σ : L2.St} {Hf H Hf' H' : Hp} {W : WX} {ec : EC} {E : Exn → Env → Prop}
theorem Sim.set (S : Sim K ρ σ Hf H) {i : Nat} {d : D} {v : V} (r : Rp K Hf v d) (li : i < ρ.length) : Sim K (ρ.set i (some (.val d))) (σ.set i (some v)) Hf H where
  len := by rw [List.length_set, List.length_set]; exact S.len
  sub := S.sub
  val := fun j d' e => by
    by_cases h : i = j
    · subst h
      rw [List.getElem?_set_self li] at e
      cases e
      exact ⟨v, List.getElem?_set_self (by rw [← S.len]; exact li), r⟩
    · rw [List.getElem?_set_ne h] at e ⊢
      exact S.val j d' e
  own := fun j io o e => by
    by_cases h : i = j
    · subst h
      rw [OwnAt, List.getElem?_set_self li] at e
      cases e
    · rw [OwnAt, List.getElem?_set_ne h] at e
      rw [List.getElem?_set_ne h]
      exact S.own j io o e
  inj := fun j k io o io' o' a e1 e2 e3 e4 => by
    have hj : i ≠ j := fun z => by subst z; rw [OwnAt, List.getElem?_set_self li] at e1; cases e1
    have hk : i ≠ k := fun z => by subst z; rw [OwnAt, List.getElem?_set_self li] at e2; cases e2
    rw [OwnAt, List.getElem?_set_ne hj] at e1
    rw [OwnAt, List.getElem?_set_ne hk] at e2
    rw [List.getElem?_set_ne hj] at e3
    rw [List.getElem?_set_ne hk] at e4
    exact S.inj j k io o io' o' a e1 e2 e3 e4
/-- a slot is stored: what it must be -/
theorem setSlot_run {i : Nat} {w : SV} {C : Unit → Env → Prop} (h : Run (setSlot i w) ρ C E) : i < ρ.length ∧ (∀ o, ¬ OwnAt ρ i true o) ∧ ρ[i]? ≠ some (some .lck) ∧ C () (ρ.set i (some w)) := by
  unfold Run setSlot at h
  cases e : ρ[i]? with
  | none => rw [e] at h; exact h.elim
  | some sl =>
    have li := (List.getElem?_eq_some_iff.mp e).1
    cases sl with
    | none => rw [e] at h; exact ⟨li, fun o (z : OwnAt ρ i true o) => (by rw [OwnAt, e] at z; cases z), (by simp), h⟩
    | some x =>
      cases x with
      | val d => rw [e] at h; exact ⟨li, fun o (z : OwnAt ρ i true o) => (by rw [OwnAt, e] at z; cases z), (by simp), h⟩
      | own io o =>
        cases io with
        | true => rw [e] at h; exact h.elim
        | false => rw [e] at h; exact ⟨li, fun o (z : OwnAt ρ i true o) => (by rw [OwnAt, e] at z; cases z), (by simp), h⟩
      | lck => rw [e] at h; exact h.elim
theorem PostS.set (S : Sim K ρ σ Hf H) {i : Nat} {d : D} {v : V} (r : Rp K Hf v d) (li : i < ρ.length) (n1 : ∀ o, ¬ OwnAt ρ i true o) (n2 : ρ[i]? ≠ some (some .lck)) : PostS K ρ σ Hf H (ρ.set i (some (.val d))) (σ.set i (some v)) Hf H where
  sim := S.set r li
  gr := .refl
  own := fun a ⟨j, io, o, e, e'⟩ => by
    have hj : i ≠ j := fun z => by subst z; rw [OwnAt, List.getElem?_set_self li] at e; cases e
    rw [OwnAt, List.getElem?_set_ne hj] at e
    rw [List.getElem?_set_ne hj] at e'
    exact .inl ⟨j, io, o, e, e'⟩
  io := fun j o e => by
    have hj : i ≠ j := fun z => by subst z; exact n1 o e
    exact ⟨⟨o, by rw [OwnAt, List.getElem?_set_ne hj]; exact e⟩, List.getElem?_set_ne hj⟩
  lk := fun j e => by
    have hj : i ≠ j := fun z => by subst z; exact n2 e
    exact ⟨by rw [List.getElem?_set_ne hj]; exact e, List.getElem?_set_ne hj⟩
/-! ### targets -/
def gAll : List Nat → TGs
  | [] => gNil
  | i :: is => gCons (gName i) (gAll is)
def gTg (K : PySem.W.Frag) : Tg → TG
  | .nm i => gName i
  | .tup is => gTup K is.length (gAll is)
def Tg.slots : Tg → List Nat
  | .nm i => [i]
  | .tup is => is
def OnlyE (is : List Nat) (ρ ρ' : Env) : Prop := ρ'.length = ρ.length ∧ ∀ j : Nat, j ∉ is → ρ'[j]? = ρ[j]?
/-- stored slots are elsewhere the same -/
def Only (is : List Nat) (σ σ' : L2.St) : Prop := σ'.length = σ.length ∧ ∀ j, j ∉ is → σ'[j]? = σ[j]?
theorem all_reads : ∀ {is : List Nat} {ds : List D} {vs : List V} {ρ : Env} {σ : L2.St} {C : Unit → Env → Prop} {Q : L2.St → Hp → Prop}, Sim K ρ σ Hf H → Rps K Hf vs ds → Run (setAll is ds) ρ C E →
    (∀ ρ2 σ2, PostS K ρ σ Hf H ρ2 σ2 Hf H → Only is σ σ2 → OnlyE is ρ ρ2 → C () ρ2 → Q σ2 H) → gAll is vs σ H Q
  | [], [], vs, ρ, σ, C, Q, S, r, h, q => by
    cases r
    exact ⟨rfl, q ρ σ (.refl S) ⟨rfl, fun _ _ => rfl⟩ ⟨rfl, fun _ _ => rfl⟩ h⟩
  | i :: is, d :: ds, vs, ρ, σ, C, Q, S, r, h, q => by
    cases r with
    | cons a t =>
      obtain ⟨li, n1, n2, h⟩ := setSlot_run h.bind
      have p := PostS.set S a li n1 n2
      refine ⟨_, _, rfl, all_reads p.sim t h fun ρ2 σ2 p2 o oe c => q ρ2 σ2 (p.trans p2) ⟨by rw [o.1, List.length_set], fun j hj => ?_⟩ ⟨by rw [oe.1, List.length_set], fun j hj => ?_⟩ c⟩
      · rw [o.2 j fun z => hj (List.mem_cons_of_mem _ z), List.getElem?_set_ne fun z => hj (by subst z; exact List.mem_cons_self)]
      · rw [oe.2 j fun z => hj (List.mem_cons_of_mem _ z), List.getElem?_set_ne fun z => hj (by subst z; exact List.mem_cons_self)]
  | [], _ :: _, _, _, _, _, _, _, _, h, _ => by exact (h : False).elim
  | _ :: _, [], _, _, _, _, _, _, _, h, _ => by exact (h : False).elim
theorem tg_reads {t : Tg} {d : D} {v : V} {C : Unit → Env → Prop} {Q : L2.St → Hp → Prop} (S : Sim K ρ σ Hf H) (r : Rp K Hf v d) (h : Run (bindT t d) ρ C E)
    (q : ∀ ρ2 σ2, PostS K ρ σ Hf H ρ2 σ2 Hf H → Only t.slots σ σ2 → OnlyE t.slots ρ ρ2 → C () ρ2 → Q σ2 H) : gTg K t v σ H Q := by
  cases t with
  | nm i =>
    obtain ⟨li, n1, n2, h⟩ := setSlot_run (show Run (setSlot i (.val d)) ρ C E from h)
    exact q _ _ (PostS.set S r li n1 n2) ⟨List.length_set, fun j hj => List.getElem?_set_ne fun z => hj (by subst z; exact List.mem_cons_self)⟩ ⟨List.length_set, fun j hj => List.getElem?_set_ne fun z => hj (by subst z; exact List.mem_cons_self)⟩ h
  | tup is =>
    cases d with
    | tup ds =>
      cases r with
      | tup a b =>
        have hl : ds.length = is.length := by
          have : ∀ {is : List Nat} {ds : List D} {ρ : Env} {C : Unit → Env → Prop}, Run (setAll is ds) ρ C E → ds.length = is.length := by
            intro is
            induction is with
            | nil => intro ds ρ C h; cases ds with
              | nil => rfl
              | cons _ _ => exact (h : False).elim
            | cons i is ih => intro ds ρ C h; cases ds with
              | nil => exact (h : False).elim
              | cons d ds => rw [List.length_cons, List.length_cons, ih (setSlot_run h.bind).2.2.2]
          exact this h
        exact ⟨_, _, rfl, Evl.ex_t S.sub a, by rw [b.length, hl], all_reads S b h q⟩
    | _ => exact (h : False).elim
/-! ### wiped slots -/
theorem wipeE_len (ρ : Env) : ∀ is : List Nat, (wipeE ρ is).length = ρ.length
  | [] => rfl
  | i :: is => by show ((wipeE ρ is).set i none).length = _; rw [List.length_set, wipeE_len ρ is]
theorem wipeE_get (ρ : Env) (j : Nat) : ∀ is : List Nat, (wipeE ρ is)[j]? = if j ∈ is ∧ j < ρ.length then some none else ρ[j]?
  | [] => by simp [wipeE]
  | i :: is => by
    show ((wipeE ρ is).set i none)[j]? = _
    rw [List.getElem?_set, wipeE_len, wipeE_get ρ j is]
    by_cases h : i = j
    · subst h
      by_cases hl : i < ρ.length
      · simp [hl]
      · simp [hl]
    · have h' : ¬ j = i := fun z => h z.symm
      simp [h, h']
theorem wipe_get {σ : L2.St} (j : Nat) : ∀ is : List Nat, (L2.wipe σ is)[j]? = if j ∈ is ∧ j < σ.length then some none else σ[j]?
  | [] => by simp [L2.wipe]
  | i :: is => by
    show ((L2.wipe σ is).set i none)[j]? = _
    rw [List.getElem?_set, wipe_length, wipe_get j is]
    by_cases h : i = j
    · subst h
      by_cases hl : i < σ.length
      · simp [hl]
      · simp [hl]
    · have h' : ¬ j = i := fun z => h z.symm
      simp [h, h']
theorem wipeE_twice (ρ : Env) (is : List Nat) : wipeE (wipeE ρ is) is = wipeE ρ is := by
  refine List.ext_getElem? fun j => ?_
  rw [wipeE_get, wipeE_len, wipeE_get]
  by_cases h : j ∈ is ∧ j < ρ.length
  · simp [h]
  · simp [h]
theorem wipe_only {is own : List Nat} {σ0 σ σ' : L2.St} (h0 : σ = L2.wipe σ0 own) (h : Only is σ σ') (hs : ∀ i ∈ is, i ∈ own) : L2.wipe σ' own = L2.wipe σ own := by
  refine List.ext_getElem? fun j => ?_
  rw [wipe_get, wipe_get, h.1]
  by_cases hj : j ∈ own
  · by_cases hl : j < σ.length
    · simp [hj, hl]
    · simp only [hj, hl, and_false, if_false]
      rw [List.getElem?_eq_none (by rw [h.1]; omega), List.getElem?_eq_none (by omega)]
  · simp only [hj, false_and, if_false]
    exact h.2 j fun z => hj (hs j z)
theorem wipe_wipe (σ : L2.St) (own : List Nat) : L2.wipe (L2.wipe σ own) own = L2.wipe σ own := by
  refine List.ext_getElem? fun j => ?_
  rw [wipe_get, wipe_length, wipe_get]
  by_cases h : j ∈ own ∧ j < σ.length
  · simp [h]
  · simp [h]
/-- wiped: in the block -/
theorem Sim.wipe (S : Sim K ρ σ Hf H) (own : List Nat) : Sim K (wipeE ρ own) (L2.wipe σ own) Hf H := by
  have at_ : ∀ {j : Nat} {x : SV}, (wipeE ρ own)[j]? = some (some x) → ρ[j]? = some (some x) ∧ (L2.wipe σ own)[j]? = σ[j]? := by
    intro j x e
    rw [wipeE_get] at e
    split at e
    · cases e
    · rename_i h
      refine ⟨e, ?_⟩
      rw [wipe_get, if_neg]
      rw [← S.len]
      exact h
  refine ⟨by rw [wipeE_len, wipe_length, S.len], S.sub, fun i d e => ?_, fun i io o e => ?_, fun i j io o io' o' a e1 e2 e3 e4 => ?_⟩
  · obtain ⟨e1, e2⟩ := at_ e
    rw [e2]; exact S.val i d e1
  · obtain ⟨e1, e2⟩ := at_ e
    rw [e2]; exact S.own i io o e1
  · obtain ⟨a1, a2⟩ := at_ e1
    obtain ⟨b1, b2⟩ := at_ e2
    rw [a2] at e3
    rw [b2] at e4
    exact S.inj i j io o io' o' a a1 b1 e3 e4
theorem Ow.wipe (S : Sim K ρ σ Hf H) {own : List Nat} {a : Addr} (h : Ow (wipeE ρ own) (L2.wipe σ own) a) : Ow ρ σ a := by
  obtain ⟨i, io, o, e, e'⟩ := h
  rw [OwnAt, wipeE_get] at e
  split at e
  · cases e
  · rename_i hh
    rw [wipe_get, if_neg (by rw [← S.len]; exact hh)] at e'
    exact ⟨i, io, o, e, e'⟩
/-! ### what is walked -/
structure Wk (K : PySem.W.Frag) (J : It) (vs : List V) (Stb : Hp → Prop) : Prop where
  go : ∀ i G, Stb G → i < vs.length → J.go i G
  yl : ∀ i G x G', Stb G → i < vs.length → J.yld i G x G' → G' = G ∧ vs[i]? = some x
  st : ∀ G, Stb G → J.stop vs.length G
theorem wk_list {a : Addr} {vs : List V} : Wk K (Itl K a) vs (fun G => SqL K G a vs) where
  go := fun i G s h => ⟨vs, vs[i], s, List.getElem?_eq_getElem h⟩
  yl := fun i G x G' s h ⟨e, q⟩ => ⟨e, q vs s⟩
  st := fun G s => ⟨vs, s, Nat.le_refl _⟩
theorem wk_tup {a : Addr} {vs : List V} : Wk K (Itt K a) vs (fun G => SqT K G a vs) where
  go := fun i G s h => ⟨vs, vs[i], s, List.getElem?_eq_getElem h⟩
  yl := fun i G x G' s h ⟨e, q⟩ => ⟨e, q vs s⟩
  st := fun G s => ⟨vs, s, Nat.le_refl _⟩
theorem wk_str {s : List Nat} : Wk K (Its (txt s)) (s.map fun c => V.str (txt [c])) (fun _ => True) where
  go := fun i G _ h => by
    show i < s.toArray.size
    rw [List.size_toArray]
    rw [List.length_map] at h
    exact h
  yl := fun i G x G' _ h ⟨e, c, q, ex⟩ => by
    refine ⟨e, ?_⟩
    have q' : (txt s).cps.toList[i]? = some c := by rw [Array.getElem?_toList]; exact q
    rw [txt_cps] at q'
    rw [List.getElem?_map, q', ex]
    rfl
  st := fun G _ => by
    show s.toArray.size ≤ _
    rw [List.size_toArray, List.length_map]
    exact Nat.le_refl _
theorem rangeD_vals (lo hi : Int) (G : Hp) : Rps K G ((List.range (hi - lo).toNat).map fun n : Nat => V.int (lo + (n : Int))) (rangeD lo hi) := by
  unfold rangeD
  generalize List.range (hi - lo).toNat = l
  induction l with
  | nil => exact .nil
  | cons x r ih => exact .cons (.int _) ih
theorem wk_rng {lo : Int} {m : Nat} : Wk K (Itr lo m) ((List.range m).map fun n : Nat => V.int (lo + (n : Int))) (fun _ => True) where
  go := fun i G _ h => by rw [List.length_map, List.length_range] at h; exact h
  yl := fun i G x G' _ h ⟨e, ex⟩ => by
    rw [List.length_map, List.length_range] at h
    refine ⟨e, ?_⟩
    rw [List.getElem?_map, List.getElem?_range h, ex]
    rfl
  st := fun G _ => by show m ≤ _; rw [List.length_map, List.length_range]; exact Nat.le_refl _
end
end Itp
end
section
set_option Elab.async false
set_option linter.all false
set_option maxRecDepth 100000
set_option maxHeartbeats 4000000
set_option autoImplicit false
/-! The loop of a comprehension. -/
namespace Itp
open PySem PySem.Spec PyProof.Rows L2
open Evl (Ex)
/-- within a block nothing is raised -/
def W0 : WX := fun _ _ _ _ => False
section
variable {K : PySem.W.Frag} {ρ ρ' ρ1 : Env} {σ : L2.St} {Hf H Hf' H' : Hp} {W : WX} {ec : EC} {E : Exn → Env → Prop}
theorem Sim.upd (S : Sim K ρ σ Hf H) {L : Addr} {o : HO} (nD : Hf L = none) (no : ¬ Ow ρ σ L) : Sim K ρ σ Hf (upd H L o) where
  len := S.len
  sub := sub_new S.sub nD
  val := S.val
  own := fun i io ob e => by
    obtain ⟨a, e1, e2, e3⟩ := S.own i io ob e
    have : a ≠ L := fun z => no (z ▸ ⟨i, io, ob, e, e1⟩)
    exact ⟨a, e1, e2, e3.mono (fun _ _ h => h) fun u hu => by rw [upd_ne this]; exact hu⟩
  inj := S.inj
theorem Grow.updAt {O : Addr → Prop} {L : Addr} {o : HO} (h : O L) : Grow O Hf H Hf (upd H L o) := by
  refine ⟨fun _ _ e => e, fun a u e n => ?_, fun a e => .inl e, fun a e => ?_⟩
  · have : a ≠ L := fun z => n (by rw [z]; exact h)
    rw [upd_ne this]; exact e
  · by_cases z : a = L
    · subst z; rw [upd_same]; simp
    · rw [upd_ne z]; exact e
structure Blk (K : PySem.W.Frag) (σb : L2.St) (ρb : Env) (Hf1 H1 : Hp) (L : Addr) (acc : List D) (accv : List V) (ρ' : Env) (Hf' G' : Hp) : Prop where
  sim : Sim K ρ' σb Hf' G'
  gr : Grow (fun a => Ow ρb σb a ∨ a = L) Hf1 (upd H1 L (.lst [])) Hf' G'
  own : ∀ (i : Nat) (io : Bool), (∃ o, OwnAt ρb i io o) ↔ (∃ o, OwnAt ρ' i io o)
  lk : ∀ i : Nat, ρb[i]? = some (some .lck) → ρ'[i]? = some (some .lck)
  ls : G' L = some (.lst accv)
  acc : Rps K Hf' accv acc
  nd : Hf' L = none
theorem lcL_wipe {own : List Nat} {bt : D → M Unit} {cond : M Bool} {elt : M D} {acc xs : List D} {C : List D → Env → Prop} (h : Run (lcL own bt cond elt acc xs) ρ C E) : Run (lcL own bt cond elt acc xs) (wipeE ρ own) C E := by
  cases xs with
  | nil =>
    have h' : C acc (wipeE ρ own) := h
    show C acc (wipeE (wipeE ρ own) own)
    rw [wipeE_twice]; exact h'
  | cons x xs =>
    have e : wipeM own (wipeE ρ own) = wipeM own ρ := by unfold wipeM; rw [wipeE_twice]
    unfold Run at h ⊢
    rw [show lcL own bt cond elt acc (x :: xs) (wipeE ρ own) = lcL own bt cond elt acc (x :: xs) ρ from by
      show M.bind (wipeM own) _ _ = M.bind (wipeM own) _ _
      unfold M.bind
      rw [e]]
    exact h
theorem lc_loop {own : List Nat} {t : Tg} {fc : M Bool} {fe : M R} {tt : TT} {ds : List D} {vs : List V} {J : It} {Stb : Hp → Prop} {Cc : List D → Env → Prop} {Q : VK} (S : Sim K ρ σ Hf H) (ts : ∀ i ∈ t.slots, i ∈ own)
    (r : Rps K Hf vs ds) (wk : Wk K J vs Stb) (hst : ∀ L Hf' G', H L = none → Grow (fun a => Ow (wipeE ρ own) (L2.wipe σ own) a ∨ a = L) Hf (upd H L (.lst [])) Hf' G' → Ex Hf' G' → Stb G')
    (htt : ∀ σ2 G2 Qb, tMT W0 ec K fc σ2 G2 Qb → tt σ2 G2 Qb)
    (hr : Run (lcL own (bindT t) fc (datM fe) [] ds) (wipeE ρ own) Cc (fun _ _ => False))
    (hq : ∀ accD ρ', Cc accD ρ' → ∀ L accv Hf' G', H L = none → Blk K (L2.wipe σ own) (wipeE ρ own) Hf H L accD accv ρ' Hf' G' → Q (.ref L) G') :
    ∀ L, H L = none → ∃ Wv : Nat → Nat → Hp → Prop, (∃ m, Wv 0 m (upd H L (.lst []))) ∧ ∀ i m G, Wv i m G →
      (J.stop i G ∧ Q (.ref L) G) ∨ (J.go i G ∧ ∃ Nx : Hp → Prop, (∀ H', Nx H' → ∃ m', m' < m ∧ Wv (i + 1) m' H') ∧ ∀ x H', J.yld i G x H' → gTg K t x (L2.wipe σ own) H' fun σ2 H2 => L2.wipe σ2 own = L2.wipe σ own ∧ tt σ2 H2 fun b H3 =>
        if b = true then tM W0 ec K fe σ2 H3 fun y H4 => ∃ acc, H4 L = some (.lst acc) ∧ acc.length < sizeLine ∧ Nx (upd H4 L (.lst (acc ++ [y]))) else Nx H3) := by
  intro L hD
  have nb : Hf L = none := Evl.fresh_back S.sub hD
  have Sb := S.wipe own
  have nob : ¬ Ow (wipeE ρ own) (L2.wipe σ own) L := fun z => (Sb.ow_some z).1 hD
  refine ⟨fun i m G => i + m = ds.length ∧ ∃ acc accv ρ' Hf', Blk K (L2.wipe σ own) (wipeE ρ own) Hf H L acc accv ρ' Hf' G ∧ Run (lcL own (bindT t) fc (datM fe) acc (ds.drop i)) ρ' Cc (fun _ _ => False), ⟨ds.length, Nat.zero_add _, [], [], wipeE ρ own, Hf, ⟨Sb.upd nb nob, .refl, fun _ _ => Iff.rfl, fun _ h => h, upd_same, .nil, nb⟩, hr⟩, fun i m G hW => ?_⟩
  obtain ⟨him, acc, accv, ρ', Hf', B, hrun⟩ := hW
  have stb := hst L Hf' G hD B.gr B.sim.sub
  have no' : ¬ Ow ρ' (L2.wipe σ own) L := fun ⟨j, io, o, e, e'⟩ => let ⟨o', w⟩ := (B.own j io).mpr ⟨o, e⟩; nob ⟨j, io, o', w, e'⟩
  have ow' : ∀ a, Ow ρ' (L2.wipe σ own) a → Ow (wipeE ρ own) (L2.wipe σ own) a := fun a ⟨j, io, o, e, e'⟩ => let ⟨o', w⟩ := (B.own j io).mpr ⟨o, e⟩; ⟨j, io, o', w, e'⟩
  have hl := r.length
  by_cases hi : i < ds.length
  · refine .inr ⟨wk.go i G stb (by rw [hl]; exact hi), fun G' => i + 1 + (m - 1) = ds.length ∧ ∃ acc accv ρ' Hf', Blk K (L2.wipe σ own) (wipeE ρ own) Hf H L acc accv ρ' Hf' G' ∧ Run (lcL own (bindT t) fc (datM fe) acc (ds.drop (i + 1))) ρ' Cc (fun _ _ => False), fun G' hN => ⟨m - 1, by omega, hN⟩, fun x G1 hy => ?_⟩
    obtain ⟨rfl, ex⟩ := wk.yl i G x G1 stb (by rw [hl]; exact hi) hy
    have ed : ds.drop i = ds[i] :: ds.drop (i + 1) := List.drop_eq_getElem_cons hi
    rw [ed] at hrun
    have h1 : Run (M.bind (bindT t ds[i]) fun _ => M.bind fc fun c => if c then M.bind (datM fe) fun d => (if acc.length < lim then lcL own (bindT t) fc (datM fe) (acc ++ [d]) (ds.drop (i + 1)) else M.stuck) else lcL own (bindT t) fc (datM fe) acc (ds.drop (i + 1))) (wipeE ρ' own) Cc (fun _ _ => False) := hrun.bind
    obtain ⟨v0, ev0, rv0⟩ := r.get (List.getElem?_eq_getElem hi)
    rw [ex] at ev0
    cases ev0
    have Sw : Sim K (wipeE ρ' own) (L2.wipe σ own) Hf' G1 := by have := B.sim.wipe own; rw [wipe_wipe] at this; exact this
    refine tg_reads Sw (Rp.mono B.gr.ex _ _ rv0) h1.bind fun ρ2 σ2 p2 o2 oe2 h2 => ⟨?_, ?_⟩
    · rw [wipe_only rfl o2 ts, wipe_wipe]
    have wσ2 : L2.wipe σ2 own = L2.wipe σ own := by rw [wipe_only rfl o2 ts, wipe_wipe]
    -- from here to the turn's end
    have done : ∀ {ρ4 : Env} {Hf4 G4 : Hp} {acc4 : List D} {accv4 : List V} {G5 : Hp}, Post K σ2 ρ2 Hf' G1 ρ4 Hf4 G4 → (G5 = G4 ∨ G5 = upd G4 L (.lst accv4)) → G5 L = some (.lst accv4) → Rps K Hf4 accv4 acc4 →
        Run (lcL own (bindT t) fc (datM fe) acc4 (ds.drop (i + 1))) ρ4 Cc (fun _ _ => False) →
        ∃ acc accv ρ' Hf', Blk K (L2.wipe σ own) (wipeE ρ own) Hf H L acc accv ρ' Hf' G5 ∧ Run (lcL own (bindT t) fc (datM fe) acc (ds.drop (i + 1))) ρ' Cc (fun _ _ => False) := by
      intro ρ4 Hf4 G4 acc4 accv4 G5 p4 hG e5 r5 h5
      have ow2 : ∀ a, Ow ρ2 σ2 a → Ow (wipeE ρ own) (L2.wipe σ own) a ∨ G1 a = none := fun a z => by
        rcases p2.own a z with q | q
        · refine .inl (ow' a ?_)
          have := Ow.wipe (σ := L2.wipe σ own) (own := own) B.sim (a := a) (by rw [wipe_wipe]; exact q)
          exact this
        · exact .inr q
      have g4 : Grow (fun a => Ow (wipeE ρ own) (L2.wipe σ own) a ∨ a = L) Hf (upd H L (.lst [])) Hf4 G4 := B.gr.trans p4.gr fun a z => by
        rcases ow2 a z with q | q
        · exact .inl (.inl q)
        · exact .inr (B.gr.back q)
      have n2 : ¬ Ow ρ2 σ2 L := fun z => by
        rcases ow2 L z with q | q
        · exact nob q
        · rw [B.ls] at q; cases q
      have nd4 : Hf4 L = none := by
        cases q : Hf4 L with
        | none => rfl
        | some u =>
          rcases p4.gr.fz L (by rw [q]; simp) with z | z | z
          · exact absurd B.nd z
          · rw [B.ls] at z; cases z
          · exact absurd z n2
      have S4 : Sim K (wipeE ρ4 own) (L2.wipe σ own) Hf4 G4 := by have := p4.sim.wipe own; rw [wσ2] at this; exact this
      have own4 : ∀ (j : Nat) (io : Bool), (∃ o, OwnAt (wipeE ρ own) j io o) ↔ (∃ o, OwnAt (wipeE ρ4 own) j io o) := fun j io => by
        have l1 : ρ4.length = ρ2.length := p4.sim.len.trans p2.sim.len.symm
        have l2 : ρ2.length = ρ'.length := by rw [oe2.1, wipeE_len]
        have l3 : ρ'.length = ρ.length := by rw [B.sim.len, ← Sb.len, wipeE_len]
        by_cases hj : j ∈ own
        · have a1 : ∀ {ρx : Env} {o : Ob}, ¬ OwnAt (wipeE ρx own) j io o := fun {ρx o} e => by
            rw [OwnAt, wipeE_get] at e
            split at e
            · cases e
            · rename_i hh
              rw [List.getElem?_eq_none (by simp only [hj, true_and] at hh; omega)] at e
              cases e
          exact ⟨fun ⟨o, e⟩ => (a1 e).elim, fun ⟨o, e⟩ => (a1 e).elim⟩
        · have w : ∀ ρx : Env, (wipeE ρx own)[j]? = ρx[j]? := fun ρx => by rw [wipeE_get, if_neg]; exact fun z => hj z.1
          have e2 : ρ2[j]? = ρ'[j]? := by rw [oe2.2 j fun z => hj (ts j z), w]
          rw [(B.own j io)]
          refine Iff.trans ?_ (Iff.trans (p4.own j io) ?_)
          · unfold OwnAt; rw [e2]
          · unfold OwnAt; rw [w]
      have lk4 : ∀ j : Nat, (wipeE ρ own)[j]? = some (some .lck) → (wipeE ρ4 own)[j]? = some (some .lck) := fun j e => by
        by_cases hj : j ∈ own
        · rw [wipeE_get] at e
          split at e
          · cases e
          · rename_i hh
            rw [List.getElem?_eq_none (by simp only [hj, true_and] at hh; omega)] at e
            cases e
        · have w : ∀ ρx : Env, (wipeE ρx own)[j]? = ρx[j]? := fun ρx => by rw [wipeE_get, if_neg]; exact fun z => hj z.1
          rw [w]
          exact p4.lk j (by rw [oe2.2 j fun z => hj (ts j z), w]; exact B.lk j e)
      have n4 : ¬ Ow (wipeE ρ4 own) (L2.wipe σ own) L := fun ⟨j, io, o, e, e'⟩ => let ⟨o', w⟩ := (own4 j io).mpr ⟨o, e⟩; nob ⟨j, io, o', w, e'⟩
      refine ⟨acc4, accv4, wipeE ρ4 own, Hf4, ⟨?_, ?_, own4, lk4, e5, r5, nd4⟩, lcL_wipe h5⟩
      · rcases hG with z | z
        · rw [z]; exact S4
        · rw [z]; exact S4.upd nd4 n4
      · rcases hG with z | z
        · rw [z]; exact g4
        · rw [z]; exact g4.trans (Grow.updAt (O := fun a => a = L) rfl) fun a q => .inl (.inr q)
    have keepD : ∀ {ρ4 : Env} {Hf4 G4 : Hp}, Post K σ2 ρ2 Hf' G1 ρ4 Hf4 G4 → G4 L = some (.lst accv) := fun {ρ4 Hf4 G4} p4 => p4.gr.fr L _ B.ls fun z => by
      rcases p2.own L z with q | q
      · refine no' ?_
        exact Ow.wipe (σ := L2.wipe σ own) (own := own) B.sim (by rw [wipe_wipe]; exact q)
      · rw [B.ls] at q; cases q
    refine htt σ2 G1 _ ⟨ρ2, Hf', p2.sim, h2.bind.imp (fun b ρ3 h3 Hf3 G3 p3 => ?_) fun x ρ3 z => z.elim⟩
    cases b with
    | false =>
      refine (if_neg Bool.false_ne_true).mpr ?_
      exact ⟨by omega, done p3 (.inl rfl) (keepD p3) (Rps.mono p3.gr.ex _ _ B.acc) h3⟩
    | true =>
      refine (if_pos rfl).mpr ?_
      refine ⟨ρ3, Hf3, p3.sim, ((h3 : Run (M.bind (datM fe) _) ρ3 Cc _).bind.bind).imp (fun rr ρ4 h4 y Hf4 G4 p4 ry => ?_) fun x ρ4 z => z.elim⟩
      obtain ⟨d, ed2, h5⟩ := h4.of
      obtain ⟨Hf5, p5, ex5, ry5⟩ := RRel.dat (p4) p3.sim ry ed2
      have hz : acc.length < lim := by
        by_cases hz : acc.length < lim
        · exact hz
        · rw [if_neg hz] at h5; exact (h5 : False).elim
      rw [if_pos hz] at h5
      have p35 := p3.trans p5
      have r5 : Rps K Hf5 (accv ++ [y]) (acc ++ [d]) := (Rps.mono p35.gr.ex _ _ B.acc).append (.cons ry5 .nil)
      exact ⟨accv, keepD p35, by rw [B.acc.length, line_lim]; exact hz, by omega, done p35 (.inr rfl) upd_same r5 h5⟩
  · have ei : i = ds.length := by omega
    rw [List.drop_eq_nil_of_le (by omega)] at hrun
    have hc : Cc acc (wipeE ρ' own) := hrun
    refine .inl ⟨by rw [ei, ← hl]; exact wk.st G stb, hq acc _ hc L accv Hf' G hD ?_⟩
    have Sw : Sim K (wipeE ρ' own) (L2.wipe σ own) Hf' G := by have := B.sim.wipe own; rw [wipe_wipe] at this; exact this
    have same : wipeE ρ' own = ρ' ∨ True := .inr True.intro
    have at_ : ∀ j : Nat, j ∉ own → (wipeE ρ' own)[j]? = ρ'[j]? := fun j hj => by rw [wipeE_get, if_neg]; exact fun z => hj z.1
    have none_ : ∀ {ρx : Env} {j : Nat} {x : SV}, j ∈ own → (wipeE ρx own)[j]? = some (some x) → False := fun {ρx j x} hj e => by
      rw [wipeE_get] at e
      split at e
      · cases e
      · rename_i hh
        rw [List.getElem?_eq_none (by simp only [hj, true_and] at hh; omega)] at e
        cases e
    refine ⟨Sw, B.gr, fun j io => ?_, fun j e => ?_, B.ls, B.acc, B.nd⟩
    · by_cases hj : j ∈ own
      · exact ⟨fun ⟨o, e⟩ => (none_ hj e).elim, fun ⟨o, e⟩ => (none_ hj e).elim⟩
      · rw [B.own j io]
        unfold OwnAt
        rw [at_ j hj]
    · by_cases hj : j ∈ own
      · exact (none_ hj e).elim
      · rw [at_ j hj]; exact B.lk j e
end
end Itp
end
section
set_option Elab.async false
set_option linter.all false
set_option maxRecDepth 100000
set_option maxHeartbeats 4000000
set_option autoImplicit false
/-! The ways of putting meanings together, read. -/
namespace Itp
open PySem PySem.Spec PyProof.Rows L2
open Evl (Ex)
section
variable {W : WX} {ec : EC} {K : PySem.W.Frag} {σ : L2.St} {H : Hp} {ρ ρ1 ρ' : Env} {Hf Hf' H' Hf1 H1 : Hp} {fa fb fc : M R}
theorem k_reads {d : D} {v : V} (hv : ∀ Hf, Rp K Hf v d) {Q : VK} (h : tM W ec K (M.pure (.val d)) σ H Q) : tC v σ H Q := by
  obtain ⟨ρ, Hf, S, h⟩ := h
  exact h v Hf H (.refl S) (hv Hf)
theorem var_reads {i : Nat} {Q : VK} (h : tM W ec K (varM i) σ H Q) : tVar i σ H Q := by
  obtain ⟨ρ, Hf, S, h⟩ := h
  unfold Run varM at h
  cases e : ρ[i]? with
  | none => rw [e] at h; exact h.elim
  | some sl =>
    cases sl with
    | none => rw [e] at h; exact h.elim
    | some x =>
      cases x with
      | val d =>
        rw [e] at h
        obtain ⟨v, e1, r⟩ := S.val i d e
        exact ⟨v, e1, h v Hf H (.refl S) r⟩
      | own io o =>
        rw [e] at h
        obtain ⟨a, e1, _, _⟩ := S.own i io o e
        exact ⟨.ref a, e1, h (.ref a) Hf H (.refl S) ⟨a, io, o, e, e1, rfl⟩⟩
      | lck => rw [e] at h; exact h.elim
theorem neg_reads {Q : VK} (h : tM W ec K (negM fa) σ H Q) : tUn (rU fun i => .int (-i)) (tM W ec K fa) σ H Q := by
  obtain ⟨ρ, Hf, S, h⟩ := h
  refine stepM (.refl S) h fun r ρ1 v Hf1 H1 p1 _ q1 h1 => ?_
  obtain ⟨d, e, h2⟩ := h1.bind.rd
  have rd := q1.rd p1.sim e
  cases d with
  | int i => cases rd.int; exact ⟨i, rfl, h2 _ Hf1 H1 p1 (.int _)⟩
  | _ => exact (h2 : False).elim
theorem not_reads {Q : VK} (h : tM W ec K (notM fa) σ H Q) : tNotT K (tM W ec K fa) σ H Q := by
  obtain ⟨ρ, Hf, S, h⟩ := h
  refine stepM (.refl S) h fun r ρ1 v Hf1 H1 p1 _ q1 h1 => ?_
  obtain ⟨d, e, h2⟩ := h1.bind.rd
  have rd := q1.rd p1.sim e
  exact ⟨d.tru, rd.tru p1.sim.sub, h2 _ Hf1 H1 p1 (.bl _)⟩
theorem and_reads {Q : VK} (h : tM W ec K (andM fa fb) σ H Q) : tAndT K (tM W ec K fa) (tM W ec K fb) σ H Q := by
  obtain ⟨ρ, Hf, S, h⟩ := h
  refine stepM (.refl S) h fun r ρ1 v Hf1 H1 p1 _ q1 h1 => ?_
  obtain ⟨d, e, h2⟩ := h1.bind.rd
  have rd := q1.rd p1.sim e
  refine ⟨d.tru, rd.tru p1.sim.sub, ?_⟩
  cases ht : d.tru with
  | true =>
    rw [ht] at h2
    rw [if_pos rfl]
    exact lastM p1 (show Run fb ρ1 _ _ from h2) fun r2 ρ2 v2 Hf2 H2 p2 q2 c => c v2 Hf2 H2 p2 q2
  | false =>
    rw [ht] at h2
    rw [if_neg Bool.false_ne_true]
    exact h2 v Hf1 H1 p1 q1
theorem or_reads {Q : VK} (h : tM W ec K (orM fa fb) σ H Q) : tOrT K (tM W ec K fa) (tM W ec K fb) σ H Q := by
  obtain ⟨ρ, Hf, S, h⟩ := h
  refine stepM (.refl S) h fun r ρ1 v Hf1 H1 p1 _ q1 h1 => ?_
  obtain ⟨d, e, h2⟩ := h1.bind.rd
  have rd := q1.rd p1.sim e
  refine ⟨d.tru, rd.tru p1.sim.sub, ?_⟩
  cases ht : d.tru with
  | true =>
    rw [ht] at h2
    rw [if_pos rfl]
    exact h2 v Hf1 H1 p1 q1
  | false =>
    rw [ht] at h2
    rw [if_neg Bool.false_ne_true]
    exact lastM p1 (show Run fb ρ1 _ _ from h2) fun r2 ρ2 v2 Hf2 H2 p2 q2 c => c v2 Hf2 H2 p2 q2
theorem cmpR_of {o : COp} {p q : D} {t : Bool} (h : cmpD o p q = some t) : cmpR o p q = some (.val (.bl t)) := by unfold cmpR; rw [h]; rfl
theorem chn_reads {o o' : COp} {Q : VK} (h : tM W ec K (chnM fa fb fc o o') σ H Q) : tChain (rD K (cmpR o)) (rD K (cmpR o')) (tM W ec K fa) (tM W ec K fb) (tM W ec K fc) σ H Q := by
  obtain ⟨ρ, Hf, S, h⟩ := h
  refine stepM (.refl S) h fun r1 ρ1 v1 Hf1 H1 p1 _ q1 h1 => ?_
  refine stepM p1 h1 fun r2 ρ2 v2 Hf2 H2 p2 p12 q2 h2 => ?_
  obtain ⟨d1, e1, h3⟩ := h2.bind.rd
  obtain ⟨d2, e2, h4⟩ := h3.bind.rd
  obtain ⟨t, e3, h5⟩ := h4.bind.of
  have k1 := q1.keep p1.sim (fun a z => ow0 S p1 z) p12
  refine ⟨Hf2, d1, d2, _, p2.sim.sub, k1.rd p2.sim e1, q2.rd p2.sim e2, cmpR_of e3, fun v3 Hf3 H3 g3 s3 r3 => ?_⟩
  have r3' : Rp K Hf3 v3 (.bl t) := r3
  cases r3'
  have p23 : Post K σ ρ2 Hf2 H2 ρ2 Hf3 H3 := .heap p2.sim g3 s3
  have p3 := p2.trans p23
  refine ⟨t, rfl, ?_⟩
  cases t with
  | false =>
    rw [if_neg Bool.false_ne_true]
    exact h5 _ Hf3 H3 p3 (.bl _)
  | true =>
    rw [if_pos rfl]
    have h5 : Run (M.bind fc fun z => M.bind (rdM r2) fun q' => M.bind (rdM z) fun r => M.of ((cmpR o' q' r).map RV.r)) ρ2 _ _ := h5
    have k2 := q2.keep p2.sim (fun a z => ow0 S p2 z) p23
    refine stepM p3 h5 fun r4 ρ4 v4 Hf4 H4 p4 p34 q4 h6 => ?_
    obtain ⟨d3, e4, h7⟩ := h6.bind.rd
    obtain ⟨d4, e5, h8⟩ := h7.bind.rd
    obtain ⟨r, e6, h9⟩ := h8.of
    have k3 := k2.keep p3.sim (fun a z => ow0 S p3 z) p34
    cases e7 : cmpR o' d3 d4 with
    | none => rw [e7] at e6; cases e6
    | some rv =>
      rw [e7] at e6
      cases e6
      exact ⟨Hf4, d3, d4, rv, p4.sim.sub, k3.rd p4.sim e4, q4.rd p4.sim e5, e7, NEnd.of p4 h9⟩
theorem if_reads {ft : M Bool} {Q : VK} (h : tM W ec K (ifM ft fa fb) σ H Q) : tIf (tMT W ec K ft) (tM W ec K fa) (tM W ec K fb) σ H Q := by
  obtain ⟨ρ, Hf, S, h⟩ := h
  refine stepT (.refl S) h fun b ρ1 Hf1 H1 p1 h1 => ?_
  cases b with
  | true =>
    rw [if_pos rfl]
    exact lastM p1 (show Run fa ρ1 _ _ from h1) fun r2 ρ2 v2 Hf2 H2 p2 q2 c => c v2 Hf2 H2 p2 q2
  | false =>
    rw [if_neg Bool.false_ne_true]
    exact lastM p1 (show Run fb ρ1 _ _ from h1) fun r2 ρ2 v2 Hf2 H2 p2 q2 c => c v2 Hf2 H2 p2 q2
theorem tup_reads {fs : M (List AR)} {Q : VK} (h : tM W ec K (tupM fs) σ H Q) : tTup (tMA W ec K fs) σ H Q := by
  obtain ⟨ρ, Hf, S, h⟩ := h
  refine stepA (.refl S) h fun as ρ1 vs Hf1 H1 p1 _ q1 h1 => ?_
  obtain ⟨ds, e1, h2⟩ := h1.bind.of
  have r := q1.dat e1
  by_cases hz : ds.length ≤ lim
  · rw [if_pos hz] at h2
    exact ⟨by rw [r.length, line_lim]; exact hz, fun p np => NEnd.newT (NEnd.of (r := .val (.tup ds)) p1 h2) p1.sim.sub np r⟩
  · rw [if_neg hz] at h2
    exact (h2 : False).elim
theorem lst_reads {fs : M (List AR)} {Q : VK} (h : tM W ec K (lstM fs) σ H Q) : tLst (tMA W ec K fs) σ H Q := by
  obtain ⟨ρ, Hf, S, h⟩ := h
  refine stepA (.refl S) h fun as ρ1 vs Hf1 H1 p1 _ q1 h1 => ?_
  obtain ⟨ds, e1, h2⟩ := h1.bind.of
  have r := q1.dat e1
  by_cases hz : ds.length ≤ lim
  · rw [if_pos hz] at h2
    exact ⟨by rw [r.length, line_lim]; exact hz, fun p np => NEnd.newL (NEnd.of (r := .own (.lst ds)) p1 h2) p1.sim.sub np r⟩
  · rw [if_neg hz] at h2
    exact (h2 : False).elim
theorem sl_reads {fl fh : M (Option Int)} {Q : VK} (h : tM W ec K (slM fa fl fh) σ H Q) : L2.tSl (rSlD K) (tM W ec K fa) (tMO W ec K fl) (tMO W ec K fh) σ H Q := by
  obtain ⟨ρ, Hf, S, h⟩ := h
  refine stepM (.refl S) h fun r1 ρ1 v1 Hf1 H1 p1 _ q1 h1 => ?_
  refine stepO p1 h1 fun l ρ2 Hf2 H2 p2 p12 h2 => ?_
  refine stepO p2 h2 fun u ρ3 Hf3 H3 p3 p23 h3 => ?_
  obtain ⟨d1, e1, h4⟩ := h3.bind.rd
  obtain ⟨r, e3, h5⟩ := h4.of
  have k1 := q1.keep p1.sim (fun a z => ow0 S p1 z) (p12.trans p23)
  cases e4 : slD d1 l u with
  | none => rw [e4] at e3; cases e3
  | some rv =>
    rw [e4] at e3
    cases e3
    exact ⟨Hf3, d1, rv, p3.sim.sub, k1.rd p3.sim e1, e4, NEnd.of p3 h5⟩
theorem rev_reads {Q : VK} (h : tM W ec K (revM fa) σ H Q) : tRevL K (tM W ec K fa) σ H Q := by
  obtain ⟨ρ, Hf, S, h⟩ := h
  refine stepM (.refl S) h fun r ρ1 v Hf1 H1 p1 _ q1 h1 => ?_
  obtain ⟨d, e, h2⟩ := h1.bind.rd
  have rd := q1.rd p1.sim e
  cases d with
  | lst xs =>
    obtain ⟨a, vs, rfl, e1, r1⟩ := rd
    exact ⟨a, vs, rfl, SqL_of e1, fun p np => NEnd.newL (NEnd.of (r := .own (.lst xs.reverse)) p1 h2) p1.sim.sub np r1.reverse⟩
  | _ => exact (h2 : False).elim
theorem isi_reads {t : Ty} {Q : VK} (h : tM W ec K (isiM fa t) σ H Q) : tCB (rIsi K) (tCons (tM W ec K fa) (tCons (tC (.ty (tyN t))) tNil)) σ H Q := by
  obtain ⟨ρ, Hf, S, h⟩ := h
  refine stepM (.refl S) h fun r ρ1 v Hf1 H1 p1 _ q1 h1 => ?_
  obtain ⟨d, e, h2⟩ := h1.bind.rd
  have rd := q1.rd p1.sim e
  exact ⟨v, .ty (tyN t), _, _, tyD t d, rfl, .ty _, rd.tyx p1.sim.sub, kit_all t d, h2 _ Hf1 H1 p1 (.bl _)⟩
theorem nil_reads {Q : List V → Hp → Prop} (h : tMA W ec K (M.pure []) σ H Q) : tNil σ H Q := by
  obtain ⟨ρ, Hf, S, h⟩ := h
  exact h [] Hf H (.refl S) .nil
theorem cons_reads {fs : M (List AR)} {Q : List V → Hp → Prop} (h : tMA W ec K (consA fa fs) σ H Q) : tCons (tM W ec K fa) (tMA W ec K fs) σ H Q := by
  obtain ⟨ρ, Hf, S, h⟩ := h
  refine stepM (.refl S) h fun r ρ1 v Hf1 H1 p1 _ q1 h1 => ?_
  obtain ⟨ar, e1, h2⟩ := h1.bind.of
  obtain ⟨Hf2, p2, ex2, ar2⟩ := q1.arg p1 S e1
  refine stepA p2 h2 fun as ρ3 vs Hf3 H3 p3 p23 q3 h3 => ?_
  have k : ARsRel K σ ρ3 Hf3 [ar] [v] := ARsRel.keep p23 (.cons ar2 .nil)
  cases k with
  | cons k1 _ => exact h3 (v :: vs) Hf3 H3 p3 (.cons k1 q3)
theorem no_reads {Q : Option Int → Hp → Prop} (h : tMO W ec K (M.pure none) σ H Q) : tNoPart σ H Q := by
  obtain ⟨ρ, Hf, S, h⟩ := h
  exact h Hf H (.refl S)
theorem part_reads {Q : Option Int → Hp → Prop} (h : tMO W ec K (M.bind fa fun x => M.bind (rdM x) intM) σ H Q) : tPart (tM W ec K fa) σ H Q := by
  obtain ⟨ρ, Hf, S, h⟩ := h
  refine stepM (.refl S) h fun r ρ1 v Hf1 H1 p1 _ q1 h1 => ?_
  obtain ⟨d, e, h2⟩ := h1.bind.rd
  have rd := q1.rd p1.sim e
  cases d with
  | int i => cases rd.int; exact ⟨i, rfl, h2 Hf1 H1 p1⟩
  | _ => exact (h2 : False).elim
theorem meth_reads {fs : M (List AR)} {op : List Nat → List D → Option RV} {Q : VK} (h : tM W ec K (opM fa fs op) σ H Q) : tBM K "str" (rDM K fun p ps => (strOf p).bind fun s => op s ps) (tM W ec K fa) (tMA W ec K fs) σ H Q := by
  obtain ⟨ρ, Hf, S, h⟩ := h
  refine stepM (.refl S) h fun r ρ1 v Hf1 H1 p1 _ q1 h1 => ?_
  obtain ⟨d, e, h2⟩ := h1.bind.rd
  have rd := q1.rd p1.sim e
  cases d with
  | str s =>
    obtain ⟨rfl, os⟩ := rd.str
    refine ⟨rfl, ?_⟩
    refine stepA p1 h2 fun as ρ3 vs Hf3 H3 p3 p13 q3 h3 => ?_
    unfold Run at h3
    cases e1 : ARs.rd ρ3 as with
    | none => simp only [e1] at h3; exact h3.elim
    | some ds =>
      cases e2 : op s ds with
      | none => simp only [e1, Option.bind_some, e2] at h3
      | some r =>
        simp only [e1, Option.bind_some, e2] at h3
        exact ⟨Hf3, .str s, ds, r, p3.sim.sub, Rp.str s os, q3.rd p3.sim e1, e2, NEnd.of p3 h3⟩
  | _ => exact (h2 : False).elim
/-! ### a slot's list is changed -/
theorem Post.put (S : Sim K ρ σ Hf H) {i : Nat} {io : Bool} {o : Ob} {a : Addr} {vs : List V} {ds : List D} (e : OwnAt ρ i io o) (ea : σ[i]? = some (some (.ref a))) (r : Rps K Hf vs ds) :
    Post K σ ρ Hf H (ρ.set i (some (.own io (.lst ds)))) Hf (upd H a (.lst vs)) := by
  have li : i < ρ.length := (List.getElem?_eq_some_iff.mp e).1
  obtain ⟨b, eb, nf, ob⟩ := S.own i io o e
  rw [ea] at eb
  cases eb
  have at_ : ∀ {j : Nat} {jo : Bool} {x : Ob}, OwnAt (ρ.set i (some (.own io (.lst ds)))) j jo x → ∃ y, OwnAt ρ j jo y := by
    intro j jo x ej
    by_cases h : i = j
    · subst h
      rw [OwnAt, List.getElem?_set_self li] at ej
      cases ej
      exact ⟨o, e⟩
    · rw [OwnAt, List.getElem?_set_ne h] at ej
      exact ⟨x, ej⟩
  refine ⟨⟨by rw [List.length_set]; exact S.len, sub_new S.sub nf, fun j d ej => ?_, fun j jo x ej => ?_, fun j k jo x ko y c e1 e2 e3 e4 => ?_⟩, Grow.updAt ⟨i, io, o, e, ea⟩, fun j jo => ?_, fun j ej => ?_⟩
  · by_cases h : i = j
    · subst h
      rw [List.getElem?_set_self li] at ej
      cases ej
    · rw [List.getElem?_set_ne h] at ej
      exact S.val j d ej
  · by_cases h : i = j
    · subst h
      rw [OwnAt, List.getElem?_set_self li] at ej
      cases ej
      exact ⟨a, ea, nf, vs, upd_same, r⟩
    · rw [OwnAt, List.getElem?_set_ne h] at ej
      obtain ⟨b, e1, e2, e3⟩ := S.own j jo x ej
      have hb : b ≠ a := fun z => h (S.inj i j io o jo x a e ej ea (by rw [e1, z]))
      exact ⟨b, e1, e2, e3.mono (fun _ _ h => h) fun u hu => by rw [upd_ne hb]; exact hu⟩
  · obtain ⟨x', e1'⟩ := at_ e1
    obtain ⟨y', e2'⟩ := at_ e2
    exact S.inj j k jo x' ko y' c e1' e2' e3 e4
  · constructor
    · intro ⟨x, ej⟩
      by_cases h : i = j
      · subst h
        rw [OwnAt, e] at ej
        cases ej
        exact ⟨_, List.getElem?_set_self li⟩
      · exact ⟨x, by rw [OwnAt, List.getElem?_set_ne h]; exact ej⟩
    · intro ⟨x, ej⟩
      exact at_ ej
  · by_cases h : i = j
    · subst h
      rw [OwnAt, ej] at e
      cases e
    · rw [List.getElem?_set_ne h]; exact ej
def rMm (K : PySem.W.Frag) (m : Mm) : V → List V → Hp → VK → Prop := fun x xs H Q => ∃ a vs Hf ds es p, x = .ref a ∧ H a = some (.lst vs) ∧ Ex Hf H ∧ Rps K Hf vs ds ∧ Rps K Hf xs es ∧ mmD m ds es = some p ∧
  ∀ v vs', Rp K Hf v p.1 → Rps K Hf vs' p.2 → Q v (upd H a (.lst vs'))
theorem mm_reads {m : Mm} {i : Nat} {fs : M (List AR)} {Q : VK} (h : tM W ec K (mmX m i fs) σ H Q) : tBM K "list" (rMm K m) (tVar i) (tMA W ec K fs) σ H Q := by
  obtain ⟨ρ, Hf, S, h⟩ := h
  unfold Run mmX at h
  cases e : slotOb ρ i with
  | none => rw [e] at h; exact h.elim
  | some pr =>
    obtain ⟨io, o⟩ := pr
    cases o with
    | dct _ => rw [e] at h; exact h.elim
    | lst xs =>
      rw [e] at h
      have h : Run (M.bind fs (fun as => M.bind (M.of (ARs.dat as)) fun ds => mmM m i ds)) ρ (fun r ρ' => ∀ v Hf' H', Post K σ ρ Hf H ρ' Hf' H' → RRel K H σ ρ' Hf' H' r v → Q v H') (XW W ec K σ ρ Hf H) := h
      obtain ⟨a, ea, nf, vs, hv, rv⟩ := S.own i io _ (slotOb_of e)
      refine ⟨.ref a, ea, .inl ⟨rfl, vs, SqL_of hv⟩, ?_⟩
      refine stepA (.refl S) h fun as ρ1 vs1 Hf1 H1 p1 _ q1 h1 => ?_
      obtain ⟨ds, e1, h2⟩ := h1.bind.of
      have rr := q1.dat e1
      unfold Run mmM at h2
      cases e2 : slotOb ρ1 i with
      | none => rw [e2] at h2; exact h2.elim
      | some pr =>
        obtain ⟨io1, o1⟩ := pr
        cases o1 with
        | dct _ => rw [e2] at h2; exact h2.elim
        | lst ys =>
          rw [e2] at h2
          obtain ⟨b, eb, nf1, vs2, hv2, rv2⟩ := p1.sim.own i io1 _ (slotOb_of e2)
          rw [ea] at eb
          cases eb
          cases e3 : mmD m ys ds with
          | none => simp only [e3, Option.map_none] at h2
          | some p =>
            simp only [e3, Option.map_some] at h2
            refine ⟨a, vs2, Hf1, ys, ds, p, rfl, hv2, p1.sim.sub, rv2, rr, e3, fun v vs' r1 r2 => ?_⟩
            exact h2 v Hf1 _ (p1.trans (Post.put p1.sim (slotOb_of e2) ea r2)) r1
/-! ### tests -/
theorem tst_reads {Q : Bool → Hp → Prop} (h : tMT W ec K (tst fa) σ H Q) : tTru K (tM W ec K fa) σ H Q := by
  obtain ⟨ρ, Hf, S, h⟩ := h
  refine stepM (.refl S) h fun r ρ1 v Hf1 H1 p1 _ q1 h1 => ?_
  obtain ⟨d, e, h2⟩ := h1.bind.rd
  have rd := q1.rd p1.sim e
  exact ⟨d.tru, rd.tru p1.sim.sub, h2 Hf1 H1 p1⟩
theorem Run.sub {α : Type} {f : M α} {C : α → Env → Prop} {E : Exn → Env → Prop} {P : α → Prop} (h : Run f ρ C E) (hp : ∀ a ρ', f ρ = some (.ok a ρ') → P a) : Run f ρ (fun a ρ' => C a ρ' ∧ P a) E := by
  unfold Run at h ⊢
  cases e : f ρ with
  | none => rw [e] at h; exact h
  | some r =>
    rw [e] at h
    cases r with
    | ok a ρ' => exact ⟨h, hp a ρ' e⟩
    | ex x ρ' => exact h
theorem bind_inv {α β : Type} {m : M α} {g : α → M β} {b : β} {ρ2 : Env} (h : M.bind m g ρ = some (.ok b ρ2)) : ∃ a ρ1, m ρ = some (.ok a ρ1) ∧ g a ρ1 = some (.ok b ρ2) := by
  unfold M.bind at h
  cases e : m ρ with
  | none => rw [e] at h; cases h
  | some r =>
    rw [e] at h
    cases r with
    | ok a ρ' => exact ⟨a, ρ', rfl, h⟩
    | ex x ρ' => cases h
theorem of_inv {α : Type} {o : Option α} {b : α} {ρ2 : Env} (h : M.of o ρ = some (.ok b ρ2)) : o = some b := by
  cases o with
  | none => cases h
  | some a => cases h; rfl
theorem cmpR_bl {o : COp} {p q : D} {r : RV} (h : cmpR o p q = some r) : ∃ b, r = .val (.bl b) := by
  unfold cmpR at h
  obtain ⟨b, _, e⟩ := map_of h
  exact ⟨b, e.symm⟩
theorem op2_bl {o : COp} {r : R} {ρ2 : Env} (h : op2 fa fb (cmpR o) ρ = some (.ok r ρ2)) : ∃ b, r = .val (.bl b) := by
  obtain ⟨_, _, _, h⟩ := bind_inv h
  obtain ⟨_, _, _, h⟩ := bind_inv h
  obtain ⟨_, _, _, h⟩ := bind_inv h
  obtain ⟨_, _, _, h⟩ := bind_inv h
  obtain ⟨rv, e, e2⟩ := map_of (of_inv h)
  obtain ⟨b, e3⟩ := cmpR_bl e
  subst e3
  exact ⟨b, e2.symm⟩
theorem chn_bl {o o' : COp} {r : R} {ρ2 : Env} (h : chnM fa fb fc o o' ρ = some (.ok r ρ2)) : ∃ b, r = .val (.bl b) := by
  obtain ⟨_, _, _, h⟩ := bind_inv h
  obtain ⟨_, _, _, h⟩ := bind_inv h
  obtain ⟨_, _, _, h⟩ := bind_inv h
  obtain ⟨_, _, _, h⟩ := bind_inv h
  obtain ⟨t, _, _, h⟩ := bind_inv h
  cases t with
  | false => cases h; exact ⟨false, rfl⟩
  | true =>
    obtain ⟨_, _, _, h⟩ := bind_inv h
    obtain ⟨_, _, _, h⟩ := bind_inv h
    obtain ⟨_, _, _, h⟩ := bind_inv h
    obtain ⟨rv, e, e2⟩ := map_of (of_inv h)
    obtain ⟨b, e3⟩ := cmpR_bl e
    subst e3
    exact ⟨b, e2.symm⟩
/-- a meaning that always gives a truth value, as a test -/
theorem tst_bl {Q : Bool → Hp → Prop} {t : TE} (hb : ∀ ρ r ρ2, fa ρ = some (.ok r ρ2) → ∃ b, r = .val (.bl b)) (hr : ∀ Q, tM W ec K fa σ H Q → t σ H Q) (h : tMT W ec K (tst fa) σ H Q) : tTest t σ H Q := by
  obtain ⟨ρ, Hf, S, h⟩ := h
  refine hr _ ⟨ρ, Hf, S, (h.bind.sub fun r ρ2 e => hb ρ r ρ2 e).imp (fun r ρ1 ⟨h1, b, eb⟩ v Hf1 H1 p1 rr => ?_) fun _ _ x => x⟩
  subst eb
  have rr : Rp K Hf1 v (.bl b) := rr
  cases rr
  exact ⟨b, rfl, h1 Hf1 H1 p1⟩
theorem tst_not_eq : tst (notM fa) = M.bind (tst fa) fun b => M.pure (!b) := by
  funext ρ
  unfold tst notM M.bind
  cases e : fa ρ with
  | none => rfl
  | some r =>
    cases r with
    | ok a ρ' =>
      simp only []
      cases e2 : rdM a ρ' with
      | none => rfl
      | some q => cases q <;> rfl
    | ex x ρ' => rfl
theorem rdM_same {r : R} {d : D} {ρ2 : Env} (h : rdM r ρ = some (.ok d ρ2)) : ρ2 = ρ ∧ r.rd ρ = some d := by
  unfold rdM at h
  obtain ⟨d', e, e2⟩ := map_of h
  cases e2
  exact ⟨rfl, e⟩
theorem rdM_noex {r : R} {x : Exn} {ρ2 : Env} (h : rdM r ρ = some (.ex x ρ2)) : False := by
  unfold rdM at h
  obtain ⟨d', e, e2⟩ := map_of h
  cases e2
theorem tst_and_eq : tst (andM fa fb) = M.bind (tst fa) fun b => if b then tst fb else M.pure false := by
  funext ρ
  unfold andM tst M.bind
  cases e : fa ρ with
  | none => rfl
  | some r =>
    cases r with
    | ex x ρ' => rfl
    | ok a ρ' =>
      simp only []
      cases e2 : rdM a ρ' with
      | none => rfl
      | some q =>
        cases q with
        | ex x ρ2 => exact (rdM_noex e2).elim
        | ok d ρ2 =>
          obtain ⟨rfl, e3⟩ := rdM_same e2
          cases ht : d.tru with
          | true => simp [ht, M.pure]
          | false => simp [ht, M.pure, e2]
theorem tst_or_eq : tst (orM fa fb) = M.bind (tst fa) fun b => if b then M.pure true else tst fb := by
  funext ρ
  unfold orM tst M.bind
  cases e : fa ρ with
  | none => rfl
  | some r =>
    cases r with
    | ex x ρ' => rfl
    | ok a ρ' =>
      simp only []
      cases e2 : rdM a ρ' with
      | none => rfl
      | some q =>
        cases q with
        | ex x ρ2 => exact (rdM_noex e2).elim
        | ok d ρ2 =>
          obtain ⟨rfl, e3⟩ := rdM_same e2
          cases ht : d.tru with
          | true => simp [ht, M.pure, e2]
          | false => simp [ht, M.pure]
theorem tst_if_eq {ft : M Bool} : tst (ifM ft fa fb) = M.bind ft fun c => if c then tst fa else tst fb := by
  funext ρ
  unfold ifM tst M.bind
  cases e : ft ρ with
  | none => rfl
  | some r =>
    cases r with
    | ex x ρ' => rfl
    | ok c ρ' => cases c <;> rfl
theorem lastT {f : M Bool} {ρ0 : Env} {Hf0 H0 : Hp} {G : Bool → Hp → Prop} {C : Bool → Env → Prop} (p : Post K σ ρ0 Hf0 H0 ρ1 Hf1 H1) (h : Run f ρ1 C (XW W ec K σ ρ0 Hf0 H0))
    (q : ∀ b ρ2 Hf2 H2, Post K σ ρ0 Hf0 H0 ρ2 Hf2 H2 → C b ρ2 → G b H2) : tMT W ec K f σ H1 G :=
  ⟨ρ1, Hf1, p.sim, h.imp (fun r ρ2 hr Hf2 H2 p2 => q r ρ2 Hf2 H2 (p.trans p2) hr) fun x ρ2 hx => hx.imp p⟩
theorem tnot_reads {Q : Bool → Hp → Prop} (h : tMT W ec K (tst (notM fa)) σ H Q) : tNot (tMT W ec K (tst fa)) σ H Q := by
  rw [tst_not_eq] at h
  obtain ⟨ρ, Hf, S, h⟩ := h
  refine stepT (.refl S) h fun b ρ1 Hf1 H1 p1 h1 => h1 Hf1 H1 p1
theorem tand_reads {Q : Bool → Hp → Prop} (h : tMT W ec K (tst (andM fa fb)) σ H Q) : tAnd (tMT W ec K (tst fa)) (tMT W ec K (tst fb)) σ H Q := by
  rw [tst_and_eq] at h
  obtain ⟨ρ, Hf, S, h⟩ := h
  refine stepT (.refl S) h fun b ρ1 Hf1 H1 p1 h1 => ?_
  cases b with
  | true =>
    rw [if_pos rfl]
    exact lastT p1 (show Run (tst fb) ρ1 _ _ from h1) fun b ρ2 Hf2 H2 p2 c => c Hf2 H2 p2
  | false =>
    rw [if_neg Bool.false_ne_true]
    exact h1 Hf1 H1 p1
theorem tor_reads {Q : Bool → Hp → Prop} (h : tMT W ec K (tst (orM fa fb)) σ H Q) : tOr (tMT W ec K (tst fa)) (tMT W ec K (tst fb)) σ H Q := by
  rw [tst_or_eq] at h
  obtain ⟨ρ, Hf, S, h⟩ := h
  refine stepT (.refl S) h fun b ρ1 Hf1 H1 p1 h1 => ?_
  cases b with
  | false =>
    rw [if_neg Bool.false_ne_true]
    exact lastT p1 (show Run (tst fb) ρ1 _ _ from h1) fun b ρ2 Hf2 H2 p2 c => c Hf2 H2 p2
  | true =>
    rw [if_pos rfl]
    exact h1 Hf1 H1 p1
def tIfT (t u v : TT) : TT := fun σ H Q => t σ H fun c H1 => if c = true then u σ H1 Q else v σ H1 Q
theorem tif_reads {ft : M Bool} {Q : Bool → Hp → Prop} (h : tMT W ec K (tst (ifM ft fa fb)) σ H Q) : tIfT (tMT W ec K ft) (tMT W ec K (tst fa)) (tMT W ec K (tst fb)) σ H Q := by
  rw [tst_if_eq] at h
  obtain ⟨ρ, Hf, S, h⟩ := h
  refine stepT (.refl S) h fun b ρ1 Hf1 H1 p1 h1 => ?_
  cases b with
  | true =>
    rw [if_pos rfl]
    exact lastT p1 (show Run (tst fa) ρ1 _ _ from h1) fun b ρ2 Hf2 H2 p2 c => c Hf2 H2 p2
  | false =>
    rw [if_neg Bool.false_ne_true]
    exact lastT p1 (show Run (tst fb) ρ1 _ _ from h1) fun b ρ2 Hf2 H2 p2 c => c Hf2 H2 p2
end
section
variable {n : Nat} {X : Cx} {a b c : Expr} {pos : Pos}
theorem qt_if {t u v : TT} (hc : QT n X c t) (ha : QT n X a u) (hb : QT n X b v) : QT n X (.IfExp c a b pos) (tIfT t u v) := fun wh pins s τ G Q hw hn I h => by
  unfold PySem.isTrue
  refine wpAny_bind (thT hn (hc _ pins s τ G _ rfl hn I h) fun z s1 hn1 ⟨G1, I1, q⟩ => ?_)
  cases z
  · exact hb _ pins s1 τ G1 Q rfl hn1 I1 q
  · exact ha _ pins s1 τ G1 Q rfl hn1 I1 q
end
end Itp
end
section
set_option Elab.async false
set_option linter.all false
set_option maxRecDepth 100000
set_option maxHeartbeats 4000000
set_option autoImplicit false
/-! Methods of lists, replace, comprehensions, what is walked. -/
namespace Itp
open PySem PySem.Spec PyProof.Rows L2
open Evl (Ex)
section
variable {K : PySem.W.Frag} {X : Cx}
theorem Rps.last {Hf : Hp} {vs : List V} {ds : List D} {d : D} (r : Rps K Hf vs ds) (h : ds.getLast? = some d) : ∃ v, vs[vs.length - 1]? = some v ∧ Rp K Hf v d := by
  rw [List.getLast?_eq_getElem?] at h
  rw [r.length]
  exact r.get h
theorem append_ok : MtM X "list.append" (rMm X.K .append) := by
  intro pins s σ H x xs v us Q I rx rxs ⟨a, vs, Hf, ds, es, p, ex, hv, sub, r1, r2, e, q⟩
  cases r2 with
  | nil => cases e
  | @cons y ys d es' ry rys =>
    cases rys with
    | cons _ _ => cases e
    | nil =>
      change (if ds.length < lim then some (D.non, ds ++ [d]) else none) = some p at e
      split at e
      · rename_i hz
        cases e
        exact mt_append pins s σ H x _ v us Q I rx rxs ⟨a, vs, y, ex, rfl, hv, by rw [r1.length, line_lim]; exact hz, q .non _ .non (r1.append (.cons ry .nil))⟩
      · cases e
theorem pop_ok : MtM X "list.pop" (rMm X.K .pop) := by
  intro pins s σ H x xs v us Q I rx rxs ⟨a, vs, Hf, ds, es, p, ex, hv, sub, r1, r2, e, q⟩
  cases r2 with
  | cons _ _ => cases e
  | nil =>
    obtain ⟨d, e1, e2⟩ := map_of (show ds.getLast?.map _ = some p from e)
    subst e2
    obtain ⟨y, e3, ry⟩ := r1.last e1
    exact mt_pop pins s σ H x _ v us Q I rx rxs ⟨a, vs, y, ex, rfl, hv, e3, q y _ ry r1.dropLast⟩
theorem natOf_lt {i : Int} {n j : Nat} (h : natOf i n = some j) : seqIndex? i n = some j ∧ -(n : Int) ≤ i ∧ i < n := by
  unfold natOf at h
  unfold seqIndex?
  split at h
  · rename_i h0
    split at h
    · rename_i h1
      cases h
      refine ⟨?_, by omega, h1⟩
      simp only []
      first
        | (rw [if_pos (by omega)] <;> simp <;> omega)
        | (simp; omega)
    · cases h
  · rename_i h0
    split at h
    · rename_i h1
      cases h
      refine ⟨?_, h1, by omega⟩
      simp only []
      first
        | (rw [if_pos (by omega)] <;> simp <;> omega)
        | (simp; omega)
    · cases h
theorem popAt_ok : MtM X "list.pop" (rMm X.K .popAt) := by
  intro pins s σ H x xs v us Q I rx rxs ⟨a, vs, Hf, ds, es, p, ex, hv, sub, r1, r2, e, q⟩
  cases r2 with
  | nil => cases e
  | @cons y ys d es' ry rys =>
    cases rys with
    | cons _ _ => cases d <;> cases e
    | nil =>
      cases d with
      | int i =>
        obtain ⟨j, e1, f1⟩ := bind_of (show (natOf i ds.length).bind _ = some p from e)
        obtain ⟨d', e2, f2⟩ := map_of f1
        subst f2
        cases ry
        obtain ⟨z, e3, rz⟩ := r1.get e2
        obtain ⟨zl, _⟩ := I.lstM hv
        obtain ⟨k1, k2, k3⟩ := natOf_lt e1
        rw [line_lim] at zl
        have hl : lim = 16777216 := rfl
        have hlen := r1.length
        exact mt_popAt pins s σ H x _ v us Q I rx rxs ⟨a, vs, i, j, z, ex, rfl, hv, by omega, by omega, by rw [hlen]; exact k1, e3, q z _ rz (r1.eraseIdx j)⟩
      | _ => cases e
end
/-! ### replace -/
section
variable {n : Nat} {X : Cx} {W : WX} {ec : EC} {o x' : Expr} {fa : M R} {c : Nat} {k : Nat} {c1 apos pos : Pos}
/-- a written text, or the module's own, with its token -/
def TokE (n : Nat) (X : Cx) (x' : Expr) (c : Nat) : Prop := ∀ (s : Shared) (pins : List (Addr × Obj)) (τ : L2.St) (G : Hp) (Q' : Value → Shared → Prop), n ≤ s.toks → Inv X pins τ G s →
  (∀ t s', t ≠ 0 → t < s'.toks → n ≤ s'.toks → Inv X pins τ G s' → Q' (.str (txt [c]) t) s') → wpAny (model X.prog X.w) X.A (eval x' X.env) Q' X.xe s
theorem tokE_k {j : Nat} {c0 : Pos} (n1 : 1 ≤ n) : TokE n X (.Constant (.str (txt [c])) j c0) c := fun s pins τ G Q' hn I h =>
  Calls.Constant_str (h _ _ (by show s.toks ≠ 0; omega) (by show s.toks < s.toks + 1; omega) (by show n ≤ s.toks + 1; omega) (I.tok _))
theorem tokE_g {x : Str} {p : Pos} {t : Nat} (hg : Gl X x) (hm : X.mg x = some (.str (txt [c]) t)) (ht : t ≠ 0) (htn : t < n) (hd : (x == ("__debug__" : Str)) = false) : TokE n X (.Name x p) c := fun s pins τ G Q' hn I h =>
  ld_glob I hg hm (h t s ht (Nat.lt_of_lt_of_le htn hn) hn I) hd
theorem qe_repl {x y : Xp} (n1 : 1 ≤ n) (hx : litS x = some [c]) (hy : litS y = some []) (ho : QE n X o (tM W ec X.K fa)) (hx' : TokE n X x' c)
    (hst : starEach [x', .Constant (.str (txt [])) k c1] X.env = [(false, eval x' X.env), (false, eval (.Constant (.str (txt [])) k c1) X.env)])
    (hbase : attributeBase o "replace" X.env (eval o X.env) = eval o X.env) (hline : (apos.endLine == pos.line) = true) :
    QE n X (.Call (.Attribute o "replace" apos) [x', .Constant (.str (txt [])) k c1] [] pos) (tM W ec X.K (replM fa x y)) := by
  intro pins s σ H Q hn I ⟨ρ, Hf, S, h⟩
  refine PySem.Call_method2 hbase hst hline (ho.then (α := Value) (R := fun v H1 => ∃ t, v = .str (txt t) ∧ StrOk t ∧ Q (.str (txt (t.filter (· != c)))) H1) hn I ?_ fun v s1 x1 G1 hn1 I1 r1 ⟨t, e1, ot, q⟩ => ?_)
  · refine stepM (.refl S) h fun r ρ1 v Hf1 H1 p1 _ q1 h1 => ?_
    obtain ⟨d, e, h2⟩ := h1.bind.rd
    have rd := q1.rd p1.sim e
    obtain ⟨d', e2, h3⟩ := h2.bind.of
    cases d with
    | str t =>
      obtain ⟨rfl, ot⟩ := rd.str
      change (match D.str t, litS x, litS y with | .str s, some [c], some [] => some (.str (s.filter (· != c))) | _, _, _ => none) = some d' at e2
      rw [hx, hy] at e2
      cases e2
      exact ⟨t, rfl, ot, h3 _ Hf1 H1 p1 (.str _ (ot.sub List.filter_sublist))⟩
    | _ => cases e2
  · subst e1
    obtain ⟨tx, rfl⟩ := r1
    refine ⟨"str", _, PySem.F.plainAttrs_str, PySem.F.slot_str_replace, PySem.F.type_str_replace, typeIs_str _ _ _, (fun _ e => nomatch e), Calls.callWith_builtin rfl (Calls.evalArgs_plain (Calls.spliced_cons ?_))⟩
    refine hx' s1 pins σ G1 _ hn1 I1 fun u s2 hu hu2 hn2 I2 => ?_
    refine Calls.spliced_cons (Calls.Constant_str (Calls.spliced_nil ?_))
    refine PySem.SC.replace hu (by show s2.toks ≠ 0; omega) (Nat.ne_of_lt hu2) (by rw [txt_beq]; rfl) (by
      rw [txt_len, txt_len]
      have h1 := ot.1
      have hl : lim = 16777216 := rfl
      have h2 : ([] : List Nat).length = 0 := rfl
      rw [h2]
      omega) fun t' k' => ⟨.str (Txt.replace (txt t) (txt [c]) (txt [])), G1, I2.tok k', ⟨t', rfl⟩, ?_⟩
    have : Txt.replace (txt t) (txt [c]) (txt []) = txt (t.filter (· != c)) := by
      have h1 := replace_strikes (txt t) c
      rw [txt_cps] at h1
      show Txt.replace (txt t) ⟨#[c]⟩ ⟨#[]⟩ = Str.mk (t.filter (· != c)).toArray
      rw [← h1]
    rw [this]
    exact q
end
end Itp
end
section
set_option Elab.async false
set_option linter.all false
set_option maxRecDepth 100000
set_option maxHeartbeats 4000000
set_option autoImplicit false
/-! Comprehensions and what is walked. -/
namespace Itp
open PySem PySem.Spec PyProof.Rows L2
open Evl (Ex)
section
variable {W : WX} {ec : EC} {K : PySem.W.Frag} {σ σ' : L2.St} {H : Hp} {ρ ρ0 ρ1 ρ' : Env} {Hf Hf' H' Hf1 H1 : Hp} {fa fb : M R}
theorem restE_get (j : Nat) (hl : ρ'.length = ρ.length) : ∀ is : List Nat, (restE ρ ρ' is).length = ρ.length ∧ (restE ρ ρ' is)[j]? = if j ∈ is then ρ[j]? else ρ'[j]?
  | [] => ⟨hl, by simp [restE]⟩
  | i :: is => by
    obtain ⟨l1, ih⟩ := restE_get j hl is
    unfold restE
    cases e : ρ[i]? with
    | none =>
      refine ⟨l1, ?_⟩
      simp only [ih]
      by_cases h : j = i
      · subst h
        have : ρ.length ≤ j := by simpa using e
        by_cases hj : j ∈ is
        · simp [hj]
        · simp [hj, e]; omega
      · simp [h]
    | some v =>
      refine ⟨by simp [l1], ?_⟩
      simp only []
      rw [List.getElem?_set, l1]
      have li : i < ρ.length := (List.getElem?_eq_some_iff.mp e).1
      by_cases h : i = j
      · subst h
        simp [li, e]
        exact (List.getElem?_eq_some_iff.mp e).2.symm
      · have h' : ¬ j = i := fun z => h z.symm
        simp [h, h', ih]
/-- a block's end -/
theorem blk_post (S : Sim K ρ σ Hf H) {own : List Nat} {L : Addr} {acc : List D} {accv : List V} {G' : Hp} (hL : H L = none) (B : Blk K (L2.wipe σ own) (wipeE ρ own) Hf H L acc accv ρ' Hf' G') :
    Post K σ ρ Hf H (restE ρ ρ' own) Hf' G' ∧ RRel K H σ (restE ρ ρ' own) Hf' G' (.own (.lst acc)) (.ref L) := by
  have hl : ρ'.length = ρ.length := by rw [B.sim.len, wipe_length, S.len]
  have get : ∀ j : Nat, (restE ρ ρ' own)[j]? = if j ∈ own then ρ[j]? else ρ'[j]? := fun j => (restE_get j hl own).2
  have wE : ∀ {j : Nat}, j ∉ own → (wipeE ρ own)[j]? = ρ[j]? := fun {j} hj => by rw [wipeE_get, if_neg fun z => hj z.1]
  have wS : ∀ {j : Nat}, j ∉ own → (L2.wipe σ own)[j]? = σ[j]? := fun {j} hj => by rw [wipe_get, if_neg fun z => hj z.1]
  have owS : ∀ a, Ow (wipeE ρ own) (L2.wipe σ own) a → Ow ρ σ a := fun a z => Ow.wipe S z
  have nL : ¬ Ow ρ σ L := fun z => (S.ow_some z).1 hL
  have gr : Grow (Ow ρ σ) Hf H Hf' G' := by
    have g0 : Grow (Ow ρ σ) Hf H Hf (upd H L (.lst [])) := Grow.new hL
    refine g0.trans B.gr fun a z => ?_
    rcases z with z | z
    · exact .inl (owS a z)
    · exact .inr (z ▸ hL)
  -- an object of a slot
  have at_ : ∀ {i : Nat} {io : Bool} {o : Ob}, OwnAt (restE ρ ρ' own) i io o → ∃ a, σ[i]? = some (some (.ref a)) ∧ Hf' a = none ∧ ObR K Hf' G' a o ∧ ∃ o0, OwnAt ρ i io o0 := by
    intro i io o e
    rw [OwnAt, get] at e
    by_cases hi : i ∈ own
    · rw [if_pos hi] at e
      obtain ⟨a, s, e6, e7⟩ := S.own i io o e
      have na : ¬ (Ow (wipeE ρ own) (L2.wipe σ own) a ∨ a = L) := by
        rintro (⟨k, jo, o1, w, w'⟩ | z)
        · have hk : k ∉ own := fun hk => by
            rw [OwnAt, wipeE_get] at w
            split at w
            · cases w
            · rename_i hh
              rw [List.getElem?_eq_none (by simp only [hk, true_and] at hh; omega)] at w
              cases w
          rw [OwnAt, wE hk] at w
          rw [wS hk] at w'
          have := S.inj i k io o jo o1 a e w s w'
          exact hk (this ▸ hi)
        · exact nL (z ▸ ⟨i, io, o, e, s⟩)
      have hne : a ≠ L := fun z => na (.inr z)
      refine ⟨a, s, ?_, e7.mono B.gr.ex fun u hu => B.gr.fr a u (by rw [upd_ne hne]; exact hu) na, o, e⟩
      cases hz : Hf' a with
      | none => rfl
      | some u =>
        rcases B.gr.fz a (by rw [hz]; simp) with z | z | z
        · exact absurd e6 z
        · rw [upd_ne hne] at z; exact absurd z e7.there
        · exact absurd z na
    · rw [if_neg hi] at e
      obtain ⟨a, s, e6, e7⟩ := B.sim.own i io o e
      rw [wS hi] at s
      obtain ⟨o0, e0⟩ := (B.own i io).mpr ⟨o, e⟩
      rw [OwnAt, wE hi] at e0
      exact ⟨a, s, e6, e7, o0, e0⟩
  have ownI : ∀ (i : Nat) (io : Bool), (∃ o, OwnAt ρ i io o) ↔ (∃ o, OwnAt (restE ρ ρ' own) i io o) := fun i io => by
    unfold OwnAt
    rw [get]
    by_cases hi : i ∈ own
    · rw [if_pos hi]
    · rw [if_neg hi]
      have := B.own i io
      unfold OwnAt at this
      rw [wE hi] at this
      exact this
  refine ⟨⟨⟨by rw [(restE_get 0 hl own).1]; exact S.len, B.sim.sub, fun i d e => ?_, fun i io o e => let ⟨a, s, e1, e2, _⟩ := at_ e; ⟨a, s, e1, e2⟩, fun i j io o io' o' a e1 e2 e3 e4 => ?_⟩, gr, ownI, fun i e => ?_⟩, ⟨L, rfl, B.nd, ⟨accv, B.ls, B.acc⟩, hL⟩⟩
  · rw [get] at e
    by_cases hi : i ∈ own
    · rw [if_pos hi] at e
      obtain ⟨v, e1, r⟩ := S.val i d e
      exact ⟨v, e1, Rp.mono gr.ex _ _ r⟩
    · rw [if_neg hi] at e
      obtain ⟨v, e1, r⟩ := B.sim.val i d e
      rw [wS hi] at e1
      exact ⟨v, e1, r⟩
  · obtain ⟨_, _, _, _, o1, w1⟩ := at_ e1
    obtain ⟨_, _, _, _, o2, w2⟩ := at_ e2
    exact S.inj i j io o1 io' o2 a w1 w2 e3 e4
  · rw [get]
    by_cases hi : i ∈ own
    · rw [if_pos hi]; exact e
    · rw [if_neg hi]; exact B.lk i (by rw [wE hi]; exact e)
theorem lc_full {own : List Nat} {t : Tg} {fc : M Bool} {fe : M R} {tt : TT} {ds : List D} {vs : List V} {J : It} {Stb : Hp → Prop} {Cc : List D → Env → Prop} {E : Exn → Env → Prop} {Q : VK} (S : Sim K ρ σ Hf H) (ts : ∀ i ∈ t.slots, i ∈ own)
    (r : Rps K Hf vs ds) (wk : Wk K J vs Stb) (hst : ∀ Hf' G', Grow (Ow ρ σ) Hf H Hf' G' → Ex Hf' G' → Stb G')
    (htt : ∀ σ2 G2 Qb, tMT W0 ec K fc σ2 G2 Qb → tt σ2 G2 Qb) (hr : Run (lcM own (lcL own (bindT t) fc (datM fe) [] ds)) ρ Cc E)
    (hq : ∀ accD ρ', Cc accD ρ' → ∀ L Hf' G', Post K σ ρ Hf H ρ' Hf' G' → RRel K H σ ρ' Hf' G' (.own (.lst accD)) (.ref L) → Q (.ref L) G') :
    ∀ L, H L = none → ∃ Wv : Nat → Nat → Hp → Prop, (∃ m, Wv 0 m (upd H L (.lst []))) ∧ ∀ i m G, Wv i m G →
      (J.stop i G ∧ Q (.ref L) G) ∨ (J.go i G ∧ ∃ Nx : Hp → Prop, (∀ H', Nx H' → ∃ m', m' < m ∧ Wv (i + 1) m' H') ∧ ∀ x H', J.yld i G x H' → gTg K t x (L2.wipe σ own) H' fun σ2 H2 => L2.wipe σ2 own = L2.wipe σ own ∧ tt σ2 H2 fun b H3 =>
        if b = true then tM W0 ec K fe σ2 H3 fun y H4 => ∃ acc, H4 L = some (.lst acc) ∧ acc.length < sizeLine ∧ Nx (upd H4 L (.lst (acc ++ [y]))) else Nx H3) := by
  have hr' : Run (lcL own (bindT t) fc (datM fe) [] ds) (wipeE ρ own) (fun a ρ' => Cc a (restE ρ ρ' own)) (fun _ _ => False) := by
    unfold Run lcM at hr
    unfold Run
    cases e : lcL own (bindT t) fc (datM fe) [] ds (wipeE ρ own) with
    | none => rw [e] at hr; exact hr
    | some q =>
      rw [e] at hr
      cases q with
      | ok a ρ' => exact hr
      | ex x ρ' => exact hr
  refine lc_loop S ts r wk (fun L Hf' G' hL g s => hst Hf' G' ?_ s) htt hr' fun accD ρ' hc L accv Hf' G' hL B => ?_
  · have g0 : Grow (Ow ρ σ) Hf H Hf (upd H L (.lst [])) := Grow.new hL
    refine g0.trans g fun a z => ?_
    rcases z with z | z
    · exact .inl (Ow.wipe S z)
    · exact .inr (z ▸ hL)
  · obtain ⟨p, rr⟩ := blk_post S hL B
    exact hq accD _ hc L Hf' G' p rr
/-! ### a slot's list put aside -/
theorem Sim.lock (S : Sim K ρ σ Hf H) (i : Nat) : Sim K (ρ.set i (some .lck)) σ Hf H := by
  have at_ : ∀ {j : Nat} {x : SV}, x ≠ .lck → (ρ.set i (some .lck))[j]? = some (some x) → ρ[j]? = some (some x) := by
    intro j x hx e
    by_cases h : i = j
    · subst h
      rw [List.getElem?_set] at e
      simp only [if_true] at e
      split at e
      · cases e; exact absurd rfl hx
      · cases e
    · rw [List.getElem?_set_ne h] at e; exact e
  exact ⟨by rw [List.length_set]; exact S.len, S.sub, fun j d e => S.val j d (at_ (fun z => nomatch z) e), fun j io o e => S.own j io o (at_ (fun z => nomatch z) e),
    fun j k io o io' o' a e1 e2 e3 e4 => S.inj j k io o io' o' a (at_ (fun z => nomatch z) e1) (at_ (fun z => nomatch z) e2) e3 e4⟩
theorem lock_ow {i : Nat} {io : Bool} {o : Ob} {a : Addr} (S : Sim K ρ σ Hf H) (e : OwnAt ρ i io o) (ea : σ[i]? = some (some (.ref a))) : ¬ Ow (ρ.set i (some .lck)) σ a ∧ ∀ b, Ow (ρ.set i (some .lck)) σ b → Ow ρ σ b := by
  have li : i < ρ.length := (List.getElem?_eq_some_iff.mp e).1
  have at_ : ∀ {j : Nat} {jo : Bool} {x : Ob}, OwnAt (ρ.set i (some .lck)) j jo x → j ≠ i ∧ OwnAt ρ j jo x := by
    intro j jo x ej
    by_cases h : i = j
    · subst h
      rw [OwnAt, List.getElem?_set_self li] at ej
      cases ej
    · rw [OwnAt, List.getElem?_set_ne h] at ej
      exact ⟨fun z => h z.symm, ej⟩
  refine ⟨fun ⟨j, jo, x, ej, eb⟩ => ?_, fun b ⟨j, jo, x, ej, eb⟩ => ⟨j, jo, x, (at_ ej).2, eb⟩⟩
  obtain ⟨hj, ej'⟩ := at_ ej
  exact hj (S.inj j i jo x io o a ej' e eb ea)
/-- what stands while the list is put aside -/
theorem lock_keep {i : Nat} {io : Bool} {xs : List D} {a : Addr} {vs : List V} (S : Sim K ρ σ Hf H) (e : OwnAt ρ i io (.lst xs)) (ea : σ[i]? = some (some (.ref a))) (hv : H a = some (.lst vs)) (nf : Hf a = none)
    (g : Grow (Ow (ρ.set i (some .lck)) σ) Hf H Hf' H') : H' a = some (.lst vs) ∧ Hf' a = none := by
  obtain ⟨na, _⟩ := lock_ow S e ea
  refine ⟨g.fr a _ hv na, ?_⟩
  cases hz : Hf' a with
  | none => rfl
  | some u =>
    rcases g.fz a (by rw [hz]; simp) with z | z | z
    · exact absurd nf z
    · rw [hv] at z; cases z
    · exact absurd z na
theorem PostS.unlock (S : Sim K ρ σ Hf H) {i : Nat} {io : Bool} {xs : List D} (e : OwnAt ρ i io (.lst xs)) (p : PostS K (ρ.set i (some .lck)) σ Hf H ρ' σ' Hf' H') : PostS K ρ σ Hf H (ρ'.set i (some (.own io (.lst xs)))) σ' Hf' H' := by
  have li : i < ρ.length := (List.getElem?_eq_some_iff.mp e).1
  obtain ⟨a, ea, nf, vs, hv, rv⟩ := S.own i io _ e
  obtain ⟨na, sub⟩ := lock_ow S e ea
  obtain ⟨hv', nf'⟩ := lock_keep S e ea hv nf p.gr
  obtain ⟨lk1, lk2⟩ := p.lk i (List.getElem?_set_self li)
  have li' : i < ρ'.length := (List.getElem?_eq_some_iff.mp lk1).1
  have at_ : ∀ {j : Nat} {jo : Bool} {x : Ob}, j ≠ i → OwnAt (ρ'.set i (some (.own io (.lst xs)))) j jo x → OwnAt ρ' j jo x := by
    intro j jo x h ej
    rw [OwnAt, List.getElem?_set_ne fun z => h z.symm] at ej
    exact ej
  have no' : ∀ {j : Nat} {jo : Bool} {x : Ob}, OwnAt ρ' j jo x → σ'[j]? = some (some (.ref a)) → False := fun {j jo x} ej eb => by
    rcases p.own a ⟨j, jo, x, ej, eb⟩ with z | z
    · exact na z
    · rw [hv] at z; cases z
  have gr : Grow (Ow ρ σ) Hf H Hf' H' := p.gr.imp sub
  refine ⟨⟨by rw [List.length_set]; exact p.sim.len, p.sim.sub, fun j d ej => ?_, fun j jo x ej => ?_, fun j k jo x ko y b e1 e2 e3 e4 => ?_⟩, gr, fun b ⟨j, jo, x, ej, eb⟩ => ?_, fun j x ej => ?_, fun j ej => ?_⟩
  · by_cases h : i = j
    · subst h
      rw [List.getElem?_set_self li'] at ej
      cases ej
    · rw [List.getElem?_set_ne h] at ej
      exact p.sim.val j d ej
  · by_cases h : i = j
    · subst h
      rw [OwnAt, List.getElem?_set_self li'] at ej
      cases ej
      exact ⟨a, by rw [lk2]; exact ea, nf', vs, hv', Rps.mono p.gr.ex _ _ rv⟩
    · exact p.sim.own j jo x (at_ (fun z => h z.symm) ej)
  · by_cases hj : j = i
    · by_cases hk : k = i
      · rw [hj, hk]
      · subst hj
        rw [lk2, ea] at e3
        cases e3
        exact (no' (at_ hk e2) e4).elim
    · by_cases hk : k = i
      · subst hk
        rw [lk2, ea] at e4
        cases e4
        exact (no' (at_ hj e1) e3).elim
      · exact p.sim.inj j k jo x ko y b (at_ hj e1) (at_ hk e2) e3 e4
  · by_cases h : j = i
    · subst h
      rw [lk2, ea] at eb
      cases eb
      exact .inl ⟨j, io, _, e, ea⟩
    · rcases p.own b ⟨j, jo, x, at_ h ej, eb⟩ with z | z
      · exact .inl (sub b z)
      · exact .inr z
  · by_cases h : i = j
    · subst h
      rw [OwnAt, e] at ej
      cases ej
      exact ⟨⟨_, List.getElem?_set_self li'⟩, lk2⟩
    · obtain ⟨⟨o', q1⟩, q2⟩ := p.io j x (by rw [OwnAt, List.getElem?_set_ne h]; exact ej)
      exact ⟨⟨o', by rw [OwnAt, List.getElem?_set_ne h]; exact q1⟩, q2⟩
  · have h : i ≠ j := fun z => by subst z; rw [OwnAt, ej] at e; cases e
    obtain ⟨q1, q2⟩ := p.lk j (by rw [List.getElem?_set_ne h]; exact ej)
    exact ⟨by rw [List.getElem?_set_ne h]; exact q1, q2⟩
theorem Post.unlock (S : Sim K ρ σ Hf H) {i : Nat} {io : Bool} {xs : List D} (e : OwnAt ρ i io (.lst xs)) (p : Post K σ (ρ.set i (some .lck)) Hf H ρ' Hf' H') : Post K σ ρ Hf H (ρ'.set i (some (.own io (.lst xs)))) Hf' H' := by
  have q := PostS.unlock S e p.s
  have li : i < ρ.length := (List.getElem?_eq_some_iff.mp e).1
  have lk1 := p.lk i (List.getElem?_set_self li)
  have li' : i < ρ'.length := (List.getElem?_eq_some_iff.mp lk1).1
  refine ⟨q.sim, q.gr, fun j jo => ?_, fun j ej => (q.lk j ej).1⟩
  by_cases h : i = j
  · subst h
    constructor
    · intro ⟨x, ej⟩
      rw [OwnAt, e] at ej
      cases ej
      exact ⟨_, List.getElem?_set_self li'⟩
    · intro ⟨x, ej⟩
      rw [OwnAt, List.getElem?_set_self li'] at ej
      cases ej
      exact ⟨_, e⟩
  · have := p.own j jo
    unfold OwnAt at this ⊢
    rw [List.getElem?_set_ne h] at this ⊢
    exact this
theorem aside_run {α : Type} {i : Nat} {f : List D → M α} {C : α → Env → Prop} {E : Exn → Env → Prop} (h : Run (aside i f) ρ C E) :
    ∃ io xs, OwnAt ρ i io (.lst xs) ∧ Run (f xs) (ρ.set i (some .lck)) (fun a ρ' => C a (ρ'.set i (some (.own io (.lst xs))))) (fun x ρ' => E x (ρ'.set i (some (.own io (.lst xs))))) := by
  unfold Run aside at h
  cases e : slotOb ρ i with
  | none => rw [e] at h; exact h.elim
  | some pr =>
    obtain ⟨io, o⟩ := pr
    cases o with
    | dct _ => rw [e] at h; exact h.elim
    | lst xs =>
      rw [e] at h
      refine ⟨io, xs, slotOb_of e, ?_⟩
      unfold Run
      cases e2 : f xs (ρ.set i (some .lck)) with
      | none => simp only [e2] at h
      | some q =>
        simp only [e2] at h
        cases q with
        | ok a ρ' => exact h
        | ex x ρ' => exact h
/-! ### what is walked, by its meaning -/
def wiM (W : WX) (ec : EC) (K : PySem.W.Frag) (fa fb : M R) : ItK → TI
  | .over => fun τ G R => tM W ec K fa τ G fun x G1 => iVal K x G1 R
  | .rng1 => iRng1 (tCons (tM W ec K fa) tNil)
  | .rng2 => iRng2 (tCons (tM W ec K fa) (tCons (tM W ec K fb) tNil))
/-- it is what J walks -/
inductive ItRel (K : PySem.W.Frag) (σ : L2.St) (ρ : Env) (Hf : Hp) : Itm → It → Prop
  | items {J : It} {ds : List D} {vs : List V} {Stb : Hp → Prop} (r : Rps K Hf vs ds) (wk : Wk K J vs Stb) (st : ∀ Hf' G', Ex Hf Hf' → Ex Hf' G' → Stb G') : ItRel K σ ρ Hf (.items ds) J
  | slot {i : Nat} {a : Addr} {io : Bool} {xs : List D} (e : OwnAt ρ i io (.lst xs)) (ea : σ[i]? = some (some (.ref a))) : ItRel K σ ρ Hf (.slot i) (Itl K a)
theorem okRange_iff {i : Int} (h : okRange i = true) : -(2 ^ 62) ≤ i ∧ i < 2 ^ 62 := by
  unfold okRange at h
  simpa using h
theorem it_reads {β : Type} {ik : ItK} {g : Itm → M β} {C : β → Env → Prop} {Rr : It → Hp → Prop} (S : Sim K ρ σ Hf H) (h : Run (M.bind (evIt ik fa fb) g) ρ C (XW W ec K σ ρ Hf H))
    (q : ∀ it ρ1 J Hf1 H1, Post K σ ρ Hf H ρ1 Hf1 H1 → ItRel K σ ρ1 Hf1 it J → Run (g it) ρ1 C (XW W ec K σ ρ Hf H) → Rr J H1) : wiM W ec K fa fb ik σ H Rr := by
  have h := h.bind
  cases ik with
  | over =>
    refine stepM (.refl S) h fun r ρ1 v Hf1 H1 p1 _ q1 h1 => ?_
    obtain ⟨ar, e1, h2⟩ := h1.bind.of
    obtain ⟨Hf2, p2, ex2, ar2⟩ := q1.arg p1 S e1
    unfold Run at h2
    cases e2 : itmOf ρ1 ar with
    | none => simp only [e2, Option.map_none] at h2
    | some it =>
      simp only [e2, Option.map_some] at h2
      cases ar with
      | loc i =>
        obtain ⟨a, io, o, eo, ea, rfl⟩ := ar2
        change (match slotOb ρ1 i with | some (_, .lst _) => some (Itm.slot i) | _ => none) = some it at e2
        rw [slotOb_is eo] at e2
        cases o with
        | dct _ => cases e2
        | lst xs =>
          cases e2
          obtain ⟨b, eb, nf, vs, hv, rv⟩ := p2.sim.own i io _ eo
          rw [ea] at eb
          cases eb
          exact .inl ⟨a, vs, rfl, SqL_of hv, q _ ρ1 _ Hf2 H1 p2 (.slot eo ea) h2⟩
      | val d =>
        have rp : Rp K Hf2 v d := ar2
        cases d with
        | tup xs =>
          cases e2
          cases rp with
          | tup k1 k2 => exact .inr (.inl ⟨_, _, rfl, Evl.ex_t p2.sim.sub k1, q _ ρ1 _ Hf2 H1 p2 (.items k2 wk_tup fun Hf' G' x1 x2 => Evl.ex_t x2 (Evl.ex_t x1 k1)) h2⟩)
        | lst xs =>
          cases e2
          cases rp with
          | lst k1 k2 => exact .inl ⟨_, _, rfl, SqL_of (p2.sim.sub _ _ k1), q _ ρ1 _ Hf2 H1 p2 (.items k2 wk_list fun Hf' G' x1 x2 => SqL_of (x2 _ _ (x1 _ _ k1))) h2⟩
        | str s =>
          cases e2
          cases rp with
          | str _ os => exact .inr (.inr ⟨txt s, rfl, q _ ρ1 _ Hf2 H1 p2 (.items (Rps.signs os) wk_str fun _ _ _ _ => True.intro) h2⟩)
        | _ => cases e2
  | rng1 =>
    refine stepM (.refl S) h fun r ρ1 v Hf1 H1 p1 _ q1 h1 => ?_
    obtain ⟨d, e, h2⟩ := h1.bind.rd
    have rd := q1.rd p1.sim e
    obtain ⟨it, e2, h3⟩ := h2.of
    cases d with
    | int j =>
      cases rd.int
      change (if okRange j = true then some _ else none) = some it at e2
      split at e2
      · rename_i hz
        cases e2
        obtain ⟨k1, k2⟩ := okRange_iff hz
        refine ⟨j, rfl, k1, k2, q _ ρ1 _ Hf1 H1 p1 (.items (rangeD_vals 0 j Hf1) ?_ fun _ _ _ _ => True.intro) h3⟩
        rw [show (j - 0).toNat = j.toNat by simp]
        exact wk_rng
      · cases e2
    | _ => cases e2
  | rng2 =>
    refine stepM (.refl S) h fun r ρ1 v Hf1 H1 p1 _ q1 h1 => ?_
    refine stepM p1 h1 fun r2 ρ2 v2 Hf2 H2 p2 p12 q2 h2 => ?_
    obtain ⟨d, e, h3⟩ := h2.bind.rd
    obtain ⟨d2, e2, h4⟩ := h3.bind.rd
    obtain ⟨it, e3, h5⟩ := h4.of
    have k1 := q1.keep p1.sim (fun a z => ow0 S p1 z) p12
    have rd1 := k1.rd p2.sim e
    have rd2 := q2.rd p2.sim e2
    cases d with
    | int i =>
      cases d2 with
      | int j =>
        cases rd1.int
        cases rd2.int
        change (if (okRange i && okRange j) = true then some _ else none) = some it at e3
        split at e3
        · rename_i hz
          cases e3
          rw [Bool.and_eq_true] at hz
          obtain ⟨a1, a2⟩ := okRange_iff hz.1
          obtain ⟨b1, b2⟩ := okRange_iff hz.2
          exact ⟨i, j, rfl, ⟨a1, a2, b1, b2⟩, q _ ρ2 _ Hf2 H2 p2 (.items (rangeD_vals i j Hf2) wk_rng fun _ _ _ _ => True.intro) h5⟩
        · cases e3
      | _ => cases e3
    | _ => cases d2 <;> cases e3
theorem lc_reads {ik : ItK} {own : List Nat} {t : Tg} {fc : M Bool} {fe : M R} {tt : TT} {Q : VK} (ts : ∀ i ∈ t.slots, i ∈ own) (htt : ∀ σ2 G2 Qb, tMT W0 ec K fc σ2 G2 Qb → tt σ2 G2 Qb)
    (h : tM W ec K (lcX (evIt ik fa fb) own t fc fe) σ H Q) : tLc (wiM W ec K fa fb ik) (gTg K t) tt (tM W0 ec K fe) own σ H Q := by
  obtain ⟨ρ, Hf, S, h⟩ := h
  refine it_reads S h fun it ρ1 J Hf1 H1 p1 rel h1 => ?_
  have h1 := h1.bind
  cases rel with
  | items r wk st =>
    exact lc_full p1.sim ts r wk (fun Hf' G' g s => st Hf' G' g.ex s) htt h1 fun accD ρ2 hc L Hf2 G2 p2 rr => hc (.ref L) Hf2 G2 (p1.trans p2) (rr.start fun _ => p1.gr.back)
  | @slot i a io xs e ea =>
    obtain ⟨io', xs', e', h2⟩ := aside_run h1
    rw [OwnAt, e] at e'
    cases e'
    obtain ⟨b, eb, nf, vs, hv, rv⟩ := p1.sim.own i io _ e
    rw [ea] at eb
    cases eb
    refine lc_full (p1.sim.lock i) ts rv wk_list (fun Hf' G' g s => SqL_of (lock_keep p1.sim e ea hv nf g).1) htt h2 fun accD ρ2 hc L Hf2 G2 p2 rr => ?_
    have p3 := Post.unlock p1.sim e p2
    refine hc (.ref L) Hf2 G2 (p1.trans p3) ?_
    obtain ⟨L', eL, n1, ob, n2⟩ := rr
    exact ⟨L', eL, n1, ob, p1.gr.back n2⟩
end
end Itp
end
section
set_option Elab.async false
set_option linter.all false
set_option maxRecDepth 100000
set_option maxHeartbeats 4000000
set_option autoImplicit false
/-! An expression is as the small language's one: compared, and so read. -/
namespace Itp
open PySem PySem.Spec PyProof.Rows L2
open Evl (Ex)
/-- the module's names: its defs, its constants, its classes -/
structure Nms where
  fns : List Str
  gs : List (Str × D)
  cs : List Str
  tok : Bool
def okS (s : List Nat) : Bool := decide (s.length ≤ lim) && s.all fun c => decide (c < 1114112)
theorem okS_ok {s : List Nat} (h : okS s = true) : StrOk s := by
  unfold okS at h
  rw [Bool.and_eq_true] at h
  exact ⟨of_decide_eq_true h.1, fun c hc => of_decide_eq_true (List.all_eq_true.mp h.2 c hc)⟩
def ckK : D → Expr → Bool
  | .non, .Constant .none _ _ => true
  | .bl b, .Constant (.bool b') _ _ => b == b'
  | .int i, .Constant (.int j) _ _ => i == j
  | .str s, .Constant (.str x) _ _ => decide (x = txt s) && okS s
  | _, _ => false
theorem ckK_ok {d : D} {e : Expr} (h : ckK d e = true) : ∃ v, (∀ K Hf, Rp K Hf v d) ∧ (∀ X, PE X e (tC v)) ∧ ∃ c j p, e = .Constant c j p := by
  unfold ckK at h
  split at h
  · exact ⟨.non, fun _ _ => .non, fun _ => pe_non, _, _, _, rfl⟩
  · cases eq_of_beq h; exact ⟨.bl _, fun _ _ => .bl _, fun _ => pe_bl, _, _, _, rfl⟩
  · cases eq_of_beq h; exact ⟨.int _, fun _ _ => .int _, fun _ => pe_int, _, _, _, rfl⟩
  · rw [Bool.and_eq_true] at h
    have := of_decide_eq_true h.1
    subst this
    exact ⟨.str _, fun _ _ => .str _ (okS_ok h.2), fun _ => pe_str, _, _, _, rfl⟩
  · cases h
def sameD : D → D → Bool
  | .non, .non => true
  | .bl a, .bl b => a == b
  | .int a, .int b => a == b
  | .str a, .str b => a == b
  | _, _ => false
theorem sameD_ok {a b : D} (h : sameD a b = true) : a = b := by
  unfold sameD at h
  split at h
  · rfl
  · rw [eq_of_beq h]
  · rw [eq_of_beq h]
  · rw [eq_of_beq h]
  · cases h
def nameOk (y : Str) : Bool := !(y == ("__debug__" : Str)) && !(y == ("__classdict__" : Str)) && !(y == ("__name__" : Str))
def visC (sc : Scope) (x : Str) : Bool := match sc.names.lookup x with
  | some .local => true
  | some .cell => true
  | some .free => true
  | _ => false
def glC (sc : Scope) (x : Str) : Bool := (match sc.names.lookup x with
  | some .globalImplicit => true
  | _ => false) && nameOk x
def nmC (N : List Str) (sc : Scope) (fx : Str → Bool) (i : Nat) (y : Str) : Bool := decide (N[i]? = some y) && (match sc.names.lookup y with
  | some .local => true
  | some .cell => fx y
  | _ => false)
def notStar : Expr → Bool
  | .Starred _ _ => false
  | _ => true
def notSlice : Expr → Bool
  | .Slice _ _ _ _ => false
  | _ => true
def notCall : Expr → Bool
  | .Call _ _ _ _ => false
  | _ => true
def notSet : Expr → Bool
  | .Set _ _ _ => false
  | _ => true
def plainT : Expr → Bool
  | .UnaryOp _ _ _ => false
  | .BoolOp _ _ _ => false
  | .IfExp _ _ _ _ => false
  | .Compare _ _ _ _ => false
  | _ => true
def ckTs (N : List Str) (sc : Scope) (fx : Str → Bool) : List Nat → List Expr → Bool
  | [], [] => true
  | i :: is, .Name y _ :: es => nmC N sc fx i y && ckTs N sc fx is es
  | _, _ => false
def ckT (N : List Str) (sc : Scope) (fx : Str → Bool) : Tg → Expr → Bool
  | .nm i, .Name y _ => nmC N sc fx i y
  | .tup is, .Tuple es _ _ => ckTs N sc fx is es
  | _, _ => false
/-- what is walked -/
def ckIt (fa fb : Expr → Bool) (sc : Scope) : ItK → Expr → Bool
  | .over, e => fa e && notSet e
  | .rng1, .Call (.Name x _) [a] [] _ => decide (x = "range") && glC sc x && notStar a && fa a
  | .rng2, .Call (.Name x _) [a, b] [] _ => decide (x = "range") && glC sc x && notStar a && notStar b && fa a && fb b
  | _, _ => false
def blkOwn (N : List Str) (own : List Nat) : List (Str × Nat) := own.map fun i => ((N[i]?).getD (txt []), i)
def andTail (y : Expr) (op : BoolOp) : List Expr → Pos → Expr
  | [], _ => y
  | r :: rest, pos => .BoolOp op (y :: r :: rest) pos
def mmN : Mm → Str
  | .append => "append" | .pop => "pop" | .popAt => "pop"
def mtN : Mt → Str
  | .join => "join" | .count => "count"
def isYes : Xp → Bool
  | .k (.bl true) => true
  | _ => false
def isNilX : Xp → Bool
  | .anil => true
  | _ => false
def litC (x : Xp) : Bool := match litS x with
  | some [_] => true
  | _ => false
def litE (x : Xp) : Bool := match x with
  | .k (.str []) => true
  | _ => false
def litX (x : Xp) : Bool := match x with
  | .k _ => true
  | .g _ _ => true
  | _ => false
mutual
def ckE (nm : Nms) (N : List Str) : Xp → Scope → (Str → Bool) → Expr → Bool
  | .k d, _, _, e => ckK d e
  | .g i d, sc, _, e => match e with
    | .Name y _ => (match nm.gs[i]? with
      | some (z, d') => decide (z = y) && sameD d d'
      | none => false) && glC sc y
    | _ => false
  | .v i, sc, _, e => match e with
    | .Name y _ => decide (N[i]? = some y) && visC sc y && nameOk y
    | _ => false
  | .bin o a b, sc, fx, e => match e with
    | .BinOp a' op b' _ => decide (op = opOf o) && ckE nm N a sc fx a' && ckE nm N b sc fx b'
    | _ => false
  | .neg a, sc, fx, e => match e with
    | .UnaryOp .USub a' _ => ckE nm N a sc fx a'
    | _ => false
  | .nt a, sc, fx, e => match e with
    | .UnaryOp .Not a' _ => ckE nm N a sc fx a'
    | _ => false
  | .and a b, sc, fx, e => match e with
    | .BoolOp .And (x :: y :: rest) pos => ckE nm N a sc fx x && ckE nm N b sc fx (andTail y .And rest pos)
    | _ => false
  | .or a b, sc, fx, e => match e with
    | .BoolOp .Or (x :: y :: rest) pos => ckE nm N a sc fx x && ckE nm N b sc fx (andTail y .Or rest pos)
    | _ => false
  | .cmp o a b, sc, fx, e => match e with
    | .Compare a' [op] [b'] _ => decide (op = opC o) && !behindInMarks op b' && ckE nm N a sc fx a' && ckE nm N b sc fx b'
    | _ => false
  | .chn o o' a b c, sc, fx, e => match e with
    | .Compare a' [op, op'] [b', c'] _ => decide (op = opC o) && decide (op' = opC o') && !lastMarks [op, op'] [b', c'] && ckE nm N a sc fx a' && ckE nm N b sc fx b' && ckE nm N c sc fx c'
    | _ => false
  | .ife t a b, sc, fx, e => match e with
    | .IfExp t' a' b' _ => ckE nm N t sc fx t' && ckE nm N a sc fx a' && ckE nm N b sc fx b'
    | _ => false
  | .tup es, sc, fx, e => match e with
    | .Tuple es' _ _ => ckA nm N es sc fx es'
    | _ => false
  | .lst es, sc, fx, e => match e with
    | .List es' _ => ckA nm N es sc fx es'
    | _ => false
  | .ix a i, sc, fx, e => match e with
    | .Subscript a' i' _ => notSlice i' && ckE nm N a sc fx a' && ckE nm N i sc fx i'
    | _ => false
  | .sl a lo hi, sc, fx, e => match e with
    | .Subscript a' (.Slice lo' hi' none _) _ => ckE nm N a sc fx a' && (match lo' with
      | none => isNilX lo
      | some x => ckE nm N lo sc fx x) && (match hi' with
      | none => isNilX hi
      | some x => ckE nm N hi sc fx x)
    | _ => false
  | .rev a, sc, fx, e => match e with
    | .Subscript a' (.Slice none none (some (.UnaryOp .USub (.Constant (.int 1) _ _) _)) _) _ => ckE nm N a sc fx a'
    | _ => false
  | .bi f es, sc, fx, e => match e with
    | .Call (.Name x _) (a :: as) [] _ => decide (x = biN f) && glC sc x && ckA nm N es sc fx (a :: as)
    | _ => false
  | .isi t a, sc, fx, e => match e with
    | .Call (.Name x _) [a', .Name y _] [] _ => decide (x = "isinstance") && glC sc x && decide (y = Str.ofString (tyN t)) && glC sc y && notStar a' && ckE nm N a sc fx a'
    | _ => false
  | .repl a x y, sc, fx, e => match e with
    | .Call (.Attribute a' nme apos) [x', .Constant (.str z) _ _] [] pos => decide (nme = "replace") && notCall a' && (apos.endLine == pos.line) && decide (z = txt []) && litC x && litE y && litX x && notStar x' && ckE nm N a sc fx a' && ckE nm N x sc fx x' && nm.tok
    | _ => false
  | .mt m a es, sc, fx, e => match e with
    | .Call (.Attribute a' nme apos) [a1] [] pos => decide (nme = mtN m) && notCall a' && (apos.endLine == pos.line) && ckE nm N a sc fx a' && ckA nm N es sc fx [a1]
    | _ => false
  | .mm m i es, sc, fx, e => match e with
    | .Call (.Attribute (.Name y _) nme apos) as [] pos => decide (nme = mmN m) && (apos.endLine == pos.line) && decide (N[i]? = some y) && visC sc y && nameOk y && (match m, as with
      | .append, [_] => true
      | .pop, [] => true
      | .popAt, [_] => true
      | _, _ => false) && ckA nm N es sc fx as
    | _ => false
  | .call f es, sc, fx, e => match e with
    | .Call (.Name x _) (a :: as) [] _ => decide (nm.fns[f]? = some x) && glC sc x && ckA nm N es sc fx (a :: as)
    | _ => false
  | .lc elt t ik a b cond own, sc, fx, e => match e with
    | .ListComp elt' [⟨tg, iter, ifs, 0⟩] scope _ => blkC N sc scope (blkOwn N own) && decide (∀ i ∈ t.slots, i ∈ own) && ckT N (relS scope sc) (fun x => scope.names.lookup x == some .cell) t tg &&
      ckIt (ckE nm N a sc fx) (ckE nm N b sc fx) sc ik iter && (match ifs with
        | [] => isYes cond
        | [c] => ckE nm N cond (relS scope sc) (fun x => scope.names.lookup x == some .cell) c
        | _ => false) && ckE nm N elt (relS scope sc) (fun x => scope.names.lookup x == some .cell) elt' && notSet iter
    | _ => false
  | .anil, _, _, _ => false
  | .acons _ _, _, _, _ => false
def ckA (nm : Nms) (N : List Str) : Xp → Scope → (Str → Bool) → List Expr → Bool
  | .anil, _, _, es => es.isEmpty
  | .acons a r, sc, fx, es => match es with
    | x :: xs => notStar x && ckE nm N a sc fx x && ckA nm N r sc fx xs
    | [] => false
  | _, _, _, _ => false
end
def bltN : List Str := ["len", "list", "tuple", "all", "any", "sum", "max", "min", "int", "isinstance", "range", "str", "bool"]
structure Gd (n : Nat) (nm : Nms) (cl : Calls) (ec : EC) (N : List Str) (sc : Scope) (fx : Str → Bool) (X : Cx) (W : WX) : Prop where
  n1 : nm.tok = true → 1 ≤ n
  calm : X.calm = true
  hN : X.N = N
  nd : N.Nodup
  scp : X.env.scope = sc
  fxn : ∀ x, fx x = true → X.fn x = true
  un : X.A.units + 70 < cLine
  tk : Takes X W
  fns : ∀ (f : Nat) (x : Str), nm.fns[f]? = some x → ∃ a fd ps k np, FnT n X.prog X.w X.K X.mg X.base k a fd ps (spF X.K ec (cl f) np) ∧ Room k X.A ∧ X.mg x = some (.ref a) ∧ PySem.W.keepIn X.K (.ref a) = true ∧ Binds X.K fd ps [] ∧ (∀ svs, cl f svs ≠ none → svs.length = np)
  blt : ∀ x ∈ bltN, X.mg x = none
  gls : ∀ (i : Nat) (y : Str) (d : D), nm.gs[i]? = some (y, d) → ∃ u v, X.mg y = some u ∧ RelV v u ∧ (∀ Hf, Rp X.K Hf v d) ∧ (nm.tok = true → ∀ s, d = .str s → ∃ t, u = .str (txt s) t ∧ t ≠ 0 ∧ t < n)
section
variable {n : Nat} {nm : Nms} {cl : Calls} {ec : EC} {N : List Str} {sc : Scope} {fx : Str → Bool} {X : Cx} {W : WX}
theorem Gd.blk (c : Gd n nm cl ec N sc fx X W) (s : Shared) (H : Hp) (C : Addr) (cs : List (Str × Addr)) (fp : List Addr) (scope : Scope) :
    Gd n nm cl ec N (relS scope sc) (fun x => scope.names.lookup x == some .cell) (X.blk s H scope (compEnvC scope cs C X.env) fp) W0 where
  n1 := c.n1
  calm := c.calm
  hN := c.hN
  nd := c.nd
  scp := by rw [← c.scp]; rfl
  fxn := fun x h => h
  un := c.un
  tk := fun u s' ⟨a, B, sI, pins, σ, H, cls, d, e, I, nb, up, sky, na, os, ag, w⟩ => w.elim
  fns := c.fns
  blt := c.blt
  gls := c.gls
theorem nameOk_ok {y : Str} (h : nameOk y = true) : (y == ("__debug__" : Str)) = false ∧ (y == ("__classdict__" : Str)) = false ∧ y ≠ "__name__" := by
  unfold nameOk at h
  simp only [Bool.and_eq_true, Bool.not_eq_true'] at h
  exact ⟨h.1.1, h.1.2, fun z => by rw [z] at h; simp at h⟩
theorem visC_ok {x : Str} (h : visC sc x = true) : Vis sc x := by
  unfold visC at h
  split at h
  · exact .inl (by assumption)
  · exact .inr (.inl (by assumption))
  · exact .inr (.inr (by assumption))
  · cases h
theorem glC_ok (c : Gd n nm cl ec N sc fx X W) {x : Str} (h : glC sc x = true) : Gl X x ∧ (x == ("__debug__" : Str)) = false ∧ x ≠ "__name__" := by
  unfold glC at h
  rw [Bool.and_eq_true] at h
  obtain ⟨h1, h2⟩ := h
  obtain ⟨a1, a2, a3⟩ := nameOk_ok h2
  refine ⟨?_, a1, a3⟩
  split at h1
  · show X.env.scope.names.lookup x = _
    rw [c.scp]; assumption
  · cases h1
theorem nmC_ok (c : Gd n nm cl ec N sc fx X W) {i : Nat} {y : Str} {p : Pos} (h : nmC N sc fx i y = true) : PG X (.Name y p) (gName i) := by
  unfold nmC at h
  rw [Bool.and_eq_true] at h
  obtain ⟨h1, h2⟩ := h
  have e := of_decide_eq_true h1
  have hN : X.N.Nodup := by rw [c.hN]; exact c.nd
  have hi : X.N[i]? = some y := by rw [c.hN]; exact e
  split at h2
  · have hl : X.env.scope.names.lookup y = some .local := by rw [c.scp]; assumption
    exact pg_name hN hi (.inl hl) (.inr hl)
  · have hl : X.env.scope.names.lookup y = some .cell := by rw [c.scp]; assumption
    exact pg_name hN hi (.inr hl) (.inl (c.fxn y h2))
  · cases h2
theorem ckTs_ok (c : Gd n nm cl ec N sc fx X W) : ∀ {is : List Nat} {es : List Expr}, ckTs N sc fx is es = true → PGs X es (gAll is) ∧ (assignEach es X.env).length = is.length ∧ (assignEach es X.env).findIdx? (·.1) = none
  | [], [], _ => ⟨pgs_nil, rfl, rfl⟩
  | i :: is, .Name y p :: es, h => by
    have h : (nmC N sc fx i y && ckTs N sc fx is es) = true := h
    rw [Bool.and_eq_true] at h
    obtain ⟨a, b, d⟩ := ckTs_ok c h.2
    refine ⟨pgs_cons (nmC_ok c h.1) a rfl, ?_, ?_⟩
    · show (_ :: assignEach es X.env).length = _
      rw [List.length_cons, List.length_cons, b]
    · show List.findIdx? (·.1) ((false, _) :: assignEach es X.env) = none
      rw [List.findIdx?_cons, d]
      rfl
theorem ckT_ok (c : Gd n nm cl ec N sc fx X W) {t : Tg} {e : Expr} (h : ckT N sc fx t e = true) : PG X e (gTg X.K t) := by
  unfold ckT at h
  split at h
  · exact nmC_ok c h
  · obtain ⟨a, b, d⟩ := ckTs_ok c h
    exact pg_tup c.calm a b d
  · cases h
theorem star_ok {e : Expr} (h : notStar e = true) (es : List Expr) (env : PySem.Env) : starEach (e :: es) env = (false, eval e env) :: starEach es env := by
  cases e <;> first | rfl | cases h
theorem slice_ok {e : Expr} (h : notSlice e = true) : PlainIx e := by
  intro o i
  cases e <;> first | rfl | cases h
theorem base_ok {e : Expr} (h : notCall e = true) (name : Str) (env : PySem.Env) : attributeBase e name env (eval e env) = eval e env := by
  cases e <;> first | rfl | cases h
theorem set_ok {e : Expr} (h : notSet e = true) (env : PySem.Env) (x : Value) : foldedSetIterable e env x = pure x := by
  cases e <;> first | rfl | cases h
theorem plainT_ok {e : Expr} (h : plainT e = true) (env : PySem.Env) (whole : Sem Value) : PySem.isTrue e env whole = (do let v ← whole; standAt e.pos; holding [v] (truthy v)) := by
  cases e <;> first | rfl | cases h
end
end Itp
end
section
set_option Elab.async false
set_option linter.all false
set_option maxRecDepth 100000
set_option maxHeartbeats 4000000
set_option autoImplicit false
/-! Expressions: compared, and so read. -/
namespace Itp
open PySem PySem.Spec PyProof.Rows L2
open Evl (Ex)
def isB : Expr → Bool
  | .BoolOp _ _ _ => true
  | _ => false
structure GoodE (n : Nat) (X : Cx) (W : WX) (ec : EC) (cl : Calls) (m : Xp) (e : Expr) : Prop where
  qe : QE n X e (tM W ec X.K (evE cl m))
  qt : QT n X e (tMT W ec X.K (tst (evE cl m)))
  qw : isB e = true → QW n X e (tMT W ec X.K (tst (evE cl m)))
section
variable {n : Nat} {nm : Nms} {cl : Calls} {ec : EC} {N : List Str} {sc : Scope} {fx : Str → Bool} {X : Cx} {W : WX} {m : Xp} {e : Expr}
theorem GoodE.plain (hp : plainT e = true) (h : QE n X e (tM W ec X.K (evE cl m))) : GoodE n X W ec cl m e :=
  ⟨h, (qt_plain h (plainT_ok hp X.env)).weak fun _ _ _ q => tst_reads q, fun hb => by cases e <;> first | (simp [isB] at hb; done) | (simp [plainT] at hp; done)⟩
theorem GoodE.noB (hb : isB e = false) (h : QE n X e (tM W ec X.K (evE cl m))) (t : QT n X e (tMT W ec X.K (tst (evE cl m)))) : GoodE n X W ec cl m e :=
  ⟨h, t, fun z => by rw [hb] at z; cases z⟩
theorem ckA_stars : ∀ (m : Xp) (es : List Expr), ckA nm N m sc fx es = true → ∀ x ∈ es, notStar x = true
  | .anil, es, h, x, hx => by
    have h : es.isEmpty = true := by unfold ckA at h; exact h
    cases es with
    | nil => cases hx
    | cons _ _ => cases h
  | .acons a r, es, h, x, hx => by
    unfold ckA at h
    cases es with
    | nil => cases hx
    | cons y ys =>
      simp only [Bool.and_eq_true] at h
      rcases List.mem_cons.mp hx with z | z
      · subst z; exact h.1.1
      · exact ckA_stars r ys h.2 x z
  | .k _, _, h, _, _ => by unfold ckA at h; cases h
  | .g _ _, _, h, _, _ => by unfold ckA at h; cases h
  | .v _, _, h, _, _ => by unfold ckA at h; cases h
  | .bin _ _ _, _, h, _, _ => by unfold ckA at h; cases h
  | .neg _, _, h, _, _ => by unfold ckA at h; cases h
  | .nt _, _, h, _, _ => by unfold ckA at h; cases h
  | .and _ _, _, h, _, _ => by unfold ckA at h; cases h
  | .or _ _, _, h, _, _ => by unfold ckA at h; cases h
  | .cmp _ _ _, _, h, _, _ => by unfold ckA at h; cases h
  | .chn _ _ _ _ _, _, h, _, _ => by unfold ckA at h; cases h
  | .ife _ _ _, _, h, _, _ => by unfold ckA at h; cases h
  | .tup _, _, h, _, _ => by unfold ckA at h; cases h
  | .lst _, _, h, _, _ => by unfold ckA at h; cases h
  | .ix _ _, _, h, _, _ => by unfold ckA at h; cases h
  | .sl _ _ _, _, h, _, _ => by unfold ckA at h; cases h
  | .rev _, _, h, _, _ => by unfold ckA at h; cases h
  | .bi _ _, _, h, _, _ => by unfold ckA at h; cases h
  | .isi _ _, _, h, _, _ => by unfold ckA at h; cases h
  | .repl _ _ _, _, h, _, _ => by unfold ckA at h; cases h
  | .mt _ _ _, _, h, _, _ => by unfold ckA at h; cases h
  | .mm _ _ _, _, h, _, _ => by unfold ckA at h; cases h
  | .call _ _, _, h, _, _ => by unfold ckA at h; cases h
  | .lc _ _ _ _ _ _ _, _, h, _, _ => by unfold ckA at h; cases h
theorem stars_none (env : PySem.Env) (pos : Pos) : ∀ {es : List Expr}, (∀ x ∈ es, notStar x = true) → (backTo pos (starEach es env)).any (·.1) = false
  | [], _ => rfl
  | e :: es, h => by
    rw [star_ok (h e List.mem_cons_self)]
    have ih := stars_none env pos (es := es) fun x hx => h x (List.mem_cons_of_mem _ hx)
    show (false || (backTo pos (starEach es env)).any (·.1)) = false
    rw [ih]; rfl
theorem few1 {e : Expr} (h : notStar e = true) (env : PySem.Env) (pos : Pos) : ((backTo pos (starEach [e] env)).all (fun x => !x.1) && (backToKw pos (keywordEach [] env)).all (fun x => x.1.isSome)
      && decide ([e].length + ([] : List Keyword).length + (if ([] : List Keyword).isEmpty then 0 else 1) < 30)) = true := by
  rw [star_ok h]
  rfl
theorem blkOwn_snd (N : List Str) (own : List Nat) : (blkOwn N own).map (·.2) = own := by
  unfold blkOwn
  rw [List.map_map]
  exact List.map_id' own
theorem ckIt_ok {a b : Xp} {ik : ItK} {tg iter : Expr} {fa fb : Expr → Bool} (c : Gd n nm cl ec N sc fx X W) (ha : ∀ e, fa e = true → QE n X e (tM W ec X.K (evE cl a))) (hb : ∀ e, fb e = true → QE n X e (tM W ec X.K (evE cl b)))
    (h : ckIt fa fb sc ik iter = true) : QI n X tg iter (wiM W ec X.K (evE cl a) (evE cl b) ik) := by
  unfold ckIt at h
  split at h
  · rw [Bool.and_eq_true] at h
    exact qi_over (ha _ h.1)
  · simp only [Bool.and_eq_true] at h
    obtain ⟨⟨⟨h1, h2⟩, h3⟩, h4⟩ := h
    have := of_decide_eq_true h1
    subst this
    exact qi_rng1 (glC_ok c h2).1 (c.blt _ (by decide)) (qa_cons (ha _ h4) qa_nil (star_ok h3 _ _)) (star_ok h3 _ _)
  · simp only [Bool.and_eq_true] at h
    obtain ⟨⟨⟨⟨⟨h1, h2⟩, h3⟩, h4⟩, h5⟩, h6⟩ := h
    have := of_decide_eq_true h1
    subst this
    exact qi_rng2 (glC_ok c h2).1 (c.blt _ (by decide)) (qa_cons (ha _ h5) (qa_cons (hb _ h6) qa_nil (star_ok h4 _ _)) (star_ok h3 _ _)) (by rw [star_ok h3, star_ok h4]; rfl) (star_ok h4 _ _)
  · cases h
theorem boot_bi (f : Bi) : bootBuiltins (biN f) = some (biF f) := by cases f <;> decide +kernel
theorem boot_ty (t : Ty) : bootBuiltins (Str.ofString (tyN t)) = some (.type (tyN t)) := by cases t <;> decide +kernel
theorem boot_isi : bootBuiltins "isinstance" = some (.builtin "isinstance") := by decide +kernel
theorem yes_ok {cond : Xp} (h : isYes cond = true) : cond = .k (.bl true) := by
  unfold isYes at h
  split at h
  · rfl
  · cases h
theorem nilX_ok {x : Xp} (h : isNilX x = true) : x = .anil := by
  unfold isNilX at h
  split at h
  · rfl
  · cases h
theorem litC_ok {x : Xp} (h : litC x = true) : ∃ c, litS x = some [c] := by
  unfold litC at h
  split at h
  · exact ⟨_, by assumption⟩
  · cases h
theorem litE_ok {x : Xp} (h : litE x = true) : litS x = some [] := by
  unfold litE at h
  split at h
  · rfl
  · cases h
theorem evOf_some {x : Xp} (h : x ≠ .anil) (m : M R) : evOf x m = M.bind m fun x => M.bind (rdM x) intM := by
  cases x <;> first | rfl | exact absurd rfl h
end
section
variable {n : Nat} {nm : Nms} {cl : Calls} {ec : EC} {N : List Str}
theorem ckK_str {s : List Nat} {e : Expr} (h : ckK (.str s) e = true) : ∃ j p, e = .Constant (.str (txt s)) j p := by
  cases e with
  | Constant c j p =>
    cases c with
    | str x =>
      have h : (decide (x = txt s) && okS s) = true := h
      rw [Bool.and_eq_true] at h
      have := of_decide_eq_true h.1
      subst this
      exact ⟨_, _, rfl⟩
    | _ => cases h
  | _ => cases h
/-- the sign that is struck, with its token -/
theorem tok_ok {sc : Scope} {fx : Str → Bool} {X : Cx} {W : WX} {x : Xp} {e : Expr} {ch : Nat} (c : Gd n nm cl ec N sc fx X W) (ht : nm.tok = true) (hl : litS x = some [ch]) (h : ckE nm N x sc fx e = true) : TokE n X e ch := by
  unfold litS at hl
  split at hl
  · cases hl
    unfold ckE at h
    obtain ⟨j, p, rfl⟩ := ckK_str h
    exact tokE_k (c.n1 ht)
  · cases hl
    unfold ckE at h
    split at h
    · rw [Bool.and_eq_true] at h
      obtain ⟨h1, h2⟩ := h
      split at h1
      · rename_i z d' eg
        rw [Bool.and_eq_true] at h1
        have e1 := of_decide_eq_true h1.1
        subst e1
        have e2 := sameD_ok h1.2
        subst e2
        obtain ⟨u, v, hm, rv, rp, tk⟩ := c.gls _ _ _ eg
        obtain ⟨t, rfl, t0, tn⟩ := tk ht _ rfl
        obtain ⟨g1, g2, g3⟩ := glC_ok c h2
        exact tokE_g g1 hm t0 tn g2
      · cases h1
    · cases h
  · cases hl
def MainE (n : Nat) (nm : Nms) (cl : Calls) (ec : EC) (N : List Str) (m : Xp) : Prop :=
  (∀ sc fx e X W, Gd n nm cl ec N sc fx X W → ckE nm N m sc fx e = true → GoodE n X W ec cl m e) ∧ (∀ sc fx es X W, Gd n nm cl ec N sc fx X W → ckA nm N m sc fx es = true → QA n X es (tMA W ec X.K (evA cl m)))
theorem noA {m : Xp} (h : ∀ sc fx es, ckA nm N m sc fx es = false) : ∀ sc fx es X W, Gd n nm cl ec N sc fx X W → ckA nm N m sc fx es = true → QA n X es (tMA W ec X.K (evA cl m)) := fun sc fx es X W _ z => by rw [h] at z; cases z
theorem main_k (d : D) : MainE n nm cl ec N (.k d) := by
  refine ⟨fun sc fx e X W c h => ?_, noA fun _ _ _ => by unfold ckA; rfl⟩
  unfold ckE at h
  obtain ⟨v, hv, pe, cc, j, p, rfl⟩ := ckK_ok h
  exact .plain rfl ((QE.of (pe X)).weak fun _ _ _ q => k_reads (fun Hf => hv _ Hf) q)
theorem main_g (i : Nat) (d : D) : MainE n nm cl ec N (.g i d) := by
  refine ⟨fun sc fx e X W c h => ?_, noA fun _ _ _ => by unfold ckA; rfl⟩
  unfold ckE at h
  split at h
  · rw [Bool.and_eq_true] at h
    obtain ⟨h1, h2⟩ := h
    split at h1
    · rename_i z d' eg
      rw [Bool.and_eq_true] at h1
      have e1 := of_decide_eq_true h1.1
      subst e1
      have e2 := sameD_ok h1.2
      subst e2
      obtain ⟨u, v, hm, rv, rp, tk⟩ := c.gls _ _ _ eg
      obtain ⟨g1, g2, g3⟩ := glC_ok c h2
      exact .plain rfl ((QE.of (pe_glob g1 hm rv g2)).weak fun _ _ _ q => k_reads rp q)
    · cases h1
  · cases h
theorem main_v (i : Nat) : MainE n nm cl ec N (.v i) := by
  refine ⟨fun sc fx e X W c h => ?_, noA fun _ _ _ => by unfold ckA; rfl⟩
  unfold ckE at h
  split at h
  · simp only [Bool.and_eq_true] at h
    obtain ⟨⟨h1, h2⟩, h3⟩ := h
    obtain ⟨a1, a2, a3⟩ := nameOk_ok h3
    exact .plain rfl ((QE.of (pe_var (by rw [c.hN]; exact of_decide_eq_true h1) (by rw [c.scp]; exact visC_ok h2) a1 a2)).weak fun _ _ _ q => var_reads q)
  · cases h
theorem main_bin (o : BOp) {a b : Xp} (ha : MainE n nm cl ec N a) (hb : MainE n nm cl ec N b) : MainE n nm cl ec N (.bin o a b) := by
  refine ⟨fun sc fx e X W c h => ?_, noA fun _ _ _ => by unfold ckA; rfl⟩
  unfold ckE at h
  split at h
  · simp only [Bool.and_eq_true] at h
    obtain ⟨⟨h1, h2⟩, h3⟩ := h
    have := of_decide_eq_true h1
    subst this
    exact .plain rfl ((qe_op (bin_ok o) (ha.1 _ _ _ _ _ c h2).qe (hb.1 _ _ _ _ _ c h3).qe).weak fun _ _ _ q => op2_reads _ _ _ q)
  · cases h
theorem main_neg {a : Xp} (ha : MainE n nm cl ec N a) : MainE n nm cl ec N (.neg a) := by
  refine ⟨fun sc fx e X W c h => ?_, noA fun _ _ _ => by unfold ckA; rfl⟩
  unfold ckE at h
  split at h
  · rename_i a' pos
    have q : QE n X (.UnaryOp .USub a' pos) (tM W ec X.K (evE cl (.neg a))) := (qe_un un_neg (ha.1 _ _ _ _ _ c h).qe).weak fun _ _ _ q => neg_reads q
    exact .noB rfl q ((qt_plain q (fun _ => rfl)).weak fun _ _ _ q => tst_reads q)
  · cases h
theorem main_nt {a : Xp} (ha : MainE n nm cl ec N a) : MainE n nm cl ec N (.nt a) := by
  refine ⟨fun sc fx e X W c h => ?_, noA fun _ _ _ => by unfold ckA; rfl⟩
  unfold ckE at h
  split at h
  · have g := ha.1 _ _ _ _ _ c h
    exact .noB rfl ((qe_not g.qe).weak fun _ _ _ q => not_reads q) ((qt_not g.qt).weak fun _ _ _ q => tnot_reads q)
  · cases h
theorem main_and {a b : Xp} (ha : MainE n nm cl ec N a) (hb : MainE n nm cl ec N b) : MainE n nm cl ec N (.and a b) := by
  refine ⟨fun sc fx e X W c h => ?_, noA fun _ _ _ => by unfold ckA; rfl⟩
  unfold ckE at h
  split at h
  · rename_i x y rest pos
    rw [Bool.and_eq_true] at h
    have g := ha.1 _ _ _ _ _ c h.1
    have k := hb.1 _ _ _ _ _ c h.2
    cases rest with
    | nil =>
      have w := (qw_and (pos := pos) g.qt (qw_and1 (pos := pos) k.qt)).test.weak fun _ _ _ q => tand_reads (W := W) (ec := ec) q
      exact ⟨(qe_and g.qe (qe_one k.qe)).weak fun _ _ _ q => and_reads q, w, fun _ => fun wh pins s τ G Q hn I q => qw_and (pos := pos) g.qt (qw_and1 (pos := pos) k.qt) wh pins s τ G Q hn I (tand_reads q)⟩
    | cons r rest =>
      have k2 := k.qw rfl
      exact ⟨(qe_and g.qe k.qe).weak fun _ _ _ q => and_reads q, (qw_and (pos := pos) g.qt k2).test.weak fun _ _ _ q => tand_reads q, fun _ => fun wh pins s τ G Q hn I q => qw_and (pos := pos) g.qt k2 wh pins s τ G Q hn I (tand_reads q)⟩
  · cases h
theorem main_or {a b : Xp} (ha : MainE n nm cl ec N a) (hb : MainE n nm cl ec N b) : MainE n nm cl ec N (.or a b) := by
  refine ⟨fun sc fx e X W c h => ?_, noA fun _ _ _ => by unfold ckA; rfl⟩
  unfold ckE at h
  split at h
  · rename_i x y rest pos
    rw [Bool.and_eq_true] at h
    have g := ha.1 _ _ _ _ _ c h.1
    have k := hb.1 _ _ _ _ _ c h.2
    cases rest with
    | nil =>
      have w := (qw_or (pos := pos) g.qt (qw_or1 (pos := pos) k.qt)).test.weak fun _ _ _ q => tor_reads (W := W) (ec := ec) q
      exact ⟨(qe_or g.qe (qe_one k.qe)).weak fun _ _ _ q => or_reads q, w, fun _ => fun wh pins s τ G Q hn I q => qw_or (pos := pos) g.qt (qw_or1 (pos := pos) k.qt) wh pins s τ G Q hn I (tor_reads q)⟩
    | cons r rest =>
      have k2 := k.qw rfl
      exact ⟨(qe_or g.qe k.qe).weak fun _ _ _ q => or_reads q, (qw_or (pos := pos) g.qt k2).test.weak fun _ _ _ q => tor_reads q, fun _ => fun wh pins s τ G Q hn I q => qw_or (pos := pos) g.qt k2 wh pins s τ G Q hn I (tor_reads q)⟩
  · cases h
theorem main_cmp (o : COp) {a b : Xp} (ha : MainE n nm cl ec N a) (hb : MainE n nm cl ec N b) : MainE n nm cl ec N (.cmp o a b) := by
  refine ⟨fun sc fx e X W c h => ?_, noA fun _ _ _ => by unfold ckA; rfl⟩
  unfold ckE at h
  split at h
  · simp only [Bool.and_eq_true, Bool.not_eq_true'] at h
    obtain ⟨⟨⟨h1, h2⟩, h3⟩, h4⟩ := h
    have := of_decide_eq_true h1
    subst this
    have g := (ha.1 _ _ _ _ _ c h3).qe
    have k := (hb.1 _ _ _ _ _ c h4).qe
    exact .noB rfl ((qe_cmp (cmp_ok c.un o) g k h2).weak fun _ _ _ q => op2_reads _ _ _ q) ((qt_cmp (cmp_ok c.un o) g k h2).weak fun _ _ _ q => tst_bl (fun _ _ _ z => op2_bl z) (fun _ z => op2_reads _ _ _ z) q)
  · cases h
theorem main_chn (o o' : COp) {a b d : Xp} (ha : MainE n nm cl ec N a) (hb : MainE n nm cl ec N b) (hd : MainE n nm cl ec N d) : MainE n nm cl ec N (.chn o o' a b d) := by
  refine ⟨fun sc fx e X W c h => ?_, noA fun _ _ _ => by unfold ckA; rfl⟩
  unfold ckE at h
  split at h
  · simp only [Bool.and_eq_true, Bool.not_eq_true'] at h
    obtain ⟨⟨⟨⟨⟨h1, h2⟩, h3⟩, h4⟩, h5⟩, h6⟩ := h
    have := of_decide_eq_true h1
    subst this
    have := of_decide_eq_true h2
    subst this
    have g := (ha.1 _ _ _ _ _ c h4).qe
    have k := (hb.1 _ _ _ _ _ c h5).qe
    have l := (hd.1 _ _ _ _ _ c h6).qe
    exact .noB rfl ((qe_chain (cmp_ok c.un o) (cmp_ok c.un o') g k l h3).weak fun _ _ _ q => chn_reads q)
      ((qt_chain (cmp_ok c.un o) (cmp_ok c.un o') g k l h3).weak fun _ _ _ q => tst_bl (fun _ _ _ z => chn_bl z) (fun _ z => chn_reads z) q)
  · cases h
theorem main_ife {t a b : Xp} (ht : MainE n nm cl ec N t) (ha : MainE n nm cl ec N a) (hb : MainE n nm cl ec N b) : MainE n nm cl ec N (.ife t a b) := by
  refine ⟨fun sc fx e X W c h => ?_, noA fun _ _ _ => by unfold ckA; rfl⟩
  unfold ckE at h
  split at h
  · simp only [Bool.and_eq_true] at h
    obtain ⟨⟨h1, h2⟩, h3⟩ := h
    have g := ht.1 _ _ _ _ _ c h1
    have k := ha.1 _ _ _ _ _ c h2
    have l := hb.1 _ _ _ _ _ c h3
    exact .noB rfl ((qe_if g.qt k.qe l.qe).weak fun _ _ _ q => if_reads q) ((qt_if g.qt k.qt l.qt).weak fun _ _ _ q => tif_reads q)
  · cases h
theorem main_tup {es : Xp} (ha : MainE n nm cl ec N es) : MainE n nm cl ec N (.tup es) := by
  refine ⟨fun sc fx e X W c h => ?_, noA fun _ _ _ => by unfold ckA; rfl⟩
  unfold ckE at h
  split at h
  · exact .plain rfl ((qe_tup (ha.2 _ _ _ _ _ c h)).weak fun _ _ _ q => tup_reads q)
  · cases h
theorem main_lst {es : Xp} (ha : MainE n nm cl ec N es) : MainE n nm cl ec N (.lst es) := by
  refine ⟨fun sc fx e X W c h => ?_, noA fun _ _ _ => by unfold ckA; rfl⟩
  unfold ckE at h
  split at h
  · exact .plain rfl ((qe_lst (ha.2 _ _ _ _ _ c h)).weak fun _ _ _ q => lst_reads q)
  · cases h
theorem main_ix {a b : Xp} (ha : MainE n nm cl ec N a) (hb : MainE n nm cl ec N b) : MainE n nm cl ec N (.ix a b) := by
  refine ⟨fun sc fx e X W c h => ?_, noA fun _ _ _ => by unfold ckA; rfl⟩
  unfold ckE at h
  split at h
  · simp only [Bool.and_eq_true] at h
    obtain ⟨⟨h1, h2⟩, h3⟩ := h
    exact .plain rfl ((qe_ix ix_ok (ha.1 _ _ _ _ _ c h2).qe (hb.1 _ _ _ _ _ c h3).qe (slice_ok h1)).weak fun _ _ _ q => op2_reads _ _ _ q)
  · cases h
theorem part_ok {lo : Xp} {X : Cx} {W : WX} {sc : Scope} {fx : Str → Bool} {lo' : Option Expr} (hl : MainE n nm cl ec N lo) (c : Gd n nm cl ec N sc fx X W) (h : (match lo' with
      | none => isNilX lo
      | some x => ckE nm N lo sc fx x) = true) : QO n X lo' (tMO W ec X.K (evOf lo (evE cl lo))) := by
  cases lo' with
  | none =>
    cases nilX_ok h
    exact qo_none.weak fun _ _ _ q => no_reads q
  | some x =>
    have h : ckE nm N lo sc fx x = true := h
    have hn : lo ≠ .anil := fun z => by subst z; unfold ckE at h; cases h
    rw [evOf_some hn]
    exact (qo_some (hl.1 _ _ _ _ _ c h).qe).weak fun _ _ _ q => part_reads q
theorem main_sl {a lo hi : Xp} (ha : MainE n nm cl ec N a) (hl : MainE n nm cl ec N lo) (hu : MainE n nm cl ec N hi) : MainE n nm cl ec N (.sl a lo hi) := by
  refine ⟨fun sc fx e X W c h => ?_, noA fun _ _ _ => by unfold ckA; rfl⟩
  unfold ckE at h
  split at h
  · rw [Bool.and_eq_true, Bool.and_eq_true] at h
    obtain ⟨⟨h1, h2⟩, h3⟩ := h
    exact .plain rfl ((qe_slice sl_ok (ha.1 _ _ _ _ _ c h1).qe (part_ok hl c h2) (part_ok hu c h3)).weak fun _ _ _ q => sl_reads q)
  · cases h
theorem main_rev {a : Xp} (ha : MainE n nm cl ec N a) : MainE n nm cl ec N (.rev a) := by
  refine ⟨fun sc fx e X W c h => ?_, noA fun _ _ _ => by unfold ckA; rfl⟩
  unfold ckE at h
  split at h
  · exact .plain rfl ((qe_rev (ha.1 _ _ _ _ _ c h).qe).weak fun _ _ _ q => rev_reads q)
  · cases h
theorem main_bi (f : Bi) {es : Xp} (ha : MainE n nm cl ec N es) : MainE n nm cl ec N (.bi f es) := by
  refine ⟨fun sc fx e X W c h => ?_, noA fun _ _ _ => by unfold ckA; rfl⟩
  unfold ckE at h
  split at h
  · simp only [Bool.and_eq_true] at h
    obtain ⟨⟨h1, h2⟩, h3⟩ := h
    have := of_decide_eq_true h1
    subst this
    have st := ckA_stars _ _ h3
    obtain ⟨g1, g2, g3⟩ := glC_ok c h2
    have q := ha.2 _ _ _ _ _ c h3
    have hm : X.mg (biN f) = none := c.blt _ (by cases f <;> decide)
    have he := star_ok (st _ List.mem_cons_self)
    have hpl := fun pos => stars_none X.env pos (fun x hx => st x (List.mem_cons_of_mem _ hx))
    refine .plain rfl ?_
    have bo := bi_ok (X := X) c.calm f
    have bb := boot_bi f
    cases f with
    | list => exact (qe_callTy bo g1 hm bb q g3 g2 (he _ _) (hpl _)).weak fun _ _ _ q => opA_reads _ _ _ q
    | tuple => exact (qe_callTy bo g1 hm bb q g3 g2 (he _ _) (hpl _)).weak fun _ _ _ q => opA_reads _ _ _ q
    | int => exact (qe_callTy bo g1 hm bb q g3 g2 (he _ _) (hpl _)).weak fun _ _ _ q => opA_reads _ _ _ q
    | len => exact (qe_callB bo g1 hm bb q g3 g2 (he _ _) (hpl _)).weak fun _ _ _ q => opA_reads _ _ _ q
    | all => exact (qe_callB bo g1 hm bb q g3 g2 (he _ _) (hpl _)).weak fun _ _ _ q => opA_reads _ _ _ q
    | any => exact (qe_callB bo g1 hm bb q g3 g2 (he _ _) (hpl _)).weak fun _ _ _ q => opA_reads _ _ _ q
    | sum => exact (qe_callB bo g1 hm bb q g3 g2 (he _ _) (hpl _)).weak fun _ _ _ q => opA_reads _ _ _ q
    | max => exact (qe_callB bo g1 hm bb q g3 g2 (he _ _) (hpl _)).weak fun _ _ _ q => opA_reads _ _ _ q
    | min => exact (qe_callB bo g1 hm bb q g3 g2 (he _ _) (hpl _)).weak fun _ _ _ q => opA_reads _ _ _ q
  · cases h
theorem main_isi (t : Ty) {a : Xp} (ha : MainE n nm cl ec N a) : MainE n nm cl ec N (.isi t a) := by
  refine ⟨fun sc fx e X W c h => ?_, noA fun _ _ _ => by unfold ckA; rfl⟩
  unfold ckE at h
  split at h
  · simp only [Bool.and_eq_true] at h
    obtain ⟨⟨⟨⟨⟨h1, h2⟩, h3⟩, h4⟩, h5⟩, h6⟩ := h
    have := of_decide_eq_true h1
    subst this
    have := of_decide_eq_true h3
    subst this
    obtain ⟨g1, g2, g3⟩ := glC_ok c h2
    obtain ⟨k1, k2, k3⟩ := glC_ok c h4
    have q := (ha.1 _ _ _ _ _ c h6).qe
    have hm : X.mg (Str.ofString (tyN t)) = none := c.blt _ (by cases t <;> decide)
    exact .plain rfl ((qe_callB call_isi g1 (c.blt _ (by decide)) boot_isi (qa_cons q (qa_cons (QE.of (pe_bltn (v := .ty (tyN t)) k1 hm (boot_ty t) rfl k3 k2)) qa_nil rfl) (star_ok h5 _ _)) g3 g2 (star_ok h5 _ _) rfl).weak fun _ _ _ q => isi_reads q)
  · cases h
theorem main_repl {a x y : Xp} (ha : MainE n nm cl ec N a) : MainE n nm cl ec N (.repl a x y) := by
  refine ⟨fun sc fx e X W c h => ?_, noA fun _ _ _ => by unfold ckA; rfl⟩
  unfold ckE at h
  split at h
  · simp only [Bool.and_eq_true] at h
    obtain ⟨⟨⟨⟨⟨⟨⟨⟨⟨⟨h1, h2⟩, h3⟩, h4⟩, h5⟩, h6⟩, h7⟩, h8⟩, h9⟩, h10⟩, h11⟩ := h
    have := of_decide_eq_true h1
    subst this
    have := of_decide_eq_true h4
    subst this
    obtain ⟨ch, hl⟩ := litC_ok h5
    refine .plain rfl (qe_repl (c.n1 h11) hl (litE_ok h6) (ha.1 _ _ _ _ _ c h9).qe (tok_ok c h11 hl h10) ?_ (base_ok h2 _ _) h3)
    rw [star_ok h8]; rfl
  · cases h
theorem mt_fn {X : Cx} (m : Mt) : MtR X (match m with | .join => "str.join" | .count => "str.count") (rDM X.K fun p ps => (strOf p).bind fun s => mtD m (.str s) ps) := by
  have e : ∀ m, (fun (p : D) (ps : List D) => (strOf p).bind fun s => mtD m (.str s) ps) = fun p ps => (strOf p).bind fun s => mtD m p ps := fun m => by
    funext p ps
    cases p <;> rfl
  have sub : ∀ m x xs H Q, rDM X.K (fun p ps => (strOf p).bind fun s => mtD m (.str s) ps) x xs H Q → rDM X.K (mtD m) x xs H Q := fun m x xs H Q ⟨Hf, p, ps, r, ex, h1, h2, h3, h4⟩ => by
    obtain ⟨s, e1, e2⟩ := bind_of h3
    cases str_of e1
    exact ⟨Hf, _, ps, r, ex, h1, h2, e2, h4⟩
  cases m with
  | join => exact fun pins s σ H x xs v us Q I rx rxs h => join_ok pins s σ H x xs v us Q I rx rxs (sub _ _ _ _ _ h)
  | count => exact fun pins s σ H x xs v us Q I rx rxs h => count_ok pins s σ H x xs v us Q I rx rxs (sub _ _ _ _ _ h)
theorem main_mt (m : Mt) {a es : Xp} (ha : MainE n nm cl ec N a) (hs : MainE n nm cl ec N es) : MainE n nm cl ec N (.mt m a es) := by
  refine ⟨fun sc fx e X W c h => ?_, noA fun _ _ _ => by unfold ckA; rfl⟩
  unfold ckE at h
  split at h
  · simp only [Bool.and_eq_true] at h
    obtain ⟨⟨⟨⟨h1, h2⟩, h3⟩, h4⟩, h5⟩ := h
    have := of_decide_eq_true h1
    subst this
    have st := ckA_stars _ _ h5 _ List.mem_cons_self
    have q := (ha.1 _ _ _ _ _ c h4).qe
    have r := hs.2 _ _ _ _ _ c h5
    refine .plain rfl ?_
    have k := mt_fn (X := X) m
    cases m with
    | join => exact (qe_bm PySem.F.plainAttrs_str PySem.F.slot_str_join PySem.F.type_str_join k q r (base_ok h2 _ _) (few1 st _ _) h3 (star_ok st _ _) rfl).weak fun _ _ _ q => meth_reads q
    | count => exact (qe_bm PySem.F.plainAttrs_str PySem.F.slot_str_count PySem.F.type_str_count k q r (base_ok h2 _ _) (few1 st _ _) h3 (star_ok st _ _) rfl).weak fun _ _ _ q => meth_reads q
  · cases h
theorem main_mm (m : Mm) (i : Nat) {es : Xp} (hs : MainE n nm cl ec N es) : MainE n nm cl ec N (.mm m i es) := by
  refine ⟨fun sc fx e X W c h => ?_, noA fun _ _ _ => by unfold ckA; rfl⟩
  unfold ckE at h
  split at h
  · rename_i y p nme apos as pos
    rw [Bool.and_eq_true, Bool.and_eq_true, Bool.and_eq_true, Bool.and_eq_true, Bool.and_eq_true, Bool.and_eq_true] at h
    obtain ⟨⟨⟨⟨⟨⟨h1, h2⟩, h3⟩, h4⟩, h5⟩, h6⟩, h7⟩ := h
    have := of_decide_eq_true h1
    subst this
    obtain ⟨a1, a2, a3⟩ := nameOk_ok h5
    have q : QE n X (.Name y p) (tVar i) := QE.of (pe_var (by rw [c.hN]; exact of_decide_eq_true h3) (by rw [c.scp]; exact visC_ok h4) a1 a2)
    have r := hs.2 _ _ _ _ _ c h7
    refine .plain rfl ?_
    split at h6
    · have st := ckA_stars _ _ h7 _ List.mem_cons_self
      exact (qe_bm PySem.F.plainAttrs_list PySem.F.slot_list_append PySem.F.type_list_append append_ok q r rfl (few1 st _ _) h2 (star_ok st _ _) rfl).weak fun _ _ _ q => mm_reads q
    · refine (qe_bm0 PySem.F.plainAttrs_list PySem.F.slot_list_pop PySem.F.type_list_pop pop_ok q rfl h2).weak fun τ G Q q => ?_
      cases es with
      | anil =>
        obtain ⟨v, e1, ty, q⟩ := mm_reads q
        exact ⟨v, e1, ty, nil_reads q⟩
      | _ => unfold ckA at h7; cases h7
    · have st := ckA_stars _ _ h7 _ List.mem_cons_self
      exact (qe_bm PySem.F.plainAttrs_list PySem.F.slot_list_pop PySem.F.type_list_pop popAt_ok q r rfl (few1 st _ _) h2 (star_ok st _ _) rfl).weak fun _ _ _ q => mm_reads q
    · cases h6
  · cases h
theorem main_call (f : Nat) {es : Xp} (ha : MainE n nm cl ec N es) : MainE n nm cl ec N (.call f es) := by
  refine ⟨fun sc fx e X W c h => ?_, noA fun _ _ _ => by unfold ckA; rfl⟩
  unfold ckE at h
  split at h
  · simp only [Bool.and_eq_true] at h
    obtain ⟨⟨h1, h2⟩, h3⟩ := h
    have st := ckA_stars _ _ h3
    obtain ⟨g1, g2, g3⟩ := glC_ok c h2
    have q := ha.2 _ _ _ _ _ c h3
    obtain ⟨a, fd, ps, k, np, F, hr, hm, hk, hb, hnp⟩ := c.fns _ _ (of_decide_eq_true h1)
    exact .plain rfl ((qe_call F hr g1 hm hk hb (passAt c.tk) q g2 (star_ok (st _ List.mem_cons_self) _ _) (stars_none X.env _ (fun x hx => st x (List.mem_cons_of_mem _ hx)))).weak fun _ _ _ q => call_reads hnp _ _ _ q)
  · cases h
theorem main_lc {elt : Xp} (t : Tg) (ik : ItK) {a b cond : Xp} (own : List Nat) (he : MainE n nm cl ec N elt) (ha : MainE n nm cl ec N a) (hb : MainE n nm cl ec N b) (hc : MainE n nm cl ec N cond) : MainE n nm cl ec N (.lc elt t ik a b cond own) := by
  refine ⟨fun sc fx e X W c h => ?_, noA fun _ _ _ => by unfold ckA; rfl⟩
  unfold ckE at h
  split at h
  · rename_i elt' tg iter ifs scope pos
    rw [Bool.and_eq_true, Bool.and_eq_true, Bool.and_eq_true, Bool.and_eq_true, Bool.and_eq_true, Bool.and_eq_true] at h
    obtain ⟨⟨⟨⟨⟨⟨h1, h2⟩, h3⟩, h4⟩, h5⟩, h6⟩, h7⟩ := h
    have ok : BlkOk X.N X.env.scope scope (blkOwn N own) := by rw [c.hN, c.scp]; exact blkOk_by h1
    have ts := of_decide_eq_true h2
    have qi := ckIt_ok (tg := tg) c (fun e z => (ha.1 _ _ _ _ _ c z).qe) (fun e z => (hb.1 _ _ _ _ _ c z).qe) h4
    have nd : X.N.Nodup := by rw [c.hN]; exact c.nd
    have he' : ∀ (s : Shared) (H : Hp) (C : Addr) (cs : List (Str × Addr)) (fp : List Addr), QE n (X.blk s H scope (compEnvC scope cs C X.env) fp) elt' (tM W0 ec X.K (evE cl elt)) := fun s H C cs fp => (he.1 _ _ _ _ _ (c.blk s H C cs fp scope) h6).qe
    have hg' : ∀ (s : Shared) (H : Hp) (C : Addr) (cs : List (Str × Addr)) (fp : List Addr), PG (X.blk s H scope (compEnvC scope cs C X.env) fp) tg (gTg X.K t) := fun s H C cs fp => ckT_ok (c.blk s H C cs fp scope) h3
    refine .plain rfl ?_
    cases ifs with
    | nil =>
      cases yes_ok h5
      have z := qe_lc (pos := pos) c.calm nd qi ok hg' (fun s H C cs fp => qts_nil) he' (set_ok h7 _)
      rw [blkOwn_snd] at z
      exact z.weak fun _ _ _ q => lc_reads ts (fun _ _ _ ⟨ρ, Hf, S, h⟩ => h Hf _ (.refl S)) q
    | cons cd r =>
      cases r with
      | cons _ _ => cases h5
      | nil =>
        have h5 : ckE nm N cond (relS scope sc) (fun x => scope.names.lookup x == some .cell) cd = true := h5
        have hc' : ∀ (s : Shared) (H : Hp) (C : Addr) (cs : List (Str × Addr)) (fp : List Addr), QTs n (X.blk s H scope (compEnvC scope cs C X.env) fp) [cd] (tMT W0 ec X.K (tst (evE cl cond))) := fun s H C cs fp => qts_one (hc.1 _ _ _ _ _ (c.blk s H C cs fp scope) h5).qt
        have z := qe_lc (pos := pos) c.calm nd qi ok hg' hc' he' (set_ok h7 _)
        rw [blkOwn_snd] at z
        exact z.weak fun _ _ _ q => lc_reads ts (fun _ _ _ z => z) q
  · cases h
theorem main_anil : MainE n nm cl ec N .anil := by
  refine ⟨fun sc fx e X W c h => (by unfold ckE at h; cases h), fun sc fx es X W c h => ?_⟩
  unfold ckA at h
  cases es with
  | nil => exact qa_nil.weak fun _ _ _ q => nil_reads q
  | cons _ _ => cases h
theorem main_acons {a r : Xp} (ha : MainE n nm cl ec N a) (hr : MainE n nm cl ec N r) : MainE n nm cl ec N (.acons a r) := by
  refine ⟨fun sc fx e X W c h => (by unfold ckE at h; cases h), fun sc fx es X W c h => ?_⟩
  unfold ckA at h
  cases es with
  | nil => cases h
  | cons x xs =>
    simp only [Bool.and_eq_true] at h
    exact (qa_cons (ha.1 _ _ _ _ _ c h.1.2).qe (hr.2 _ _ _ _ _ c h.2) (star_ok h.1.1 _ _)).weak fun _ _ _ q => cons_reads q
theorem mainE : ∀ m : Xp, MainE n nm cl ec N m
  | .k d => main_k d
  | .g i d => main_g i d
  | .v i => main_v i
  | .bin o a b => main_bin o (mainE a) (mainE b)
  | .neg a => main_neg (mainE a)
  | .nt a => main_nt (mainE a)
  | .and a b => main_and (mainE a) (mainE b)
  | .or a b => main_or (mainE a) (mainE b)
  | .cmp o a b => main_cmp o (mainE a) (mainE b)
  | .chn o p a b c => main_chn o p (mainE a) (mainE b) (mainE c)
  | .ife t a b => main_ife (mainE t) (mainE a) (mainE b)
  | .tup es => main_tup (mainE es)
  | .lst es => main_lst (mainE es)
  | .anil => main_anil
  | .acons a es => main_acons (mainE a) (mainE es)
  | .ix a i => main_ix (mainE a) (mainE i)
  | .sl a lo hi => main_sl (mainE a) (mainE lo) (mainE hi)
  | .rev a => main_rev (mainE a)
  | .bi f es => main_bi f (mainE es)
  | .isi t a => main_isi t (mainE a)
  | .repl a x y => main_repl (mainE a)
  | .mt m a es => main_mt m (mainE a) (mainE es)
  | .mm m i es => main_mm m i (mainE es)
  | .call f es => main_call f (mainE es)
  | .lc elt t ik a b cond own => main_lc t ik own (mainE elt) (mainE a) (mainE b) (mainE cond)
end
end Itp
end
section
set_option Elab.async false
set_option linter.all false
set_option maxRecDepth 100000
set_option maxHeartbeats 4000000
set_option autoImplicit false
/-! Statements: what they leave. -/
namespace Itp
open PySem PySem.Spec PyProof.Rows L2
open Evl (Ex)
section
variable {W : WX} {ec : EC} {K : PySem.W.Frag} {σ σ' σ0 σ1 σ2 : L2.St} {ρ ρ0 ρ1 ρ2 ρ' : Env} {Hf H Hf0 H0 Hf1 H1 Hf2 H2 Hf' H' : Hp}
/-- what is handed back -/
def RetR (K : PySem.W.Frag) (ρ : Env) (σ : L2.St) (H Hf' H' : Hp) : RV → V → Prop
  | .val d, v => Rp K Hf' v d
  | .own o, v => ∃ a, v = .ref a ∧ Hf' a = none ∧ ObR K Hf' H' a o ∧ (H a = none ∨ ∃ (i : Nat) (x : Ob), OwnAt ρ i false x ∧ σ[i]? = some (some (.ref a)))
theorem PostS.own0 (S0 : Sim K ρ0 σ0 Hf0 H0) (p : PostS K ρ0 σ0 Hf0 H0 ρ1 σ1 Hf1 H1) {i : Nat} {x : Ob} {a : Addr} (e : OwnAt ρ1 i false x) (ea : σ1[i]? = some (some (.ref a))) :
    H0 a = none ∨ ∃ (j : Nat) (y : Ob), OwnAt ρ0 j false y ∧ σ0[j]? = some (some (.ref a)) := by
  rcases p.own a ⟨i, false, x, e, ea⟩ with ⟨j, io, y, ej, eb⟩ | z
  · cases io with
    | false => exact .inr ⟨j, y, ej, eb⟩
    | true =>
      obtain ⟨⟨y', ej'⟩, es⟩ := p.io j y ej
      have := p.sim.inj i j false x true y' a e ej' ea (by rw [es]; exact eb)
      subst this
      rw [OwnAt, e] at ej'
      cases ej'
  · exact .inl z
theorem RetR.back (S0 : Sim K ρ0 σ0 Hf0 H0) (p : PostS K ρ0 σ0 Hf0 H0 ρ1 σ1 Hf1 H1) {r : RV} {v : V} (h : RetR K ρ1 σ1 H1 Hf' H' r v) : RetR K ρ0 σ0 H0 Hf' H' r v := by
  cases r with
  | val d => exact h
  | own o =>
    obtain ⟨a, e1, e2, e3, e4⟩ := h
    refine ⟨a, e1, e2, e3, ?_⟩
    rcases e4 with z | ⟨i, x, ei, ea⟩
    · exact .inl (p.gr.back z)
    · exact p.own0 S0 ei ea
def endC (D : Ends) (K : PySem.W.Frag) (ρ : Env) (σ : L2.St) (Hf H : Hp) : Fl → Env → Prop
  | .next, ρ' => ∀ σ' Hf' H', PostS K ρ σ Hf H ρ' σ' Hf' H' → D.nx σ' H'
  | .brk, ρ' => ∀ σ' Hf' H', PostS K ρ σ Hf H ρ' σ' Hf' H' → D.bk σ' H'
  | .cont, ρ' => ∀ σ' Hf' H', PostS K ρ σ Hf H ρ' σ' Hf' H' → D.ct σ' H'
  | .ret r, ρ' => ∀ v σ' Hf' H', PostS K ρ σ Hf H ρ' σ' Hf' H' → RetR K ρ σ H Hf' H' r v → D.rt v H'
def XS (W : WX) (ec : EC) (K : PySem.W.Frag) (ρ : Env) (σ : L2.St) (Hf H : Hp) : Exn → Env → Prop := fun x ρ' => ∀ c d σ' Hf' H', PostS K ρ σ Hf H ρ' σ' Hf' H' → ec x c d H' → W c d σ' H'
def tS (W : WX) (ec : EC) (K : PySem.W.Frag) (f : M Fl) : TS := fun D σ H => ∃ ρ Hf, Sim K ρ σ Hf H ∧ Run f ρ (endC D K ρ σ Hf H) (XS W ec K ρ σ Hf H)
theorem endC.trans {D : Ends} (S0 : Sim K ρ0 σ0 Hf0 H0) (p : PostS K ρ0 σ0 Hf0 H0 ρ1 σ1 Hf1 H1) {f : Fl} (h : endC D K ρ0 σ0 Hf0 H0 f ρ') : endC D K ρ1 σ1 Hf1 H1 f ρ' := by
  cases f with
  | next => exact fun σ' Hf' H' q => h σ' Hf' H' (p.trans q)
  | brk => exact fun σ' Hf' H' q => h σ' Hf' H' (p.trans q)
  | cont => exact fun σ' Hf' H' q => h σ' Hf' H' (p.trans q)
  | ret r => exact fun v σ' Hf' H' q rr => h v σ' Hf' H' (p.trans q) (rr.back S0 p)
theorem XS.trans (p : PostS K ρ0 σ0 Hf0 H0 ρ1 σ1 Hf1 H1) {x : Exn} (h : XS W ec K ρ0 σ0 Hf0 H0 x ρ') : XS W ec K ρ1 σ1 Hf1 H1 x ρ' := fun c d σ' Hf' H' q e => h c d σ' Hf' H' (p.trans q) e
theorem XS.xw (p : PostS K ρ0 σ0 Hf0 H0 ρ1 σ1 Hf1 H1) {x : Exn} (h : XS W ec K ρ0 σ0 Hf0 H0 x ρ') : XW W ec K σ1 ρ1 Hf1 H1 x ρ' := fun c d Hf' H' q e => h c d σ1 Hf' H' (p.trans q.s) e
/-- an expression in a statement -/
theorem stepME {β : Type} {C : β → Env → Prop} {f : M R} {g : R → M β} {G : VK} (p : PostS K ρ0 σ0 Hf0 H0 ρ1 σ1 Hf1 H1) (h : Run (M.bind f g) ρ1 C (XS W ec K ρ0 σ0 Hf0 H0))
    (q : ∀ r ρ2 v Hf2 H2, Post K σ1 ρ1 Hf1 H1 ρ2 Hf2 H2 → RRel K H1 σ1 ρ2 Hf2 H2 r v → Run (g r) ρ2 C (XS W ec K ρ0 σ0 Hf0 H0) → G v H2) : tM W ec K f σ1 H1 G :=
  ⟨ρ1, Hf1, p.sim, h.bind.imp (fun r ρ2 hr v Hf2 H2 p2 rr => q r ρ2 v Hf2 H2 p2 rr hr) fun x ρ2 hx => hx.xw p⟩
theorem stepTE {β : Type} {C : β → Env → Prop} {f : M Bool} {g : Bool → M β} {G : Bool → Hp → Prop} (p : PostS K ρ0 σ0 Hf0 H0 ρ1 σ1 Hf1 H1) (h : Run (M.bind f g) ρ1 C (XS W ec K ρ0 σ0 Hf0 H0))
    (q : ∀ b ρ2 Hf2 H2, Post K σ1 ρ1 Hf1 H1 ρ2 Hf2 H2 → Run (g b) ρ2 C (XS W ec K ρ0 σ0 Hf0 H0) → G b H2) : tMT W ec K f σ1 H1 G :=
  ⟨ρ1, Hf1, p.sim, h.bind.imp (fun r ρ2 hr Hf2 H2 p2 => q r ρ2 Hf2 H2 p2 hr) fun x ρ2 hx => hx.xw p⟩
/-- a statement in a statement, at its end -/
theorem endS {D : Ends} {f : M Fl} (S0 : Sim K ρ0 σ0 Hf0 H0) (p : PostS K ρ0 σ0 Hf0 H0 ρ1 σ1 Hf1 H1) (h : Run f ρ1 (endC D K ρ0 σ0 Hf0 H0) (XS W ec K ρ0 σ0 Hf0 H0)) : tS W ec K f D σ1 H1 :=
  ⟨ρ1, Hf1, p.sim, h.imp (fun f ρ' q => q.trans S0 p) fun x ρ' q => q.trans p⟩
theorem seq_reads {fa fb : M Fl} {D : Ends} (h : tS W ec K (M.bind fa fun f => match f with | .next => fb | f => M.pure f) D σ H) : tSeq (tS W ec K fa) (tS W ec K fb) D σ H := by
  obtain ⟨ρ, Hf, S, h⟩ := h
  refine ⟨ρ, Hf, S, h.bind.imp (fun f ρ' q => ?_) fun x ρ' q => q⟩
  cases f with
  | next => exact fun σ' Hf' H' p => endS S p q
  | brk => exact q
  | cont => exact q
  | ret r => exact q
theorem ite_reads {ft : M Bool} {fa fb : M Fl} {D : Ends} (h : tS W ec K (M.bind ft fun c => if c then fa else fb) D σ H) : tIfS (tMT W ec K ft) (tS W ec K fa) (tS W ec K fb) D σ H := by
  obtain ⟨ρ, Hf, S, h⟩ := h
  refine stepTE (.refl S) h fun b ρ1 Hf1 H1 p1 h1 => ?_
  cases b with
  | true => rw [if_pos rfl]; exact endS S p1.s h1
  | false => rw [if_neg Bool.false_ne_true]; exact endS S p1.s h1
theorem expr_reads {fa : M R} {D : Ends} (h : tS W ec K (M.bind fa fun _ => M.pure .next) D σ H) : tDrop (tM W ec K fa) D σ H := by
  obtain ⟨ρ, Hf, S, h⟩ := h
  exact stepME (.refl S) h fun r ρ1 v Hf1 H1 p1 _ h1 => h1 σ Hf1 H1 p1.s
/-! ### a slot is stored -/
/-- a value in hand -/
def HandV (K : PySem.W.Frag) (Hf H : Hp) : R → V → Prop
  | .val d, v => Rp K Hf v d
  | .own o, v => ∃ a, v = .ref a ∧ Hf a = none ∧ ObR K Hf H a o
  | .loc _, _ => True
theorem Sim.setO (S : Sim K ρ σ Hf H) {i : Nat} {o : Ob} {a : Addr} (nf : Hf a = none) (ob : ObR K Hf H a o) (na : ¬ Ow ρ σ a) (li : i < ρ.length) : Sim K (ρ.set i (some (.own false o))) (σ.set i (some (.ref a))) Hf H := by
  have li' : i < σ.length := by rw [← S.len]; exact li
  have oth : ∀ {j : Nat} {x : SV}, i ≠ j → (ρ.set i (some (.own false o)))[j]? = some (some x) → ρ[j]? = some (some x) ∧ (σ.set i (some (.ref a)))[j]? = σ[j]? := fun {j x} h e => by
    rw [List.getElem?_set_ne h] at e
    exact ⟨e, List.getElem?_set_ne h⟩
  refine ⟨by rw [List.length_set, List.length_set]; exact S.len, S.sub, fun j d e => ?_, fun j io x e => ?_, fun j k io x io' y b e1 e2 e3 e4 => ?_⟩
  · by_cases h : i = j
    · subst h; rw [List.getElem?_set_self li] at e; cases e
    · obtain ⟨a1, a2⟩ := oth h e; rw [a2]; exact S.val j d a1
  · by_cases h : i = j
    · subst h; rw [OwnAt, List.getElem?_set_self li] at e; cases e
      exact ⟨a, List.getElem?_set_self li', nf, ob⟩
    · obtain ⟨a1, a2⟩ := oth h e; rw [a2]; exact S.own j io x a1
  · by_cases hj : i = j
    · by_cases hk : i = k
      · rw [← hj, ← hk]
      · subst hj
        rw [List.getElem?_set_self li'] at e3; cases e3
        obtain ⟨a1, a2⟩ := oth hk e2
        rw [a2] at e4
        exact (na ⟨k, io', y, a1, e4⟩).elim
    · by_cases hk : i = k
      · subst hk
        rw [List.getElem?_set_self li'] at e4; cases e4
        obtain ⟨a1, a2⟩ := oth hj e1
        rw [a2] at e3
        exact (na ⟨j, io, x, a1, e3⟩).elim
      · obtain ⟨a1, a2⟩ := oth hj e1
        obtain ⟨b1, b2⟩ := oth hk e2
        rw [a2] at e3
        rw [b2] at e4
        exact S.inj j k io x io' y b a1 b1 e3 e4
/-- what a store leaves: nb, the address that was in hand -/
structure Sto (K : PySem.W.Frag) (nb : Addr → Prop) (ρ : Env) (σ : L2.St) (Hf H : Hp) (ρ' : Env) (σ' : L2.St) (Hf' : Hp) : Prop where
  sim : Sim K ρ' σ' Hf' H
  ex : Ex Hf Hf'
  fz : ∀ a, Hf' a ≠ none → Hf a ≠ none ∨ nb a
  own : ∀ a, Ow ρ' σ' a → Ow ρ σ a ∨ nb a
  io : ∀ (i : Nat) (o : Ob), OwnAt ρ i true o → (∃ o', OwnAt ρ' i true o') ∧ σ'[i]? = σ[i]?
  lk : ∀ i : Nat, ρ[i]? = some (some .lck) → ρ'[i]? = some (some .lck) ∧ σ'[i]? = σ[i]?
theorem sto_run {i : Nat} {f : Bool} {r : R} {v : V} {C : Unit → Env → Prop} {E : Exn → Env → Prop} (S : Sim K ρ σ Hf H) (h : Run (stoM i f r) ρ C E) (hr : HandV K Hf H r v) (hn : ∀ o a, r = .own o → v = .ref a → ¬ Ow ρ σ a) :
    ∃ Hf' ρ', C () ρ' ∧ Sto K (fun a => v = .ref a ∧ ∃ o, r = .own o) ρ σ Hf H ρ' (σ.set i (some v)) Hf' := by
  have data : ∀ {d : D} {Hf' : Hp}, Ex Hf Hf' → Ex Hf' H → (∀ a, Hf' a ≠ none → Hf a ≠ none ∨ (v = .ref a ∧ ∃ o, r = .own o)) → Sim K ρ σ Hf' H → Rp K Hf' v d → Run (setSlot i (.val d)) ρ C E →
      ∃ Hf' ρ', C () ρ' ∧ Sto K (fun a => v = .ref a ∧ ∃ o, r = .own o) ρ σ Hf H ρ' (σ.set i (some v)) Hf' := fun {d Hf'} ex _ fz S' rp h => by
    obtain ⟨li, n1, n2, h⟩ := setSlot_run h
    have p := PostS.set S' rp li n1 n2
    refine ⟨Hf', _, h, p.sim, ex, fz, fun a z => ?_, p.io, p.lk⟩
    rcases p.own a z with q | q
    · exact .inl q
    · obtain ⟨j, io, o, e1, e2⟩ := z
      obtain ⟨b, eb, nb, ob⟩ := p.sim.own j io o e1
      rw [e2] at eb
      cases eb
      exact (ob.there q).elim
  cases r with
  | val d => exact data (fun _ _ h => h) S.sub (fun _ h => .inl h) S hr h
  | loc _ => exact (h : False).elim
  | own o =>
    obtain ⟨a, rfl, nf, ob⟩ := hr
    have na := hn o a rfl rfl
    cases f with
    | true =>
      cases o with
      | dct _ => exact ob.elim
      | lst ds =>
        obtain ⟨vs, e3, r3⟩ := ob
        have h : Run (setSlot i (.val (.lst ds))) ρ C E := h
        have ex : Ex Hf (upd Hf a (.lst vs)) := Ex.new nf
        have g : Grow (fun x => x = a) Hf H (upd Hf a (.lst vs)) H := ⟨ex, fun _ _ h _ => h, fun x hx => by
          by_cases q : x = a
          · exact .inr (.inr q)
          · rw [upd_ne q] at hx; exact .inl hx, fun _ h => h⟩
        refine data ex (sub_frz S.sub e3) (fun x hx => ?_) (S.grow g (sub_frz S.sub e3) fun b hb z => na (z ▸ hb)) (.lst upd_same (Rps.mono ex _ _ r3)) h
        by_cases q : x = a
        · subst q; exact .inr ⟨rfl, _, rfl⟩
        · rw [upd_ne q] at hx; exact .inl hx
    | false =>
      obtain ⟨li, n1, n2, h⟩ := setSlot_run (show Run (setSlot i (.own false o)) ρ C E from h)
      refine ⟨Hf, _, h, S.setO nf ob na li, fun _ _ h => h, fun _ h => .inl h, fun b ⟨j, io, x, e1, e2⟩ => ?_, fun j x e => ?_, fun j e => ?_⟩
      · by_cases hj : i = j
        · subst hj
          rw [List.getElem?_set_self (by rw [← S.len]; exact li)] at e2
          cases e2
          exact .inr ⟨rfl, o, rfl⟩
        · rw [OwnAt, List.getElem?_set_ne hj] at e1
          rw [List.getElem?_set_ne hj] at e2
          exact .inl ⟨j, io, x, e1, e2⟩
      · have hj : i ≠ j := fun z => by subst z; exact n1 x e
        exact ⟨⟨x, by rw [OwnAt, List.getElem?_set_ne hj]; exact e⟩, List.getElem?_set_ne hj⟩
      · have hj : i ≠ j := fun z => by subst z; exact n2 e
        exact ⟨by rw [List.getElem?_set_ne hj]; exact e, List.getElem?_set_ne hj⟩
/-- what is stored came new, or of a slot of the def's own -/
theorem Sto.post {nb : Addr → Prop} (p : PostS K ρ0 σ0 Hf0 H0 ρ1 σ1 Hf1 H) (s : Sto K nb ρ1 σ1 Hf1 H ρ2 σ2 Hf2) (hb : ∀ a, nb a → Ow ρ0 σ0 a ∨ H0 a = none) : PostS K ρ0 σ0 Hf0 H0 ρ2 σ2 Hf2 H where
  sim := s.sim
  gr := ⟨p.gr.ex.trans s.ex, p.gr.fr, fun a z => by
    rcases s.fz a z with q | q
    · exact p.gr.fz a q
    · rcases hb a q with w | w
      · exact .inr (.inr w)
      · exact .inr (.inl w), p.gr.lv⟩
  own := fun a z => by
    rcases s.own a z with q | q
    · exact p.own a q
    · exact hb a q
  io := fun i o e => by
    obtain ⟨⟨o1, e1⟩, s1⟩ := p.io i o e
    obtain ⟨o2, s2⟩ := s.io i o1 e1
    exact ⟨o2, s2.trans s1⟩
  lk := fun i e => ⟨(s.lk i (p.lk i e).1).1, (s.lk i (p.lk i e).1).2.trans (p.lk i e).2⟩
theorem RRel.hand {r : R} {v : V} (h : RRel K H0 σ ρ Hf H r v) : HandV K Hf H r v ∧ ∀ o a, r = .own o → v = .ref a → H0 a = none := by
  cases r with
  | val d => exact ⟨h, fun o a e => nomatch e⟩
  | own o =>
    obtain ⟨a, e1, e2, e3, e4⟩ := h
    exact ⟨⟨a, e1, e2, e3⟩, fun o' b _ e => by rw [e1] at e; cases e; exact e4⟩
  | loc i => exact ⟨True.intro, fun o a e => nomatch e⟩
theorem asg_reads {fa : M R} {i : Nat} {f : Bool} {D : Ends} (h : tS W ec K (M.bind fa fun r => M.bind (stoM i f r) fun _ => M.pure .next) D σ H) : tAsg (tM W ec K fa) (gName i) D σ H := by
  obtain ⟨ρ, Hf, S, h⟩ := h
  refine stepME (.refl S) h fun r ρ1 v Hf1 H1 p1 q1 h1 => ?_
  obtain ⟨hv, hnew⟩ := q1.hand
  have no : ∀ o a, r = .own o → v = .ref a → ¬ Ow ρ1 σ a := fun o a e1 e2 z => ow0 S p1 z (hnew o a e1 e2)
  obtain ⟨Hf2, ρ2, hc, st⟩ := sto_run p1.sim h1.bind hv no
  exact hc _ Hf2 H1 (st.post p1.s fun a ⟨e1, o, e2⟩ => .inr (hnew o a e2 e1))
/-- a slot's object is taken -/
theorem take_run {j : Nat} {C : R → Env → Prop} {E : Exn → Env → Prop} (S : Sim K ρ σ Hf H) (h : Run (takeM j) ρ C E) :
    ∃ r v ρ', σ[j]? = some (some v) ∧ HandV K Hf H r v ∧ C r ρ' ∧ PostS K ρ σ Hf H ρ' σ Hf H ∧ ∀ o a, r = .own o → v = .ref a → ¬ Ow ρ' σ a ∧ ∃ x, OwnAt ρ j false x ∧ σ[j]? = some (some (.ref a)) := by
  unfold Run takeM at h
  cases e : ρ[j]? with
  | none => rw [e] at h; exact h.elim
  | some sl =>
    cases sl with
    | none => rw [e] at h; exact h.elim
    | some x =>
      cases x with
      | val d =>
        rw [e] at h
        obtain ⟨v, e1, r⟩ := S.val j d e
        exact ⟨.val d, v, ρ, e1, r, h, .refl S, fun o a z => nomatch z⟩
      | lck => rw [e] at h; exact h.elim
      | own io o =>
        cases io with
        | true => rw [e] at h; exact h.elim
        | false =>
          rw [e] at h
          obtain ⟨a, ea, nf, ob⟩ := S.own j false o e
          have lj : j < ρ.length := (List.getElem?_eq_some_iff.mp e).1
          have at_ : ∀ {k : Nat} {x : SV}, (ρ.set j none)[k]? = some (some x) → j ≠ k ∧ ρ[k]? = some (some x) := fun {k x} z => by
            by_cases hk : j = k
            · subst hk; rw [List.getElem?_set_self lj] at z; cases z
            · rw [List.getElem?_set_ne hk] at z; exact ⟨hk, z⟩
          have S' : Sim K (ρ.set j none) σ Hf H := ⟨by rw [List.length_set]; exact S.len, S.sub, fun k d z => S.val k d (at_ z).2, fun k io o z => S.own k io o (at_ z).2,
            fun k l io o io' o' a e1 e2 e3 e4 => S.inj k l io o io' o' a (at_ e1).2 (at_ e2).2 e3 e4⟩
          refine ⟨.own o, .ref a, _, ea, ⟨a, rfl, nf, ob⟩, h, ⟨S', .refl, fun b ⟨k, io, x, e1, e2⟩ => .inl ⟨k, io, x, (at_ e1).2, e2⟩, fun k x z => ?_, fun k z => ?_⟩, fun o' b e1 e2 => ?_⟩
          · have hk : j ≠ k := fun q => by subst q; rw [OwnAt, e] at z; cases z
            exact ⟨⟨x, by rw [OwnAt, List.getElem?_set_ne hk]; exact z⟩, rfl⟩
          · have hk : j ≠ k := fun q => by subst q; rw [e] at z; cases z
            exact ⟨by rw [List.getElem?_set_ne hk]; exact z, rfl⟩
          · cases e2
            refine ⟨fun ⟨k, io, x, e1, e2⟩ => ?_, o, e, ea⟩
            obtain ⟨hk, e1'⟩ := at_ e1
            exact hk (S.inj j k false o io x a e e1' ea e2)
theorem mov_reads {i j : Nat} {D : Ends} (h : tS W ec K (M.bind (takeM j) fun r => M.bind (stoM i false r) fun _ => M.pure .next) D σ H) : tAsg (tVar j) (gName i) D σ H := by
  obtain ⟨ρ, Hf, S, h⟩ := h
  obtain ⟨r, v, ρ1, ev, hv, h1, p1, no⟩ := take_run S h.bind
  obtain ⟨Hf2, ρ2, hc, st⟩ := sto_run p1.sim h1.bind hv fun o a e1 e2 => (no o a e1 e2).1
  refine ⟨v, ev, hc _ Hf2 H (st.post p1 fun a ⟨e1, o, e2⟩ => .inl ?_)⟩
  obtain ⟨x, q1, q2⟩ := (no o a e2 e1).2
  exact ⟨j, false, x, q1, q2⟩
theorem asgT_reads {fa : M R} {t : Tg} {D : Ends} (h : tS W ec K (M.bind fa fun r => M.bind (M.of r.dat) fun d => M.bind (bindT t d) fun _ => M.pure .next) D σ H) : tAsg (tM W ec K fa) (gTg K t) D σ H := by
  obtain ⟨ρ, Hf, S, h⟩ := h
  refine stepME (.refl S) h fun r ρ1 v Hf1 H1 p1 q1 h1 => ?_
  obtain ⟨d, e1, h2⟩ := h1.bind.of
  obtain ⟨Hf2, p2, ex2, r2⟩ := RRel.dat p1 S q1 e1
  refine tg_reads p2.sim r2 h2.bind fun ρ3 σ3 p3 _ _ h3 => h3 σ3 Hf2 H1 (p2.s.trans p3)
theorem ret_val {fa : M R} {D : Ends} (S0 : Sim K ρ0 σ0 Hf0 H0) (p : PostS K ρ0 σ0 Hf0 H0 ρ1 σ1 Hf1 H1) (h : Run (M.bind fa retM) ρ1 (endC D K ρ0 σ0 Hf0 H0) (XS W ec K ρ0 σ0 Hf0 H0)) : tM W ec K fa σ1 H1 D.rt := by
  refine stepME p h fun r ρ2 v Hf2 H2 p2 q2 h2 => ?_
  cases r with
  | val d => exact h2 v σ1 Hf2 H2 (p.trans p2.s) q2
  | own o =>
    obtain ⟨a, e1, e2, e3, e4⟩ := q2
    exact h2 v σ1 Hf2 H2 (p.trans p2.s) ⟨a, e1, e2, e3, .inl (p.gr.back e4)⟩
  | loc i => exact (h2 : False).elim
theorem retv_reads {i : Nat} {D : Ends} (h : tS W ec K (M.bind (takeM i) retM) D σ H) : tRet (tVar i) D σ H := by
  obtain ⟨ρ, Hf, S, h⟩ := h
  obtain ⟨r, v, ρ1, ev, hv, h1, p1, no⟩ := take_run S h.bind
  refine ⟨v, ev, ?_⟩
  cases r with
  | val d => exact h1 v σ Hf H p1 hv
  | loc _ => exact (h1 : False).elim
  | own o =>
    obtain ⟨a, e1, e2, e3⟩ := hv
    obtain ⟨x, q1, q2⟩ := (no o a rfl e1).2
    exact h1 v σ Hf H p1 ⟨a, e1, e2, e3, .inr ⟨i, x, q1, q2⟩⟩
/-! ### the def's own objects become data -/
open Classical in
noncomputable def frzH (ρ : Env) (σ : L2.St) (Hf H : Hp) : Hp := fun a => if ∃ (i : Nat) (xs : List D), OwnAt ρ i false (.lst xs) ∧ σ[i]? = some (some (.ref a)) then H a else Hf a
theorem frz_get (i : Nat) : (frzE ρ)[i]? = (ρ[i]?).map fun v => match v with
  | some (.own false o) => o.toD.map .val
  | v => v := by unfold frzE; rw [List.getElem?_map] <;> rfl
theorem frz_post (S : Sim K ρ σ Hf H) : PostS K ρ σ Hf H (frzE ρ) σ (frzH ρ σ Hf H) H := by
  have ex : Ex Hf (frzH ρ σ Hf H) := fun a o e => by
    unfold frzH
    split
    · exact S.sub a o e
    · exact e
  have sub : Ex (frzH ρ σ Hf H) H := fun a o e => by
    unfold frzH at e
    split at e
    · exact e
    · exact S.sub a o e
  have own_ : ∀ {i : Nat} {io : Bool} {o : Ob}, OwnAt (frzE ρ) i io o → io = true ∧ OwnAt ρ i true o := by
    intro i io o e
    rw [OwnAt, frz_get] at e
    obtain ⟨v, e1, e2⟩ := map_of e
    split at e2
    · rename_i o'
      cases o' <;> cases e2
    · rename_i hne
      subst e2
      cases io with
      | false => exact (hne o rfl).elim
      | true => exact ⟨rfl, e1⟩
  have io_ : ∀ {i : Nat} {o : Ob}, OwnAt ρ i true o → OwnAt (frzE ρ) i true o := by
    intro i o e
    rw [OwnAt] at e
    rw [OwnAt, frz_get, e]
    rfl
  have notin : ∀ {i : Nat} {o : Ob} {a : Addr}, OwnAt ρ i true o → σ[i]? = some (some (.ref a)) → frzH ρ σ Hf H a = Hf a := by
    intro i o a e ea
    unfold frzH
    rw [if_neg]
    rintro ⟨j, xs, ej, eb⟩
    have := S.inj i j true o false _ a e ej ea eb
    subst this
    rw [OwnAt, e] at ej
    cases ej
  refine ⟨⟨by unfold frzE; rw [List.length_map]; exact S.len, sub, fun i d e => ?_, fun i io o e => ?_, fun i j io o io' o' a e1 e2 e3 e4 => ?_⟩, ⟨ex, fun a o e _ => e, fun a e => ?_, fun a e => e⟩, fun a ⟨i, io, o, e, ea⟩ => ?_, fun i o e => ⟨⟨o, io_ e⟩, rfl⟩, fun i e => ⟨?_, rfl⟩⟩
  · rw [frz_get] at e
    obtain ⟨v, e1, e2⟩ := map_of e
    split at e2
    · rename_i o'
      cases o' with
      | dct _ => cases e2
      | lst xs =>
        cases e2
        obtain ⟨a, ea, nf, vs, hv, rv⟩ := S.own i false _ e1
        refine ⟨.ref a, ea, .lst ?_ (Rps.mono ex _ _ rv)⟩
        unfold frzH
        rw [if_pos ⟨i, xs, e1, ea⟩]
        exact hv
    · subst e2
      obtain ⟨v, e3, r⟩ := S.val i d e1
      exact ⟨v, e3, Rp.mono ex _ _ r⟩
  · obtain ⟨rfl, e1⟩ := own_ e
    obtain ⟨a, ea, nf, ob⟩ := S.own i true o e1
    exact ⟨a, ea, by rw [notin e1 ea]; exact nf, ob.mono ex fun _ h => h⟩
  · obtain ⟨rfl, e1'⟩ := own_ e1
    obtain ⟨rfl, e2'⟩ := own_ e2
    exact S.inj i j true o true o' a e1' e2' e3 e4
  · unfold frzH at e
    split at e
    · rename_i hh
      obtain ⟨i, xs, e1, e2⟩ := hh
      exact .inr (.inr ⟨i, false, _, e1, e2⟩)
    · exact .inl e
  · obtain ⟨rfl, e1⟩ := own_ e
    exact .inl ⟨i, true, o, e1, ea⟩
  · rw [frz_get, e]
    rfl
theorem ret_reads {fa : M R} {D : Ends} (h : tS W ec K (fun ρ => M.bind fa retM (frzE ρ)) D σ H) : tRet (tM W ec K fa) D σ H := by
  obtain ⟨ρ, Hf, S, h⟩ := h
  exact ret_val S (frz_post S) h
end
end Itp
end
section
set_option Elab.async false
set_option linter.all false
set_option maxRecDepth 100000
set_option maxHeartbeats 4000000
set_option autoImplicit false
/-! Statements with tokens; several names at once; loops. -/
namespace Itp
open PySem PySem.Spec PyProof.Rows L2
open Evl (Ex)
section
variable {n : Nat} {X : Cx} {tg e c : Expr} {te : TE} {g : TG} {pos p : Pos} {st : Stmt} {rest a b : List Stmt} {t u : TS} {tc : TT}
theorem qs_asg (he : QE n X e te) (hg : PG X tg g) (hs : swapsWithSole [tg] e pos.line X.env = pure false) (hw : swappedStores [tg] e X.env = pure none)
    (h1 : (assignEach [tg] X.env).map (·.2) = [assign tg X.env]) : QS n X (.Assign [tg] e pos) (tAsg te g) := fun pins s τ G D hn I h =>
  wpAny_Assign_stores (he.then (α := Unit) hn I h fun v s1 x G1 _ I1 r1 q1 => by rw [h1]; exact thn (hg.run pins s1 τ G1 x v _ I1 r1 q1) fun _ s2 q => q) hs hw
theorem qs_expr (he : QE n X e te) (hs : swapsWith e none pos.line X.env = pure false) : QS n X (.Expr e pos) (tDrop te) := fun pins s τ G D hn I h =>
  wpAny_Expr_any (he.then (α := Unit) hn I h fun v s1 x G1 _ I1 _ q => ⟨τ, G1, I1, q⟩) I.quiet hs
theorem qs_ret (he : QE n X e te) : QS n X (.Return (some e) pos) (tRet te) := fun pins s τ G D hn I h =>
  wpAny_Return_some (he.then (α := Unit) hn I h fun v s1 x G1 _ I1 r q => ⟨x, τ, G1, I1, r, q⟩)
theorem qs_if (hc : QT n X c tc) (ha : QSs n X a t) (hb : QSs n X b u) : QS n X (.If c a b pos) (tIfS tc t u) := fun pins s τ G D hn I h =>
  wpAny_If (thT hn (hc _ pins s τ G _ rfl hn I h) fun d s1 hn1 ⟨G1, I1, q1⟩ => by
    cases d with
    | true => exact ha pins s1 τ G1 D hn1 I1 q1
    | false => exact hb pins s1 τ G1 D hn1 I1 q1)
theorem qss_nil : QSs n X [] tNext := fun pins s τ G D _ I h => wpAny_execs_nil ⟨τ, G, I, h⟩
theorem qss_cons (h1 : QS n X st t) (h2 : QSs n X rest u) : QSs n X (st :: rest) (tSeq t u) := fun pins s τ G D hn I h =>
  wpAny_execs_cons (thT hn (h1 pins s τ G { D with nx := u D } hn I h) fun f s1 hn1 q => by
    cases f with
    | next => exact let ⟨τ1, G1, I1, q1⟩ := q; h2 pins s1 τ1 G1 D hn1 I1 q1
    | ret v => exact q
    | brk => exact q
    | cont => exact q)
/-! ### a, b = x, y -/
def setL (σ : L2.St) : List Nat → List V → L2.St
  | i :: is, v :: vs => setL (σ.set i (some v)) is vs
  | _, _ => σ
theorem bind_all {E : Value → Shared → Prop} {pins : List (Addr × Obj)} {G : Hp} (hN : X.N.Nodup) {Q : Unit → Shared → Prop} :
    ∀ {is : List Nat} {ys : List Str} {vs : List V} {us : List Value} {s : Shared} {τ : L2.St}, Inv X pins τ G s → Vals vs us → (∀ (k : Nat) (y : Str), ys[k]? = some y → ∃ i, is[k]? = some i ∧ X.N[i]? = some y ∧ X.env.scope.names.lookup y = some .local) → ys.length = us.length → is.length = ys.length →
      (∀ s', Inv X pins (setL τ is vs) G s' → Q () s') → wpAny (model X.prog X.w) X.A (assignInOrder (ys.map fun y v => bindName X.env y v) us) Q E s
  | [], [], vs, us, s, τ, I, r, hy, l1, l2, q => by
    cases us with
    | nil => exact assignInOrder_nil (q s I)
    | cons _ _ => cases l1
  | i :: is, y :: ys, vs, us, s, τ, I, r, hy, l1, l2, q => by
    cases r with
    | nil => cases l1
    | cons r1 r2 =>
      obtain ⟨j, e1, e2, e3⟩ := hy 0 y rfl
      cases e1
      refine assignInOrder_cons (wpAny_bindName (store_ok I hN e2 (.inl e3) r1 (fun s2 I2 => ?_) (.inr e3)))
      exact bind_all hN I2 r2 (fun k z hz => hy (k + 1) z hz) (Nat.succ.inj l1) (Nat.succ.inj l2) q
  | [], _ :: _, _, _, _, _, _, _, _, _, l2, _ => by cases l2
  | _ :: _, [], _, _, _, _, _, _, _, _, l2, _ => by cases l2
def tParN (is : List Nat) (ta : TA) : TS := fun D τ G => ta τ G fun vs G1 => vs.length = is.length ∧ D.nx (setL τ is.reverse vs.reverse) G1
theorem vals_reverse {vs : List V} {us : List Value} (h : Vals vs us) : Vals vs.reverse us.reverse := Vals.reverse h
theorem qs_par {ts es : List Expr} {is : List Nat} {ys : List Str} {ta : TA} {kt k2 : Nat} {pt pt2 : Pos} (hc : X.calm = true) (hN : X.N.Nodup) (ha : QA n X es ta) (l1 : is.length = ys.length) (hz : ys.length ≤ sizeLine)
    (hy : ∀ (k : Nat) (y : Str), ys[k]? = some y → ∃ i, is[k]? = some i ∧ X.N[i]? = some y ∧ X.env.scope.names.lookup y = some .local)
    (hw : swappedStores [.Tuple ts kt pt] (.Tuple es k2 pt2) X.env = pure (some ys)) (hs : swapsWithSole [.Tuple ts kt pt] (.Tuple es k2 pt2) pos.line X.env = pure false) :
    QS n X (.Assign [.Tuple ts kt pt] (.Tuple es k2 pt2) pos) (tParN is ta) := fun pins s τ G D hn I h => by
  rw [exec_Assign_arm]
  refine wpAny_bind (wpAny_standAt ?_)
  rw [hs]
  refine wpAny_bind (wpAny_pure ?_)
  rw [if_neg (by decide)]
  refine wpAny_bind (wpAny_Tuple_spliced (thn (ha pt2 pins s τ G _ hn I h) fun us s1 ⟨vs, G1, I1, r1, lv, q1⟩ => ?_))
  have lus : us.length = ys.length := by rw [← r1.length, lv, l1]
  refine ⟨by rw [lus]; exact hz, ?_⟩
  have I2 : Inv X pins τ G1 { s1 with heap := s1.heap.push { cls := .type "tuple", data := .seq us.toArray } } := I1.kept (t' := s1.toks) fun b o e => Heap.get?_push_of_some _ e
  rw [hw]
  refine wpAny_bind (wpAny_pure ?_)
  show wpAny (model X.prog X.w) X.A (do rule "assign.swapped-stores"; let items ← unpackItems (.ref s1.heap.objs.size) ys.length none; assignInOrder (ys.reverse.map fun y v => bindName X.env y v) items.reverse; pure Flow.next) _ _ _
  have l3 : ys.length = us.toArray.size := by rw [List.size_toArray, lus]
  rw [l3]
  refine wpAny_bind (wpAny_rule (wpAny_bind (unpackItems_tuple (items := us.toArray) (I.ok.hd hc) (IsTup.new s1.heap _) fun h' hx' => ?_)))
  have I3 := I2.kept (h' := h') (t' := s1.toks) fun b o e => hx' b o (Nat.ne_of_lt (Heap.lt_size e)) e
  refine wpAny_bind (bind_all (is := is.reverse) (vs := vs.reverse) hN I3 (vals_reverse r1) (fun k y hk => ?_) (by rw [List.length_reverse, List.length_reverse, lus]) (by rw [List.length_reverse, List.length_reverse, l1]) fun s4 I4 => wpAny_pure ⟨_, G1, I4, q1⟩)
  have lk : k < ys.length := by
    have := (List.getElem?_eq_some_iff.mp hk).1
    rwa [List.length_reverse] at this
  rw [List.getElem?_reverse lk] at hk
  obtain ⟨i, e1, e2, e3⟩ := hy _ _ hk
  refine ⟨i, ?_, e2, e3⟩
  rw [List.getElem?_reverse (by rw [l1]; exact lk), l1]
  exact e1
end
end Itp
end
section
set_option Elab.async false
set_option linter.all false
set_option maxRecDepth 100000
set_option maxHeartbeats 4000000
set_option autoImplicit false
/-! Several stores; loops by their meaning. -/
namespace Itp
open PySem PySem.Spec PyProof.Rows L2
open Evl (Ex)
section
variable {W : WX} {ec : EC} {K : PySem.W.Frag} {σ σ' σ0 σ1 σ2 : L2.St} {ρ ρ0 ρ1 ρ2 ρ' : Env} {Hf H Hf0 H0 Hf1 H1 Hf2 H2 Hf' H' : Hp}
/-- values in hand, each object once -/
structure Hand (K : PySem.W.Frag) (ρ : Env) (σ : L2.St) (Hf H : Hp) (rs : List R) (vs : List V) : Prop where
  len : vs.length = rs.length
  hv : ∀ (i : Nat) (r : R) (v : V), rs[i]? = some r → vs[i]? = some v → HandV K Hf H r v
  dis : ∀ (i j : Nat) (o o' : Ob) (v : V), rs[i]? = some (.own o) → rs[j]? = some (.own o') → vs[i]? = some v → vs[j]? = some v → i = j
  no : ∀ (i : Nat) (o : Ob) (a : Addr), rs[i]? = some (.own o) → vs[i]? = some (.ref a) → ¬ Ow ρ σ a
theorem Hand.rev {rs : List R} {vs : List V} (h : Hand K ρ σ Hf H rs vs) : Hand K ρ σ Hf H rs.reverse vs.reverse := by
  have g1 : ∀ {i : Nat} {r : R}, rs.reverse[i]? = some r → i < rs.length ∧ rs[rs.length - 1 - i]? = some r := fun {i r} e => by
    have hi := (List.getElem?_eq_some_iff.mp e).1
    rw [List.length_reverse] at hi
    rw [List.getElem?_reverse hi] at e
    exact ⟨hi, e⟩
  have g2 : ∀ {i : Nat} {v : V}, vs.reverse[i]? = some v → i < vs.length ∧ vs[vs.length - 1 - i]? = some v := fun {i v} e => by
    have hi := (List.getElem?_eq_some_iff.mp e).1
    rw [List.length_reverse] at hi
    rw [List.getElem?_reverse hi] at e
    exact ⟨hi, e⟩
  have l := h.len
  refine ⟨by rw [List.length_reverse, List.length_reverse, l], fun i r v e1 e2 => ?_, fun i j o o' v e1 e2 e3 e4 => ?_, fun i o a e1 e2 => ?_⟩
  · have a2 := (g2 e2).2; rw [l] at a2
    exact h.hv _ r v (g1 e1).2 a2
  · have a3 := (g2 e3).2; rw [l] at a3
    have a4 := (g2 e4).2; rw [l] at a4
    have k1 := (g1 e1).1
    have k2 := (g1 e2).1
    have := h.dis _ _ o o' v (g1 e1).2 (g1 e2).2 a3 a4
    omega
  · have a2 := (g2 e2).2; rw [l] at a2
    exact h.no _ o a (g1 e1).2 a2
theorem Sto.trans {nb nb' : Addr → Prop} (s : Sto K nb ρ σ Hf H ρ1 σ1 Hf1) (t : Sto K nb' ρ1 σ1 Hf1 H ρ2 σ2 Hf2) : Sto K (fun a => nb a ∨ nb' a) ρ σ Hf H ρ2 σ2 Hf2 where
  sim := t.sim
  ex := s.ex.trans t.ex
  fz := fun a z => by
    rcases t.fz a z with q | q
    · rcases s.fz a q with w | w
      · exact .inl w
      · exact .inr (.inl w)
    · exact .inr (.inr q)
  own := fun a z => by
    rcases t.own a z with q | q
    · rcases s.own a q with w | w
      · exact .inl w
      · exact .inr (.inl w)
    · exact .inr (.inr q)
  io := fun i o e => by
    obtain ⟨⟨o1, e1⟩, s1⟩ := s.io i o e
    obtain ⟨o2, s2⟩ := t.io i o1 e1
    exact ⟨o2, s2.trans s1⟩
  lk := fun i e => ⟨(t.lk i (s.lk i e).1).1, (t.lk i (s.lk i e).1).2.trans (s.lk i e).2⟩
theorem Sto.imp {nb nb' : Addr → Prop} (s : Sto K nb ρ σ Hf H ρ1 σ1 Hf1) (h : ∀ a, nb a → nb' a) : Sto K nb' ρ σ Hf H ρ1 σ1 Hf1 :=
  ⟨s.sim, s.ex, fun a z => (s.fz a z).imp id (h a), fun a z => (s.own a z).imp id (h a), s.io, s.lk⟩
theorem sto_all {C : Unit → Env → Prop} {E : Exn → Env → Prop} : ∀ {ts : List (Nat × Bool)} {rs : List R} {vs : List V} {ρ : Env} {σ : L2.St} {Hf : Hp}, Sim K ρ σ Hf H → Hand K ρ σ Hf H rs vs → Run (stoP ts rs) ρ C E →
    rs.length = ts.length ∧ ∃ Hf' ρ', C () ρ' ∧ Sto K (fun a => ∃ (j : Nat) (o : Ob), rs[j]? = some (.own o) ∧ vs[j]? = some (.ref a)) ρ σ Hf H ρ' (setL σ (ts.map (·.1)) vs) Hf'
  | [], [], vs, ρ, σ, Hf, S, h, hr => by
    cases vs with
    | nil => exact ⟨rfl, Hf, ρ, hr, ⟨S, fun _ _ e => e, fun _ e => .inl e, fun _ e => .inl e, fun _ o e => ⟨⟨o, e⟩, rfl⟩, fun _ e => ⟨e, rfl⟩⟩⟩
    | cons _ _ => cases h.len
  | t :: ts, r :: rs, vs, ρ, σ, Hf, S, h, hr => by
    cases vs with
    | nil => cases h.len
    | cons v vs =>
      obtain ⟨Hf1, ρ1, hc, s1⟩ := sto_run S hr.bind (h.hv 0 r v rfl rfl) fun o a e1 e2 => h.no 0 o a (by rw [e1]; rfl) (by rw [e2]; rfl)
      have nb : ∀ {i : Nat} {o : Ob} {a : Addr}, rs[i]? = some (.own o) → vs[i]? = some (.ref a) → ¬ (v = .ref a ∧ ∃ o, r = .own o) := fun {i o a} e1 e2 ⟨ev, o', er⟩ => by
        have := h.dis 0 (i + 1) o' o (.ref a) (by rw [er]; rfl) e1 (by rw [ev]; rfl) e2
        omega
      have h1 : Hand K ρ1 (σ.set t.1 (some v)) Hf1 H rs vs := by
        refine ⟨Nat.succ.inj h.len, fun i q w e1 e2 => ?_, fun i j o o' w e1 e2 e3 e4 => ?_, fun i o a e1 e2 z => ?_⟩
        · have hv := h.hv (i + 1) q w e1 e2
          cases q with
          | val d => exact Rp.mono s1.ex _ _ hv
          | loc _ => exact True.intro
          | own o =>
            obtain ⟨a, rfl, nf, ob⟩ := hv
            refine ⟨a, rfl, ?_, ob.mono s1.ex fun _ h => h⟩
            cases hz : Hf1 a with
            | none => rfl
            | some u =>
              rcases s1.fz a (by rw [hz]; simp) with z | z
              · exact absurd nf z
              · exact (nb e1 e2 z).elim
        · have := h.dis (i + 1) (j + 1) o o' w e1 e2 e3 e4
          omega
        · rcases s1.own a z with q | q
          · exact h.no (i + 1) o a e1 e2 q
          · exact nb e1 e2 q
      obtain ⟨l, Hf2, ρ2, hc2, s2⟩ := sto_all s1.sim h1 hc
      refine ⟨by rw [List.length_cons, List.length_cons, l], Hf2, ρ2, hc2, (s1.trans s2).imp fun a z => ?_⟩
      rcases z with ⟨ev, o, er⟩ | ⟨j, o, e1, e2⟩
      · exact ⟨0, o, by rw [er]; rfl, by rw [ev]; rfl⟩
      · exact ⟨j + 1, o, e1, e2⟩
  | [], _ :: _, _, _, _, _, _, _, hr => by exact (hr : False).elim
  | _ :: _, [], _, _, _, _, _, _, hr => by exact (hr : False).elim
/-- several values, each as it is -/
def tMP (W : WX) (ec : EC) (K : PySem.W.Frag) (f : M (List R)) : TA := fun σ H Q => ∃ ρ Hf, Sim K ρ σ Hf H ∧
  Run f ρ (fun rs ρ' => ∀ vs Hf' H', Post K σ ρ Hf H ρ' Hf' H' → Paired (RRel K H σ ρ' Hf' H') rs vs → (∀ (i j : Nat) (o o' : Ob) (v : V), rs[i]? = some (.own o) → rs[j]? = some (.own o') → vs[i]? = some v → vs[j]? = some v → i = j) → Q vs H') (XW W ec K σ ρ Hf H)
theorem pnil_reads {Q : List V → Hp → Prop} (h : tMP W ec K (M.pure []) σ H Q) : tNil σ H Q := by
  obtain ⟨ρ, Hf, S, h⟩ := h
  exact h [] Hf H (.refl S) .nil fun i j o o' v e => by simp at e
theorem paired_get {α β : Type} {R : α → β → Prop} : ∀ {as : List α} {bs : List β} {i : Nat} {a : α}, Paired R as bs → as[i]? = some a → ∃ b, bs[i]? = some b ∧ R a b
  | _, _, _, _, .nil, e => by simp at e
  | _, _, 0, _, .cons r _, e => by
    have := Option.some.inj e
    subst this
    exact ⟨_, rfl, r⟩
  | _, _, i + 1, a, .cons _ t, e => by
    obtain ⟨b, h1, h2⟩ := paired_get (i := i) t (by simpa using e)
    exact ⟨b, by simpa using h1, h2⟩
theorem pcons_reads {fa : M R} {fs : M (List R)} {Q : List V → Hp → Prop} (h : tMP W ec K (consP fa fs) σ H Q) : tCons (tM W ec K fa) (tMP W ec K fs) σ H Q := by
  obtain ⟨ρ, Hf, S, h⟩ := h
  refine stepM (.refl S) h fun r ρ1 v Hf1 H1 p1 _ q1 h1 => ?_
  refine ⟨ρ1, Hf1, p1.sim, h1.bind.imp (fun rs ρ2 h2 vs Hf2 H2 p2 pr dis => ?_) fun x ρ2 z => z.imp p1⟩
  have k1 := q1.keep p1.sim (fun a z => ow0 S p1 z) p2
  have lift : ∀ {as : List R} {bs : List V}, Paired (RRel K H1 σ ρ2 Hf2 H2) as bs → Paired (RRel K H σ ρ2 Hf2 H2) as bs := fun {as bs} z => by
    induction z with
    | nil => exact .nil
    | cons r _ ih => exact .cons (r.start fun _ => p1.gr.back) ih
  have own1 : ∀ {o : Ob}, r = .own o → ∃ a, v = .ref a ∧ H1 a ≠ none := fun {o} e => by
    subst e
    obtain ⟨a, e1, e2, e3, e4⟩ := q1
    exact ⟨a, e1, e3.there⟩
  have own2 : ∀ {j : Nat} {o : Ob} {w : V}, rs[j]? = some (.own o) → vs[j]? = some w → ∃ a, w = .ref a ∧ H1 a = none := fun {j o w} e1 e2 => by
    obtain ⟨w', e3, r3⟩ := paired_get pr e1
    rw [e2] at e3
    cases e3
    obtain ⟨a, e4, _, _, e5⟩ := r3
    exact ⟨a, e4, e5⟩
  have apart : ∀ {j : Nat} {o o' : Ob} {w : V}, r = .own o → rs[j]? = some (.own o') → v = w → vs[j]? = some w → False := fun {j o o' w} e1 e2 e3 e4 => by
    obtain ⟨a, ea, na⟩ := own1 e1
    obtain ⟨b, eb, nb⟩ := own2 e2 e4
    rw [← e3, ea] at eb
    cases eb
    exact na nb
  refine h2 (v :: vs) Hf2 H2 (p1.trans p2) (.cons k1 (lift pr)) fun i j o o' w e1 e2 e3 e4 => ?_
  cases i with
  | zero =>
    cases j with
    | zero => rfl
    | succ j => exact (apart (Option.some.inj e1) e2 (Option.some.inj e3) e4).elim
  | succ i =>
    cases j with
    | zero => exact (apart (Option.some.inj e2) e1 (Option.some.inj e4) e3).elim
    | succ j =>
      have := dis i j o o' w e1 e2 e3 e4
      omega
theorem par_reads {ts : List (Nat × Bool)} {fs : M (List R)} {D : Ends} (h : tS W ec K (M.bind fs fun rs => M.bind (stoP ts.reverse rs.reverse) fun _ => M.pure .next) D σ H) : tParN (ts.map (·.1)) (tMP W ec K fs) D σ H := by
  obtain ⟨ρ, Hf, S, h⟩ := h
  refine ⟨ρ, Hf, S, h.bind.imp (fun rs ρ1 h1 vs Hf1 H1 p1 pr dis => ?_) fun x ρ1 z => XS.xw (.refl S) z⟩
  have hd : Hand K ρ1 σ Hf1 H1 rs vs := by
    refine ⟨(Paired.length pr).symm, fun i r v e1 e2 => ?_, dis, fun i o a e1 e2 z => ?_⟩
    · obtain ⟨w, e3, r3⟩ := paired_get pr e1
      rw [e2] at e3
      cases e3
      exact r3.hand.1
    · obtain ⟨w, e3, r3⟩ := paired_get pr e1
      rw [e2] at e3
      cases e3
      exact ow0 S p1 z (r3.hand.2 o a rfl rfl)
  obtain ⟨l, Hf2, ρ2, hc, st⟩ := sto_all p1.sim hd.rev h1.bind
  rw [List.length_reverse, List.length_reverse] at l
  refine ⟨by rw [hd.len, l, List.length_map], ?_⟩
  rw [← List.map_reverse]
  refine hc _ Hf2 H1 (st.post p1.s fun a ⟨j, o, e1, e2⟩ => .inr ?_)
  have pr2 : ∀ {j : Nat} {r : R}, rs.reverse[j]? = some r → ∃ k, rs[k]? = some r ∧ ∀ w, vs.reverse[j]? = some w → vs[k]? = some w := fun {j r} e => by
    have hj := (List.getElem?_eq_some_iff.mp e).1
    rw [List.length_reverse] at hj
    rw [List.getElem?_reverse hj] at e
    refine ⟨_, e, fun w e' => ?_⟩
    rw [List.getElem?_reverse (by rw [hd.len]; exact hj), hd.len] at e'
    exact e'
  obtain ⟨k, f1, f2⟩ := pr2 e1
  obtain ⟨w, e3, r3⟩ := paired_get pr f1
  rw [f2 _ e2] at e3
  cases e3
  exact r3.hand.2 o a rfl rfl
/-! ### loops -/
theorem Run.bind' {α β : Type} {E : Exn → Env → Prop} {f : M α} {g : α → M β} {C : β → Env → Prop} (h : Run f ρ (fun a ρ' => Run (g a) ρ' C E) E) : Run (M.bind f g) ρ C E := by
  unfold Run at h
  unfold Run M.bind
  cases e : f ρ with
  | none => rw [e] at h; exact h.elim
  | some r =>
    rw [e] at h
    cases r with
    | ok a ρ' => exact h
    | ex x ρ' => exact h
theorem it_readsS {β : Type} {fa fb : M R} {ik : ItK} {g : Itm → M β} {C : β → Env → Prop} {Rr : It → Hp → Prop} (S : Sim K ρ σ Hf H) (h : Run (M.bind (evIt ik fa fb) g) ρ C (XS W ec K ρ σ Hf H))
    (q : ∀ it ρ1 J Hf1 H1, Post K σ ρ Hf H ρ1 Hf1 H1 → ItRel K σ ρ1 Hf1 it J → Run (g it) ρ1 C (XS W ec K ρ σ Hf H) → Rr J H1) : wiM W ec K fa fb ik σ H Rr := by
  have h1 : Run (M.bind (evIt ik fa fb) M.pure) ρ (fun it ρ' => Run (g it) ρ' C (XS W ec K ρ σ Hf H)) (XW W ec K σ ρ Hf H) := by
    refine Run.bind' (h.bind.imp (fun it ρ' z => ?_) fun x ρ' z => XS.xw (.refl S) z)
    exact z
  exact it_reads S h1 fun it ρ1 J Hf1 H1 p rel z => q it ρ1 J Hf1 H1 p rel z
theorem for_core {t : Tg} {b : M Fl} {D : Ends} {Cc : Fl → Env → Prop} {E : Exn → Env → Prop} {ds : List Itp.D} {vs : List V} {J : It} {Stb : Hp → Prop} (S : Sim K ρ σ Hf H) (r : Rps K Hf vs ds) (wk : Wk K J vs Stb)
    (hst : ∀ ρ1 σ1 Hf1 H1, PostS K ρ σ Hf H ρ1 σ1 Hf1 H1 → Stb H1) (hC : ∀ fl ρ', Cc fl ρ' → endC D K ρ σ Hf H fl ρ') (hE : ∀ x ρ', E x ρ' → XS W ec K ρ σ Hf H x ρ') (hr : Run (forL (bindT t) b ds) ρ Cc E) :
    ∃ Wv : Nat → Nat → L2.St → Hp → Prop, (∃ m, Wv 0 m σ H) ∧ ∀ i m σ H, Wv i m σ H →
      (J.stop i H ∧ D.nx σ H) ∨ (J.go i H ∧ ∃ Nx : L2.St → Hp → Prop, (∀ σ' H', Nx σ' H' → ∃ m', m' < m ∧ Wv (i + 1) m' σ' H') ∧ ∀ x H', J.yld i H x H' → gTg K t x σ H' fun σ2 H2 => tS W ec K b { D with nx := Nx, ct := Nx, bk := D.nx } σ2 H2) := by
  have hl := r.length
  refine ⟨fun i m σ1 H1 => i + m = ds.length ∧ ∃ ρ1 Hf1, PostS K ρ σ Hf H ρ1 σ1 Hf1 H1 ∧ Run (forL (bindT t) b (ds.drop i)) ρ1 Cc E, ⟨ds.length, Nat.zero_add _, ρ, Hf, .refl S, hr⟩, ?_⟩
  rintro i m σ1 H1 ⟨him, ρ1, Hf1, p1, h1⟩
  have stb := hst ρ1 σ1 Hf1 H1 p1
  by_cases hi : i < ds.length
  · refine .inr ⟨wk.go i H1 stb (by rw [hl]; exact hi), fun σ2 H2 => i + 1 + (m - 1) = ds.length ∧ ∃ ρ2 Hf2, PostS K ρ σ Hf H ρ2 σ2 Hf2 H2 ∧ Run (forL (bindT t) b (ds.drop (i + 1))) ρ2 Cc E, fun σ2 H2 hN => ⟨m - 1, by omega, hN⟩, fun x H2 hy => ?_⟩
    obtain ⟨rfl, ex⟩ := wk.yl i H1 x H2 stb (by rw [hl]; exact hi) hy
    rw [List.drop_eq_getElem_cons hi] at h1
    obtain ⟨v0, ev0, rv0⟩ := r.get (List.getElem?_eq_getElem hi)
    rw [ex] at ev0
    cases ev0
    refine tg_reads p1.sim (Rp.mono p1.gr.ex _ _ rv0) h1.bind fun ρ2 σ2 p2 _ _ h2 => ?_
    have p12 := p1.trans p2
    refine ⟨ρ2, Hf1, p2.sim, h2.bind.imp (fun f ρ3 q => ?_) fun x ρ3 q => (hE x ρ3 q).trans p12⟩
    cases f with
    | next => exact fun σ' Hf' H' p3 => ⟨by omega, ρ3, Hf', p12.trans p3, q⟩
    | cont => exact fun σ' Hf' H' p3 => ⟨by omega, ρ3, Hf', p12.trans p3, q⟩
    | brk => exact fun σ' Hf' H' p3 => (hC .next ρ3 q) σ' Hf' H' (p12.trans p3)
    | ret rr => exact fun v σ' Hf' H' p3 rel => (hC (.ret rr) ρ3 q) v σ' Hf' H' (p12.trans p3) (rel.back S p12)
  · have ei : i = ds.length := by omega
    rw [List.drop_eq_nil_of_le (by omega)] at h1
    exact .inl ⟨by rw [ei, ← hl]; exact wk.st H1 stb, (hC .next ρ1 h1) σ1 Hf1 H1 p1⟩
theorem for_reads {fa fb : M R} {ik : ItK} {t : Tg} {b : M Fl} {D : Ends} (h : tS W ec K (M.bind (evIt ik fa fb) fun it => itemsM it fun xs => forL (bindT t) b xs) D σ H) : tFor (wiM W ec K fa fb ik) (gTg K t) (tS W ec K b) D σ H := by
  obtain ⟨ρ, Hf, S, h⟩ := h
  refine it_readsS S h fun it ρ1 J Hf1 H1 p1 rel h1 => ?_
  cases rel with
  | items r wk st => exact for_core p1.sim r wk (fun ρ2 σ2 Hf2 H2 p2 => st Hf2 H2 p2.gr.ex p2.sim.sub) (fun fl ρ' z => z.trans S p1.s) (fun x ρ' z => z.trans p1.s) h1
  | @slot i a io xs e ea =>
    obtain ⟨io', xs', e', h2⟩ := aside_run h1
    rw [OwnAt, e] at e'
    cases e'
    obtain ⟨b', eb, nf, vs, hv, rv⟩ := p1.sim.own i io _ e
    rw [ea] at eb
    cases eb
    have low : ∀ {Hf' H' : Hp} {r : RV} {v : V}, RetR K (ρ1.set i (some .lck)) σ H1 Hf' H' r v → RetR K ρ1 σ H1 Hf' H' r v := fun {Hf' H' r v} z => by
      cases r with
      | val d => exact z
      | own o =>
        obtain ⟨a', f1, f2, f3, f4⟩ := z
        refine ⟨a', f1, f2, f3, f4.imp id fun ⟨j, x, k1, k2⟩ => ?_⟩
        have hj : i ≠ j := fun z => by
          subst z
          rw [OwnAt, List.getElem?_set_self (List.getElem?_eq_some_iff.mp e).1] at k1
          cases k1
        rw [OwnAt, List.getElem?_set_ne hj] at k1
        exact ⟨j, x, k1, k2⟩
    refine for_core (p1.sim.lock i) rv wk_list (fun ρ2 σ2 Hf2 H2 p2 => SqL_of (lock_keep p1.sim e ea hv nf p2.gr).1) (fun fl ρ' z => ?_) (fun x ρ' z c d σ' Hf' H' p2 ee => (z.trans p1.s) c d σ' Hf' H' (PostS.unlock p1.sim e p2) ee) h2
    have z := z.trans S p1.s
    cases fl with
    | next => exact fun σ' Hf' H' p2 => z σ' Hf' H' (PostS.unlock p1.sim e p2)
    | brk => exact fun σ' Hf' H' p2 => z σ' Hf' H' (PostS.unlock p1.sim e p2)
    | cont => exact fun σ' Hf' H' p2 => z σ' Hf' H' (PostS.unlock p1.sim e p2)
    | ret r => exact fun v σ' Hf' H' p2 rr => z v σ' Hf' H' (PostS.unlock p1.sim e p2) (low rr)
open Classical in
theorem whl_run {t : M Bool} {b : M Fl} {C : Fl → Env → Prop} {E : Exn → Env → Prop} (h : Run (whlC t b) ρ C E) : ∃ n, Run (whlN t b n) ρ C E := by
  unfold Run whlC at h
  by_cases hh : ∃ n r, whlN t b n ρ = some r
  · rw [dif_pos hh] at h
    refine ⟨choose hh, ?_⟩
    unfold Run
    rw [choose_spec (choose_spec hh)]
    exact h
  · rw [dif_neg hh] at h
    exact h.elim
theorem whl_reads {t : M Bool} {b : M Fl} {D : Ends} (h : tS W ec K (whlC t b) D σ H) : tWhile (tMT W ec K t) (tS W ec K b) D σ H := by
  obtain ⟨ρ, Hf, S, h⟩ := h
  obtain ⟨n, hr⟩ := whl_run h
  refine ⟨fun m σ1 H1 => ∃ ρ1 Hf1, PostS K ρ σ Hf H ρ1 σ1 Hf1 H1 ∧ Run (whlN t b m) ρ1 (endC D K ρ σ Hf H) (XS W ec K ρ σ Hf H), ⟨n, ρ, Hf, .refl S, hr⟩, ?_⟩
  rintro m σ1 H1 ⟨ρ1, Hf1, p1, h1⟩
  cases m with
  | zero => exact (h1 : False).elim
  | succ m =>
    refine stepTE p1 (show Run (M.bind t fun c => _) ρ1 _ _ from h1) fun c ρ2 Hf2 H2 p2 h2 => ?_
    have p12 := p1.trans p2.s
    cases c with
    | false =>
      rw [if_neg Bool.false_ne_true]
      exact h2 σ1 Hf2 H2 p12
    | true =>
      rw [if_pos rfl]
      refine ⟨fun σ' H' => ∃ ρ1 Hf1, PostS K ρ σ Hf H ρ1 σ' Hf1 H' ∧ Run (whlN t b m) ρ1 (endC D K ρ σ Hf H) (XS W ec K ρ σ Hf H), fun σ' H' z => ⟨m, Nat.lt_succ_self m, z⟩, ?_⟩
      have h2 : Run (M.bind b fun f => match f with
        | .next => whlN t b m
        | .cont => whlN t b m
        | .brk => M.pure .next
        | .ret r => M.pure (.ret r)) ρ2 _ _ := h2
      refine ⟨ρ2, Hf2, p2.sim, h2.bind.imp (fun f ρ3 q => ?_) fun x ρ3 q => q.trans p12⟩
      cases f with
      | next => exact fun σ' Hf' H' p3 => ⟨ρ3, Hf', p12.trans p3, q⟩
      | cont => exact fun σ' Hf' H' p3 => ⟨ρ3, Hf', p12.trans p3, q⟩
      | brk => exact fun σ' Hf' H' p3 => q σ' Hf' H' (p12.trans p3)
      | ret rr => exact fun v σ' Hf' H' p3 rel => q v σ' Hf' H' (p12.trans p3) (rel.back S p12)
end
end Itp
end
section
set_option Elab.async false
set_option linter.all false
set_option maxRecDepth 100000
set_option maxHeartbeats 4000000
set_option autoImplicit false
/-! try, with tokens. -/
namespace Itp
open PySem PySem.Spec PyProof.Rows L2
open Evl (Ex)
section
variable {n : Nat} {X : Cx} {body : List Stmt} {hd1 : ExceptHandler} {hds : List ExceptHandler} {l : List (Value × (Addr → Value → Option Addr → TS))} {pos : Pos} {tb : WX → TS} {Wo : WX}
/-- the clauses, at an exception that has landed -/
theorem clauses {pins : List (Addr × Obj)} {D : Ends} {τ1 : L2.St} {G1 : Hp} {cls : Value} {d : Option Addr} {a : Addr} {B h3 : Heap} {sI s' : Shared} (ok : X.Ok) (hs : X.stack = X.env :: X.outer) (hf : X.env.frame = some X.env.locals) (tk : Takes X Wo)
    (J : Inv X pins τ1 G1 sI) (nb : ∀ b o, sI.heap.get? b = some o → b ∉ frs X.stack → B.get? b = some o) (up : sI.heap.UpToSlots h3) (na : G1 a = none) (os : s'.os = sI.os) (ag : AllBare s'.gens)
    (fl3 : HandSPX.FlyingZ B (X.env :: X.outer) a (Zc cls d) h3) : ∀ {hds : List ExceptHandler} {l : List (Value × (Addr → Value → Option Addr → TS))}, HdsOk X hds l → wMany X.K Wo D l cls d τ1 G1 →
      wpAny (model X.prog X.w) X.A (handleBy (.ref a) X.env hds) (SP X pins D) X.xe { s' with heap := h3 } := by
  have J3 : Inv X pins τ1 G1 { s' with heap := h3 } := J.landed nb fl3.1 up os ag
  obtain ⟨oe3, vs3, he3, hz3, hd3⟩ := fl3.there
  have nfr : a ∉ frs (X.env :: X.outer) := fun hm => by
    obtain ⟨_, o', e', hnf⟩ := fl3.2.2.1.mem hm
    rw [he3] at e'
    cases e'
    exact hnf _ hd3
  have nL : a ≠ X.env.locals := fun z => nfr (List.mem_filterMap.mpr ⟨X.env, List.mem_cons_self, by rw [hf, z]⟩)
  have nF : a ∉ X.fs := fun hm => by
    obtain ⟨e, he, q⟩ := List.mem_filterMap.mp hm
    exact nfr (List.mem_filterMap.mpr ⟨e, List.mem_cons_of_mem _ he, q⟩)
  have S3 := J3.suite he3 hd3 na nL nF
  intro hds l hk
  induction hk with
  | nil =>
    intro w
    refine wpAny_handleBy_nil ?_
    obtain ⟨k1, k2, k3, oe, vs, T, oT, ts', he, hz, hd, h1, hr⟩ := id fl3
    unfold PySem.passOn
    refine wpAny_bind (wpAny_field he hd h1 ?_)
    rw [if_neg (by simp : ¬ ((Value.ref T == Value.none) = true))]
    have out : wpAny (model X.prog X.w) X.A (setFlight (.ref a) X.env.frame) (fun _ s4 => wpAny (model X.prog X.w) X.A (throw (.ref a) : Sem Flow) (SP X pins D) X.xe s4) X.xe { s' with heap := h3 } := by
      rw [hf]
      refine HandSPX.setFlight_upZ fl3 fun h4 hh4 up4 => wpAny_throw (tk _ _ ⟨a, B, sI, pins, τ1, G1, cls, d, rfl, J, nb, up.trans up4, .inr (.inr (by rw [hs]; exact hh4)), na, os, ag, w⟩)
    first
      | exact wpAny_bind (wpAny_pure (wpAny_bind out))
      | exact wpAny_bind out
  | @cons x c ts b0 suite np pos' hds2 l2 hc hsu r ih =>
    intro w
    obtain ⟨b, hb1, hyes, hno⟩ := w
    refine wpAny_handleBy_cons (codeAny_handlers_test ?_) (fun q => nomatch q)
    have LT : PySem.W.Looks (model X.prog X.w) h3 (typeOf (.ref a)) cls := fun A Q E s k q => wpAny_typeOf_ref (k _ _ he3) (by rw [hz3.1]; exact q)
    have LM := PySem.W.exm_one (M := model X.prog X.w) (J3.kIn) LT hb1
    obtain ⟨hg, hdbg, hm⟩ := hc
    have look : ∀ {Q E : Value → Shared → Prop}, Q c { s' with heap := h3 } → wpAny (model X.prog X.w) (X.A.mark (some (.ref a))) (eval (.Name x np) X.env) Q E { s' with heap := h3 } := fun {Q E} q => by
      rcases hm with hm | ⟨hm, hv, hnn⟩
      · exact ld_glob (X := X.suite a ((a, oe3) :: (X.pn ++ pins))) S3 hg hm q hdbg
      · exact ld_blt (X := X.suite a ((a, oe3) :: (X.pn ++ pins))) S3 hg hm hv q hnn hdbg
    refine look (LM.here ?_)
    cases b with
    | false => exact ih (hno rfl)
    | true =>
      refine codeAny_handlers_suite ?_
      refine HandSPX.lands_againZ fl3 fun h4 fl4 up4 => ?_
      have J4 : Inv X pins τ1 G1 { s' with heap := h4 } := J.landed nb fl4.1 (up.trans up4) os ag
      obtain ⟨oe4, vs4, he4, hz4, hd4⟩ := fl4.there
      have S4 := J4.suite he4 hd4 na nL nF
      refine wpAny_mono ((hsu a oe4 cls d (X.pn ++ pins) hz4 ⟨_, hd4⟩).run [] _ _ G1 _ S4 (hyes rfl a na)) (fun f s6 hsp => ?_) (fun _ _ z => False.elim z)
      cases f with
      | ret u => exact let ⟨v6, τ6, G6, S6, r6, q6⟩ := hsp; ⟨v6, τ6, G6, S6.unsuite ok, r6, q6⟩
      | next => exact let ⟨τ6, G6, S6, q6⟩ := hsp; ⟨τ6, G6, S6.unsuite ok, q6⟩
      | brk => exact let ⟨τ6, G6, S6, q6⟩ := hsp; ⟨τ6, G6, S6.unsuite ok, q6⟩
      | cont => exact let ⟨τ6, G6, S6, q6⟩ := hsp; ⟨τ6, G6, S6.unsuite ok, q6⟩
theorem qs_try (hs : X.stack = X.env :: X.outer) (hf : X.env.frame = some X.env.locals) (tk : Takes X Wo)
    (hb : ∀ (W : WX) (pn : List (Addr × Obj)) (xe : Value → Shared → Prop), Takes (X.tr pn xe) W → PassesOwn (model X.prog X.w) X.A X.env xe → QSs n (X.tr pn xe) body (tb W))
    (hh : HdsOk X (hd1 :: hds) l) : QS n X (.Try body (hd1 :: hds) [] [] pos) (fun D τ G => tb (wMany X.K Wo D l) D τ G) := fun pins s τ G D hn I h => by
  have ok := I.ok
  have hfr : X.A.frames = some (X.env :: X.outer) := by rw [ok.frames, hs]
  refine wpAny_Try_except ?_
  have q := hb (wMany X.K Wo D l) (X.pn ++ pins) (fun e s1 => wpAny (model X.prog X.w) X.A (noteFrame e X.env) (fun _ s2 => wpAny (model X.prog X.w) X.A (setFlight e none) (fun _ s3 =>
    wpAny (model X.prog X.w) X.A (handleBy e X.env (hd1 :: hds)) (SP X pins D) X.xe s3) X.xe s2) X.xe s1) (fun u s' xx => by
      obtain ⟨a, B, sI, pins', τ1, G1, cls, d, rfl, J', nb, up, sky, na, os, ag, w⟩ := xx
      have J : Inv X pins τ1 G1 sI := J'.ofTry ok
      have sky' : Sky B (X.env :: X.outer) a (Zc cls d) X.env.locals s'.heap := by rw [← hs]; exact sky
      show wpAny (model X.prog X.w) X.A (noteFrame (.ref a) X.env) _ _ _
      exact Sky.land Zc.steady hfr hf sky' fun h3 fl3 up3 => clauses ok hs hf tk J nb (up.trans up3) na os ag fl3 hh w) PassesOwn.looking [] s τ G D hn (I.toTry _) h
  refine wpAny_mono q (fun f s1 hsp => ?_) (fun e s1 he => he)
  cases f with
  | next => exact let ⟨τ1, G1, J1, q1⟩ := hsp; wpAny_execs_nil ⟨τ1, G1, J1.ofTry ok, q1⟩
  | brk => exact let ⟨τ1, G1, J1, q1⟩ := hsp; ⟨τ1, G1, J1.ofTry ok, q1⟩
  | cont => exact let ⟨τ1, G1, J1, q1⟩ := hsp; ⟨τ1, G1, J1.ofTry ok, q1⟩
  | ret u => exact let ⟨v, τ1, G1, J1, r, q1⟩ := hsp; ⟨v, τ1, G1, J1.ofTry ok, r, q1⟩
end
end Itp
end
section
set_option Elab.async false
set_option linter.all false
set_option maxRecDepth 100000
set_option maxHeartbeats 4000000
set_option autoImplicit false
/-! Statements: compared, and so read. -/
namespace Itp
open PySem PySem.Spec PyProof.Rows L2
open Evl (Ex)
def isStar : Expr → Bool
  | .Starred _ _ => true
  | _ => false
/-- does the comprehension's target swap with the name -/
def swV (sc : Scope) (y : Str) (py : Pos) : Expr → Option Bool
  | .ListComp _ _ s p => some (sc.names.lookup y == some .local && py.line == p.line && !(s.names.any fun (m, k) => m == y && (k == .local || k == .cell)))
  | .SetComp _ _ _ _ => none
  | .DictComp _ _ _ _ _ => none
  | _ => some false
def swN (sc : Scope) (ts vs : List Expr) : Option (Option (List Str)) :=
  if (!(ts.length == 2 || ts.length == 3) || vs.length != ts.length) = true then some none
  else if (vs.any isStar) = true then some none
  else if ((ts.filterMap fun
      | .Name id pos => if (sc.names.lookup id == some .local && pos.line == (ts.head?.map (·.pos.line)).getD 0) = true then some id else none
      | _ => none).length != ts.length || (ts.filterMap fun
      | .Name id pos => if (sc.names.lookup id == some .local && pos.line == (ts.head?.map (·.pos.line)).getD 0) = true then some id else none
      | _ => none).eraseDups.length != (ts.filterMap fun
      | .Name id pos => if (sc.names.lookup id == some .local && pos.line == (ts.head?.map (·.pos.line)).getD 0) = true then some id else none
      | _ => none).length) = true then some none
  else if (vs.all (foldedForSure 8)) = true then some none
  else if (vs.all (constantsAlone 8)) = true then none
  else some (some (ts.filterMap fun
      | .Name id pos => if (sc.names.lookup id == some .local && pos.line == (ts.head?.map (·.pos.line)).getD 0) = true then some id else none
      | _ => none))
theorem blockK {env : PySem.Env} (h : env.scope.kind = .function) : env.blockKind = .function := by
  unfold PySem.Env.blockKind
  rw [h]
  rfl
theorem swV_ok {sc : Scope} {y : Str} {py : Pos} {v : Expr} {b : Bool} {env : PySem.Env} {line : Nat} (h : swV sc y py v = some b) (hs : env.scope = sc) (hk : env.scope.kind = .function) : swapsWith v (some (.Name y py)) line env = pure b := by
  cases v with
  | ListComp a b s p =>
    cases h
    subst hs
    show (pure (env.blockKind == .function && env.kindOf y == some .local && _ && _) : Sem Bool) = _
    rw [blockK hk]
    rfl
  | SetComp _ _ _ _ => cases h
  | DictComp _ _ _ _ _ => cases h
  | _ => cases h; rfl
theorem swN_ok {sc : Scope} {ts vs : List Expr} {r : Option (List Str)} {env : PySem.Env} {k k2 : Nat} {p p2 : Pos} (h : swN sc ts vs = some r) (hs : env.scope = sc) (hk : env.scope.kind = .function) : swappedStores [.Tuple ts k p] (.Tuple vs k2 p2) env = pure r := by
  subst hs
  unfold swappedStores
  unfold swN at h
  simp only [blockK hk]
  rw [show (ScopeKind.function != ScopeKind.function) = false from rfl, Bool.or_false]
  split at h
  · rename_i c1; cases h; exact if_pos c1
  · rename_i c1
    refine Eq.trans (if_neg c1) ?_
    split at h
    · rename_i c2; cases h; exact if_pos c2
    · rename_i c2
      refine Eq.trans (if_neg c2) ?_
      split at h
      · rename_i c3; cases h; exact if_pos c3
      · rename_i c3
        refine Eq.trans (if_neg c3) ?_
        split at h
        · rename_i c4; cases h; exact if_pos c4
        · rename_i c4
          refine Eq.trans (if_neg c4) ?_
          split at h
          · cases h
          · rename_i c5; cases h; exact if_neg c5
def notTup : Expr → Bool
  | .Tuple _ _ _ => false
  | _ => true
theorem sole_tup {ts : List Expr} {k : Nat} {p : Pos} {v : Expr} {line : Nat} {env : PySem.Env} : swapsWithSole [.Tuple ts k p] v line env = pure false := by
  cases v <;> rfl
theorem noSwap {ts : List Expr} {k : Nat} {p : Pos} {v : Expr} {env : PySem.Env} (h : notTup v = true) : swappedStores [.Tuple ts k p] v env = pure none := by
  cases v <;> first | rfl | cases h
def notComp : Expr → Bool
  | .ListComp _ _ _ _ => false
  | .SetComp _ _ _ _ => false
  | .DictComp _ _ _ _ _ => false
  | _ => true
theorem noComp {v : Expr} {t : Option Expr} {line : Nat} {env : PySem.Env} (h : notComp v = true) : swapsWith v t line env = pure false := by
  cases v <;> first | rfl | cases h
/-- what the statements of a def stand on -/
structure GdS (n : Nat) (nm : Nms) (cl : Calls) (ec : EC) (sub : Nat → Nat → Bool) (N : List Str) (sc : Scope) (fx : Str → Bool) (X : Cx) (W : WX) : Prop extends Gd n nm cl ec N sc fx X W where
  po : PassesOwn (model X.prog X.w) X.A X.env X.xe
  stk : X.stack = X.env :: X.outer
  frm : X.env.frame = some X.env.locals
  kd : X.env.scope.kind = .function
  exs : ∀ (c : Nat) (x : Str), nm.cs[c]? = some x → ∃ C B newId initId bmB, ExcBaseFacts B newId initId bmB ∧ PySem.W.excIn X.K C bmB newId = true ∧ X.mg x = some (.ref C) ∧ PySem.W.keepIn X.K (.ref C) = true ∧ Raises X (.ref C) ∧ ∀ H, ec ⟨c, none⟩ (.ref C) none H
  exm : ∀ (x : Exn) (cls : Value) (d : Option Addr) (H : Hp) (k : Nat) (y : Str) (C : Addr), ec x cls d H → nm.cs[k]? = some y → X.mg y = some (.ref C) → PySem.W.exmOne X.K cls (.ref C) = some (sub x.cls k)
theorem GdS.tr {n : Nat} {nm : Nms} {cl : Calls} {ec : EC} {sub : Nat → Nat → Bool} {N : List Str} {sc : Scope} {fx : Str → Bool} {X : Cx} {W W' : WX} (c : GdS n nm cl ec sub N sc fx X W) {pn : List (Addr × Obj)} {xe : Value → Shared → Prop}
    (tk : Takes (X.tr pn xe) W') (po : PassesOwn (model X.prog X.w) X.A X.env xe) : GdS n nm cl ec sub N sc fx (X.tr pn xe) W' where
  n1 := c.n1
  calm := c.calm
  hN := c.hN
  nd := c.nd
  scp := c.scp
  fxn := c.fxn
  un := c.un
  tk := tk
  fns := c.fns
  blt := c.blt
  gls := c.gls
  po := po
  stk := c.stk
  frm := c.frm
  kd := c.kd
  exs := c.exs
  exm := c.exm
def locC (N : List Str) (sc : Scope) : List Nat → List Str → Bool
  | [], [] => true
  | i :: is, y :: ys => decide (N[i]? = some y) && (match sc.names.lookup y with
    | some .local => true
    | _ => false) && locC N sc is ys
  | _, _ => false
def ckIx (N : List Str) (sc : Scope) : Xp → Expr → Bool
  | .k (.int j), .Constant (.int i) _ _ => i == j
  | .v i, .Name y _ => decide (N[i]? = some y) && visC sc y && nameOk y
  | _, _ => false
def ckSu : Su → List Stmt → Bool
  | .ret d, [.Return (some e) _] => ckK d e
  | .cont, [.Continue _] => true
  | .nop, [.Pass _] => true
  | _, _ => false
def ckH (nm : Nms) (sc : Scope) : Hd → List ExceptHandler → Bool
  | .nil, [] => true
  | .cons c s r, .ExceptHandler (some (.Name x _)) none suite _ :: hs => decide (nm.cs[c]? = some x) && glC sc x && ckSu s suite && ckH nm sc r hs
  | _, _ => false
def lcSwap (sc : Scope) (y : Str) (py : Pos) (e : Expr) : Bool := swV sc y py e == some true
mutual
def ckS (nm : Nms) (N : List Str) (sc : Scope) (fx : Str → Bool) : St → Stmt → Bool
  | .asg i _ e, s => match s with
    | .Assign [.Name y py] v _ => nmC N sc fx i y && ckE nm N e sc fx v && (match swV sc y py v with
      | some false => true
      | some true => (match sc.names.lookup y with
        | some .local => true
        | _ => false)
      | none => false)
    | _ => false
  | .mov i j, s => match s with
    | .Assign [.Name y _] (.Name z _) _ => nmC N sc fx i y && decide (N[j]? = some z) && visC sc z && nameOk z
    | _ => false
  | .asgT t e, s => match s with
    | .Assign [.Tuple es k p] v _ => ckT N sc fx t (.Tuple es k p) && ckE nm N e sc fx v && (match v with
      | .Tuple vs _ _ => swN sc es vs == some none
      | _ => true)
    | _ => false
  | .par ts es, s => match s with
    | .Assign [.Tuple tes _ _] (.Tuple vs _ _) _ => ckA nm N es sc fx vs && (match swN sc tes vs with
      | some (some ys) => locC N sc (ts.map (·.1)) ys
      | _ => false)
    | _ => false
  | .setix i ie e, s => match s with
    | .Assign [.Subscript (.Name y _) ix _] v _ => decide (N[i]? = some y) && visC sc y && nameOk y && ckIx N sc ie ix && ckE nm N e sc fx v && notComp v
    | _ => false
  | .expr e, s => match s with
    | .Expr v _ => notComp v && ckE nm N e sc fx v
    | _ => false
  | .ret e, s => match s with
    | .Return (some v) _ => ckE nm N e sc fx v
    | _ => false
  | .retv i, s => match s with
    | .Return (some (.Name y _)) _ => decide (N[i]? = some y) && visC sc y && nameOk y
    | _ => false
  | .ite t a b, s => match s with
    | .If c as bs _ => ckE nm N t sc fx c && ckSs nm N sc fx a as && ckSs nm N sc fx b bs
    | _ => false
  | .for_ t ik x y b, s => match s with
    | .For tg iter body [] _ => ckT N sc fx t tg && ckIt (ckE nm N x sc fx) (ckE nm N y sc fx) sc ik iter && notSet iter && ckSs nm N sc fx b body
    | _ => false
  | .whl t b, s => match s with
    | .While c body [] _ => ckE nm N t sc fx c && ckSs nm N sc fx b body
    | _ => false
  | .cont, s => match s with
    | .Continue _ => true
    | _ => false
  | .brk, s => match s with
    | .Break _ => true
    | _ => false
  | .raise c, s => match s with
    | .Raise (some (.Call (.Name x _) [.Constant (.str _) _ _] [] _)) none _ => decide (nm.cs[c]? = some x) && glC sc x
    | _ => false
  | .try_ b hs, s => match s with
    | .Try body (h :: hds) [] [] _ => ckSs nm N sc fx b body && ckH nm sc hs (h :: hds)
    | _ => false
  | .nop, s => match s with
    | .Pass _ => true
    | _ => false
  | .seq _ _, _ => false
def ckSs (nm : Nms) (N : List Str) (sc : Scope) (fx : Str → Bool) : St → List Stmt → Bool
  | .nop, ss => ss.isEmpty
  | .seq a b, ss => match ss with
    | s :: r => ckS nm N sc fx a s && ckSs nm N sc fx b r
    | [] => false
  | _, _ => false
end
end Itp
end
section
set_option Elab.async false
set_option linter.all false
set_option maxRecDepth 100000
set_option maxHeartbeats 4000000
set_option autoImplicit false
/-! Statements: the theorem. -/
namespace Itp
open PySem PySem.Spec PyProof.Rows L2
open Evl (Ex)
section
variable {W : WX} {ec : EC} {K : PySem.W.Frag} {σ : L2.St} {ρ : Env} {Hf H : Hp} {D : Ends}
theorem nop_reads (h : tS W ec K (M.pure .next) D σ H) : tNext D σ H := by
  obtain ⟨ρ, Hf, S, h⟩ := h
  exact h σ Hf H (.refl S)
theorem brk_reads (h : tS W ec K (M.pure .brk) D σ H) : tBreak D σ H := by
  obtain ⟨ρ, Hf, S, h⟩ := h
  exact h σ Hf H (.refl S)
theorem cont_reads (h : tS W ec K (M.pure .cont) D σ H) : tCont D σ H := by
  obtain ⟨ρ, Hf, S, h⟩ := h
  exact h σ Hf H (.refl S)
theorem raise_reads {c : Nat} {C : Addr} (he : ∀ H, ec ⟨c, none⟩ (.ref C) none H) (h : tS W ec K (fun ρ => some (.ex ⟨c, none⟩ ρ)) D σ H) : W (.ref C) none σ H := by
  obtain ⟨ρ, Hf, S, h⟩ := h
  exact h _ _ σ Hf H (.refl S) (he H)
theorem setix_core {i : Nat} {k : Int} {d : Itp.D} {v : V} {C : Unit → Env → Prop} {E : Exn → Env → Prop} {Q : Hp → Prop} (S : Sim K ρ σ Hf H) (rv : Rp K Hf v d) (h : Run (setixM i (.int k) d) ρ C E)
    (q : ∀ ρ' H', Post K σ ρ Hf H ρ' Hf H' → C () ρ' → Q H') : ∃ a, σ[i]? = some (some (.ref a)) ∧ rSetL (.ref a) (.int k) v H Q := by
  unfold Run setixM at h
  cases e : slotOb ρ i with
  | none => simp only [e] at h
  | some pr =>
    obtain ⟨io, o⟩ := pr
    cases o with
    | dct _ => simp only [e] at h
    | lst xs =>
      simp only [e] at h
      cases e2 : natOf k xs.length with
      | none => simp only [e2, Option.map_none] at h
      | some j =>
        simp only [e2, Option.map_some] at h
        obtain ⟨a, ea, nf, vs, hv, r⟩ := S.own i io _ (slotOb_of e)
        refine ⟨a, ea, a, vs, k, j, rfl, rfl, hv, ?_, q _ _ (Post.put S (slotOb_of e) ea (r.set rv j)) h⟩
        show natOf k vs.length = some j
        rw [r.length]
        exact e2
end
section
variable {n : Nat} {nm : Nms} {cl : Calls} {ec : EC} {sub : Nat → Nat → Bool} {N : List Str} {sc : Scope} {fx : Str → Bool} {X : Cx} {W : WX}
theorem ckIx_ok {ie : Xp} {ix : Expr} (c : Gd n nm cl ec N sc fx X W) (h : ckIx N sc ie ix = true) : ∃ ti, PE X ix ti ∧ (∀ {i : Nat} {y : Str} {p q : Pos}, PE X (.Name y p) (tVar i) → PG X (.Subscript (.Name y p) ix q) (gSub (tVar i) ti rSetL)) ∧ ∀ (K : PySem.W.Frag) (σ : L2.St) (ρ : Env) (Hf H : Hp) (d : Itp.D) (i : Nat) (v : V) (C : Unit → Env → Prop) (E : Exn → Env → Prop) (Q : Hp → Prop), Sim K ρ σ Hf H → Rp K Hf v d →
    Run (M.bind (evE cl ie) fun y => M.bind (M.of y.dat) fun k => setixM i k d) ρ C E → (∀ ρ' H', Post K σ ρ Hf H ρ' Hf H' → C () ρ' → Q H') → ∃ a, σ[i]? = some (some (.ref a)) ∧ ti σ H fun iv H2 => rSetL (.ref a) iv v H2 Q := by
  unfold ckIx at h
  split at h
  · cases eq_of_beq h
    refine ⟨_, pe_int, fun pe => pg_sub pe pe_int set_list (fun _ => rfl), fun K σ ρ Hf H d i v C E Q S rv hr q => ?_⟩
    have hr : Run (M.bind (M.of (R.dat (.val (.int _)))) fun k => setixM i k d) ρ C E := hr.bind
    obtain ⟨k, ek, h2⟩ := hr.bind.of
    cases ek
    exact setix_core S rv h2 q
  · simp only [Bool.and_eq_true] at h
    obtain ⟨⟨h1, h2⟩, h3⟩ := h
    obtain ⟨a1, a2, a3⟩ := nameOk_ok h3
    rename_i jx yx px
    have pv := pe_var (X := X) (i := jx) (x := yx) (pos := px) (by rw [c.hN]; exact of_decide_eq_true h1) (by rw [c.scp]; exact visC_ok h2) a1 a2
    refine ⟨_, pv, fun pe => pg_sub pe pv set_list (fun _ => rfl), fun K σ ρ Hf H d i v C E Q S rv hr q => ?_⟩
    have hr : Run (varM jx) ρ (fun y ρ' => Run (M.bind (M.of y.dat) fun k => setixM i k d) ρ' C E) E := hr.bind
    unfold Run varM at hr
    cases e : ρ[jx]? with
    | none => rw [e] at hr; exact hr.elim
    | some sl =>
      cases sl with
      | none => rw [e] at hr; exact hr.elim
      | some x =>
        cases x with
        | val d2 =>
          rw [e] at hr
          have hr : Run (M.bind (M.of (R.dat (.val d2))) fun k => setixM i k d) ρ C E := hr
          obtain ⟨k, ek, h2⟩ := hr.bind.of
          cases ek
          obtain ⟨w, ew, rw'⟩ := S.val jx d2 e
          cases d2 with
          | int z =>
            cases rw'
            obtain ⟨a, ea, q2⟩ := setix_core S rv h2 q
            exact ⟨a, ea, _, ew, q2⟩
          | _ =>
            exfalso
            unfold Run setixM at h2
            split at h2 <;> simp_all
        | own io o =>
          rw [e] at hr
          have hr : Run (M.bind (M.of (R.dat (.loc jx))) fun k => setixM i k d) ρ C E := hr
          obtain ⟨k, ek, h2⟩ := hr.bind.of
          cases ek
        | lck => rw [e] at hr; exact hr.elim
  · cases h
theorem ckSu_ok {s : Su} {suite : List Stmt} (h : ckSu s suite = true) : ∃ b0 r ts, suite = b0 :: r ∧ (∀ X, PSs X (b0 :: r) ts) ∧ ∀ (K : PySem.W.Frag) (x : Exn) (D : Ends) (E : Exn → Env → Prop) (ρ ρ' : Env) (σ σ' : L2.St) (Hf H Hf' H' : Hp),
    Run (suM s x) ρ' (endC D K ρ σ Hf H) E → PostS K ρ σ Hf H ρ' σ' Hf' H' → ts D σ' H' := by
  unfold ckSu at h
  split at h
  · rename_i d e p
    obtain ⟨v, hv, pe, _⟩ := ckK_ok h
    exact ⟨_, [], _, rfl, fun X => pss_one (ps_ret (pe X)), fun K x D E ρ ρ' σ σ' Hf H Hf' H' hr p => hr v σ' Hf' H' p (hv K Hf')⟩
  · exact ⟨_, [], _, rfl, fun X => pss_one ps_continue, fun K x D E ρ ρ' σ σ' Hf H Hf' H' hr p => hr σ' Hf' H' p⟩
  · exact ⟨_, [], _, rfl, fun X => pss_one ps_pass, fun K x D E ρ ρ' σ σ' Hf H Hf' H' hr p => hr σ' Hf' H' p⟩
  · cases h
theorem ckH_ok (c : GdS n nm cl ec sub N sc fx X W) : ∀ {hs : Hd} {hds : List ExceptHandler}, ckH nm sc hs hds = true → ∃ l, HdsOk X hds l ∧ ∀ (D : Ends) (x : Exn) (ρ ρ' : Env) (σ σ' : L2.St) (Hf H Hf' H' : Hp) (cls : Value) (d : Option Addr),
    Run (hdM sub hs x) ρ' (endC D X.K ρ σ Hf H) (XS W ec X.K ρ σ Hf H) → PostS X.K ρ σ Hf H ρ' σ' Hf' H' → ec x cls d H' → wMany X.K W D l cls d σ' H'
  | .nil, [], _ => ⟨[], .nil, fun D x ρ ρ' σ σ' Hf H Hf' H' cls d hr p e => hr cls d σ' Hf' H' p e⟩
  | .cons k s r, .ExceptHandler (some (.Name y _)) none suite _ :: hds, h => by
    have h : (decide (nm.cs[k]? = some y) && glC sc y && ckSu s suite && ckH nm sc r hds) = true := h
    simp only [Bool.and_eq_true] at h
    obtain ⟨⟨⟨h1, h2⟩, h3⟩, h4⟩ := h
    obtain ⟨l, ok, rd⟩ := ckH_ok c h4
    have ec1 := of_decide_eq_true h1
    obtain ⟨C, B, newId, initId, bmB, F, q, hm, kC, rs, he⟩ := c.exs k y ec1
    obtain ⟨g1, g2, g3⟩ := glC_ok c.toGd h2
    obtain ⟨b0, rr, ts, rfl, ps, rt⟩ := ckSu_ok h3
    refine ⟨(.ref C, fun _ _ _ => ts) :: l, .cons ⟨g1, g2, .inl hm⟩ (fun a oe cls d pn _ _ => ps _) ok, fun D x ρ ρ' σ σ' Hf H Hf' H' cls d hr p e => ?_⟩
    refine ⟨sub x.cls k, c.exm x cls d H' k y C e ec1 hm, fun hb a na => ?_, fun hb => ?_⟩
    · have hr : Run (if sub x.cls k = true then suM s x else hdM sub r x) ρ' _ _ := hr
      rw [if_pos hb] at hr
      exact rt X.K x D _ ρ ρ' σ σ' Hf H Hf' H' hr p
    · have hr : Run (if sub x.cls k = true then suM s x else hdM sub r x) ρ' _ _ := hr
      rw [if_neg (by rw [hb]; exact Bool.false_ne_true)] at hr
      exact rd D x ρ ρ' σ σ' Hf H Hf' H' cls d hr p e
theorem lc_inv {m : Xp} {elt : Expr} {gens : List Comprehension} {scope : Scope} {pos : Pos} (h : ckE nm N m sc fx (.ListComp elt gens scope pos) = true) : ∃ e t ik a b cd own, m = .lc e t ik a b cd own := by
  cases m with
  | lc e t ik a b cd own => exact ⟨e, t, ik, a, b, cd, own, rfl⟩
  | k d => unfold ckE at h; cases d <;> cases h
  | _ => unfold ckE at h; cases h
theorem set_lc {m : Xp} {i : Nat} {y : Str} {py spos : Pos} {elt : Expr} {gens : List Comprehension} {scope : Scope} {pos : Pos} (c : Gd n nm cl ec N sc fx X W) (kd : X.env.scope.kind = .function) (h1 : N[i]? = some y) (h2 : sc.names.lookup y = some .local)
    (h3 : swV sc y py (.ListComp elt gens scope pos) = some true) (h : ckE nm N m sc fx (.ListComp elt gens scope pos) = true) : QS n X (.Assign [.Name y py] (.ListComp elt gens scope pos) spos) (tAsg (tM W ec X.K (evE cl m)) (gName i)) := by
  obtain ⟨e, t, ik, a, b, cd, own, rfl⟩ := lc_inv h
  unfold ckE at h
  split at h
  · rename_i elt' tg iter ifs scope' pos' heq
    injection heq with q1 q2 q3 q4
    subst q1 q2 q3 q4
    rw [Bool.and_eq_true, Bool.and_eq_true, Bool.and_eq_true, Bool.and_eq_true, Bool.and_eq_true, Bool.and_eq_true] at h
    obtain ⟨⟨⟨⟨⟨⟨k1, k2⟩, k3⟩, k4⟩, k5⟩, k6⟩, k7⟩ := h
    have ok : BlkOk X.N X.env.scope scope (blkOwn N own) := by rw [c.hN, c.scp]; exact blkOk_by k1
    have ts := of_decide_eq_true k2
    have qi := ckIt_ok (tg := tg) c (fun e z => ((mainE a).1 _ _ _ _ _ c z).qe) (fun e z => ((mainE b).1 _ _ _ _ _ c z).qe) k4
    have nd : X.N.Nodup := by rw [c.hN]; exact c.nd
    have he' : ∀ (s : Shared) (H : Hp) (C : Addr) (cs : List (Str × Addr)) (fp : List Addr), QE n (X.blk s H scope (compEnvC scope cs C X.env) fp) elt (tM W0 ec X.K (evE cl e)) := fun s H C cs fp => ((mainE e).1 _ _ _ _ _ (c.blk s H C cs fp scope) k6).qe
    have hg' : ∀ (s : Shared) (H : Hp) (C : Addr) (cs : List (Str × Addr)) (fp : List Addr), PG (X.blk s H scope (compEnvC scope cs C X.env) fp) tg (gTg X.K t) := fun s H C cs fp => ckT_ok (c.blk s H C cs fp scope) k3
    have hi : X.N[i]? = some y := by rw [c.hN]; exact h1
    have hl : X.env.scope.names.lookup y = some .local := by rw [c.scp]; exact h2
    have sw : ∀ line, swapsWith (.ListComp elt [⟨tg, iter, ifs, 0⟩] scope pos) (some (.Name y py)) line X.env = pure true := fun line => swV_ok h3 c.scp kd
    cases ifs with
    | nil =>
      cases yes_ok k5
      have z := qs_setLc (pos := pos) (py := py) (spos := spos) c.calm nd hi hl (sw _) qi ok hg' (fun s H C cs fp => qts_nil) he' (set_ok k7 _)
      rw [blkOwn_snd] at z
      exact z.weak fun D τ G q => lc_reads ts (fun _ _ _ ⟨ρ, Hf, S, h⟩ => h Hf _ (.refl S)) q
    | cons cnd r =>
      cases r with
      | cons _ _ => cases k5
      | nil =>
        have k5 : ckE nm N cd (relS scope sc) (fun x => scope.names.lookup x == some .cell) cnd = true := k5
        have hc' : ∀ (s : Shared) (H : Hp) (C : Addr) (cs : List (Str × Addr)) (fp : List Addr), QTs n (X.blk s H scope (compEnvC scope cs C X.env) fp) [cnd] (tMT W0 ec X.K (tst (evE cl cd))) := fun s H C cs fp => qts_one ((mainE cd).1 _ _ _ _ _ (c.blk s H C cs fp scope) k5).qt
        have z := qs_setLc (pos := pos) (py := py) (spos := spos) c.calm nd hi hl (sw _) qi ok hg' hc' he' (set_ok k7 _)
        rw [blkOwn_snd] at z
        exact z.weak fun D τ G q => lc_reads ts (fun _ _ _ z => z) q
  · cases h
/-- the values of a, b = .. -/
theorem par_ok : ∀ (m : Xp) (es : List Expr), Gd n nm cl ec N sc fx X W → ckA nm N m sc fx es = true → QA n X es (tMP W ec X.K (evP cl m))
  | .anil, es, c, h => by
    unfold ckA at h
    cases es with
    | nil => exact qa_nil.weak fun _ _ _ q => pnil_reads q
    | cons _ _ => cases h
  | .acons a r, es, c, h => by
    unfold ckA at h
    cases es with
    | nil => cases h
    | cons x xs =>
      simp only [Bool.and_eq_true] at h
      exact (qa_cons ((mainE a).1 _ _ _ _ _ c h.1.2).qe (par_ok r xs c h.2) (star_ok h.1.1 _ _)).weak fun _ _ _ q => pcons_reads q
  | .k _, _, _, h => by unfold ckA at h; cases h
  | .g _ _, _, _, h => by unfold ckA at h; cases h
  | .v _, _, _, h => by unfold ckA at h; cases h
  | .bin _ _ _, _, _, h => by unfold ckA at h; cases h
  | .neg _, _, _, h => by unfold ckA at h; cases h
  | .nt _, _, _, h => by unfold ckA at h; cases h
  | .and _ _, _, _, h => by unfold ckA at h; cases h
  | .or _ _, _, _, h => by unfold ckA at h; cases h
  | .cmp _ _ _, _, _, h => by unfold ckA at h; cases h
  | .chn _ _ _ _ _, _, _, h => by unfold ckA at h; cases h
  | .ife _ _ _, _, _, h => by unfold ckA at h; cases h
  | .tup _, _, _, h => by unfold ckA at h; cases h
  | .lst _, _, _, h => by unfold ckA at h; cases h
  | .ix _ _, _, _, h => by unfold ckA at h; cases h
  | .sl _ _ _, _, _, h => by unfold ckA at h; cases h
  | .rev _, _, _, h => by unfold ckA at h; cases h
  | .bi _ _, _, _, h => by unfold ckA at h; cases h
  | .isi _ _, _, _, h => by unfold ckA at h; cases h
  | .repl _ _ _, _, _, h => by unfold ckA at h; cases h
  | .mt _ _ _, _, _, h => by unfold ckA at h; cases h
  | .mm _ _ _, _, _, h => by unfold ckA at h; cases h
  | .call _ _, _, _, h => by unfold ckA at h; cases h
  | .lc _ _ _ _ _ _ _, _, _, h => by unfold ckA at h; cases h
theorem locC_ok : ∀ {is : List Nat} {ys : List Str}, locC N sc is ys = true → is.length = ys.length ∧ ∀ (k : Nat) (y : Str), ys[k]? = some y → ∃ i, is[k]? = some i ∧ N[i]? = some y ∧ sc.names.lookup y = some .local
  | [], [], _ => ⟨rfl, fun k y e => by simp at e⟩
  | i :: is, y :: ys, h => by
    have h : (decide (N[i]? = some y) && (match sc.names.lookup y with
      | some .local => true
      | _ => false) && locC N sc is ys) = true := h
    rw [Bool.and_eq_true, Bool.and_eq_true] at h
    obtain ⟨⟨h1, h2⟩, h3⟩ := h
    obtain ⟨l, q⟩ := locC_ok h3
    refine ⟨by rw [List.length_cons, List.length_cons, l], fun k z e => ?_⟩
    cases k with
    | zero =>
      cases e
      refine ⟨i, rfl, of_decide_eq_true h1, ?_⟩
      split at h2
      · assumption
      · cases h2
    | succ k => exact q k z e
def MainS (n : Nat) (nm : Nms) (cl : Calls) (ec : EC) (sub : Nat → Nat → Bool) (N : List Str) (sc : Scope) (fx : Str → Bool) (st : St) : Prop :=
  (∀ s X W, GdS n nm cl ec sub N sc fx X W → ckS nm N sc fx st s = true → QS n X s (tS W ec X.K (evS sub cl st))) ∧ (∀ ss X W, GdS n nm cl ec sub N sc fx X W → ckSs nm N sc fx st ss = true → QSs n X ss (tS W ec X.K (evS sub cl st)))
theorem noSs {st : St} (h : ∀ ss, ckSs nm N sc fx st ss = false) : ∀ ss X W, GdS n nm cl ec sub N sc fx X W → ckSs nm N sc fx st ss = true → QSs n X ss (tS W ec X.K (evS sub cl st)) := fun ss X W _ z => by rw [h] at z; cases z
theorem vis_pe (c : Gd n nm cl ec N sc fx X W) {i : Nat} {y : Str} {p : Pos} (h1 : decide (N[i]? = some y) = true) (h2 : visC sc y = true) (h3 : nameOk y = true) : PE X (.Name y p) (tVar i) :=
  let ⟨a1, a2, _⟩ := nameOk_ok h3
  pe_var (by rw [c.hN]; exact of_decide_eq_true h1) (by rw [c.scp]; exact visC_ok h2) a1 a2
theorem ms_asg (i : Nat) (f : Bool) (e : Xp) : MainS n nm cl ec sub N sc fx (.asg i f e) := by
  refine ⟨fun s X W c h => ?_, noSs fun _ => by unfold ckSs; rfl⟩
  unfold ckS at h
  split at h
  · rename_i y py v spos
    rw [Bool.and_eq_true, Bool.and_eq_true] at h
    obtain ⟨⟨h1, h2⟩, h3⟩ := h
    split at h3
    · rename_i hsw
      exact (qs_asg (pos := spos) ((mainE e).1 _ _ _ _ _ c.toGd h2).qe (nmC_ok c.toGd h1) (swV_ok (line := spos.line) hsw c.scp c.kd) rfl rfl).weak fun D τ G q => asg_reads q
    · rename_i hsw
      split at h3
      · rename_i hl
        cases v with
        | ListComp elt gens scope pos =>
          unfold nmC at h1
          rw [Bool.and_eq_true] at h1
          exact (set_lc c.toGd c.kd (of_decide_eq_true h1.1) hl hsw h2).weak fun D τ G q => asg_reads q
        | SetComp _ _ _ _ => cases hsw
        | DictComp _ _ _ _ _ => cases hsw
        | _ => cases hsw
      · cases h3
    · cases h3
  · cases h
theorem ms_mov (i j : Nat) : MainS n nm cl ec sub N sc fx (.mov i j) := by
  refine ⟨fun s X W c h => ?_, noSs fun _ => by unfold ckSs; rfl⟩
  unfold ckS at h
  split at h
  · simp only [Bool.and_eq_true] at h
    obtain ⟨⟨⟨h1, h2⟩, h3⟩, h4⟩ := h
    exact (qs_asg (QE.of (vis_pe c.toGd h2 h3 h4)) (nmC_ok c.toGd h1) rfl rfl rfl).weak fun D τ G q => mov_reads q
  · cases h
theorem ms_asgT (t : Tg) (e : Xp) : MainS n nm cl ec sub N sc fx (.asgT t e) := by
  refine ⟨fun s X W c h => ?_, noSs fun _ => by unfold ckSs; rfl⟩
  unfold ckS at h
  split at h
  · rename_i es k p v spos
    rw [Bool.and_eq_true, Bool.and_eq_true] at h
    obtain ⟨⟨h1, h2⟩, h3⟩ := h
    refine (qs_asg ((mainE e).1 _ _ _ _ _ c.toGd h2).qe (ckT_ok c.toGd h1) sole_tup ?_ rfl).weak fun D τ G q => asgT_reads q
    split at h3
    · exact swN_ok (eq_of_beq h3) c.scp c.kd
    · rename_i hv
      refine noSwap ?_
      cases v <;> first | rfl | exact absurd rfl (hv _ _ _)
  · cases h
theorem ms_par (ts : List (Nat × Bool)) (es : Xp) : MainS n nm cl ec sub N sc fx (.par ts es) := by
  refine ⟨fun s X W c h => ?_, noSs fun _ => by unfold ckSs; rfl⟩
  unfold ckS at h
  split at h
  · rw [Bool.and_eq_true] at h
    obtain ⟨h1, h2⟩ := h
    split at h2
    · rename_i ys hsw
      obtain ⟨l, q⟩ := locC_ok h2
      have hz : ys.length ≤ sizeLine := by
        have hb := hsw
        unfold swN at hb
        split at hb
        · cases hb
        · rename_i c1
          split at hb
          · cases hb
          · split at hb
            · cases hb
            · rename_i c3
              split at hb
              · cases hb
              · split at hb
                · cases hb
                · cases hb
                  simp only [Bool.or_eq_true, bne_iff_ne, ne_eq, not_or, Decidable.not_not] at c3
                  simp only [Bool.or_eq_true, bne_iff_ne, ne_eq, not_or, Decidable.not_not, Bool.not_eq_true', Bool.not_eq_false, beq_iff_eq] at c1
                  rw [c3.1, line_lim]
                  have : lim = 16777216 := rfl
                  omega
      exact (qs_par c.calm (by rw [c.hN]; exact c.nd) (par_ok es _ c.toGd h1) l hz (fun k y e => by
        obtain ⟨i, e1, e2, e3⟩ := q k y e
        exact ⟨i, e1, by rw [c.hN]; exact e2, by rw [c.scp]; exact e3⟩) (swN_ok hsw c.scp c.kd) sole_tup).weak fun D τ G q => par_reads q
    · cases h2
  · cases h
theorem ms_setix (i : Nat) (ie e : Xp) : MainS n nm cl ec sub N sc fx (.setix i ie e) := by
  refine ⟨fun s X W c h => ?_, noSs fun _ => by unfold ckSs; rfl⟩
  unfold ckS at h
  split at h
  · simp only [Bool.and_eq_true] at h
    obtain ⟨⟨⟨⟨⟨h1, h2⟩, h3⟩, h4⟩, h5⟩, h6⟩ := h
    obtain ⟨ti, pi, pg, rd⟩ := ckIx_ok c.toGd h4
    refine (qs_asg ((mainE e).1 _ _ _ _ _ c.toGd h5).qe (pg (vis_pe c.toGd h1 h2 h3)) (by unfold swapsWithSole; exact noComp h6) rfl rfl).weak fun D τ G q => ?_
    obtain ⟨ρ, Hf, S, h⟩ := q
    refine stepME (.refl S) h fun r ρ1 v Hf1 H1 p1 q1 h1 => ?_
    obtain ⟨d, e1, h2⟩ := h1.bind.of
    obtain ⟨Hf2, p2, ex2, r2⟩ := RRel.dat p1 S q1 e1
    have h3 : Run (M.bind (evE cl ie) fun y => M.bind (M.of y.dat) fun k => setixM i k d) ρ1 (fun _ ρ' => Run (M.pure Fl.next) ρ' (endC D X.K ρ τ Hf G) (XS W ec X.K ρ τ Hf G)) (XS W ec X.K ρ τ Hf G) :=
      Run.bind' (h2.bind.imp (fun y ρ' z => Run.bind' (z.bind.imp (fun k ρ' z => z.bind) fun _ _ z => z)) fun _ _ z => z)
    obtain ⟨a, ea, q2⟩ := rd X.K τ ρ1 Hf2 H1 d i v _ _ (fun H4 => D.nx τ H4) p2.sim r2 h3 fun ρ' H' p3 z => z τ Hf2 H' (p2.trans p3).s
    exact ⟨.ref a, ea, q2⟩
  · cases h
theorem ms_expr (e : Xp) : MainS n nm cl ec sub N sc fx (.expr e) := by
  refine ⟨fun s X W c h => ?_, noSs fun _ => by unfold ckSs; rfl⟩
  unfold ckS at h
  split at h
  · rw [Bool.and_eq_true] at h
    exact (qs_expr ((mainE e).1 _ _ _ _ _ c.toGd h.2).qe (noComp h.1)).weak fun D τ G q => expr_reads q
  · cases h
theorem ms_ret (e : Xp) : MainS n nm cl ec sub N sc fx (.ret e) := by
  refine ⟨fun s X W c h => ?_, noSs fun _ => by unfold ckSs; rfl⟩
  unfold ckS at h
  split at h
  · exact (qs_ret ((mainE e).1 _ _ _ _ _ c.toGd h).qe).weak fun D τ G q => ret_reads q
  · cases h
theorem ms_retv (i : Nat) : MainS n nm cl ec sub N sc fx (.retv i) := by
  refine ⟨fun s X W c h => ?_, noSs fun _ => by unfold ckSs; rfl⟩
  unfold ckS at h
  split at h
  · simp only [Bool.and_eq_true] at h
    exact (qs_ret (QE.of (vis_pe c.toGd h.1.1 h.1.2 h.2))).weak fun D τ G q => retv_reads q
  · cases h
theorem ms_ite (t : Xp) {a b : St} (ha : MainS n nm cl ec sub N sc fx a) (hb : MainS n nm cl ec sub N sc fx b) : MainS n nm cl ec sub N sc fx (.ite t a b) := by
  refine ⟨fun s X W c h => ?_, noSs fun _ => by unfold ckSs; rfl⟩
  unfold ckS at h
  split at h
  · simp only [Bool.and_eq_true] at h
    exact (qs_if ((mainE t).1 _ _ _ _ _ c.toGd h.1.1).qt (ha.2 _ _ _ c h.1.2) (hb.2 _ _ _ c h.2)).weak fun D τ G q => ite_reads q
  · cases h
theorem ms_for (t : Tg) (ik : ItK) (x y : Xp) {b : St} (hb : MainS n nm cl ec sub N sc fx b) : MainS n nm cl ec sub N sc fx (.for_ t ik x y b) := by
  refine ⟨fun s X W c h => ?_, noSs fun _ => by unfold ckSs; rfl⟩
  unfold ckS at h
  split at h
  · simp only [Bool.and_eq_true] at h
    obtain ⟨⟨⟨h1, h2⟩, h3⟩, h4⟩ := h
    exact (qs_for c.po c.calm (ckIt_ok c.toGd (fun e z => ((mainE x).1 _ _ _ _ _ c.toGd z).qe) (fun e z => ((mainE y).1 _ _ _ _ _ c.toGd z).qe) h2) (ckT_ok c.toGd h1) (hb.2 _ _ _ c h4) (set_ok h3 _)).weak fun D τ G q => for_reads q
  · cases h
theorem ms_whl (t : Xp) {b : St} (hb : MainS n nm cl ec sub N sc fx b) : MainS n nm cl ec sub N sc fx (.whl t b) := by
  refine ⟨fun s X W c h => ?_, noSs fun _ => by unfold ckSs; rfl⟩
  unfold ckS at h
  split at h
  · rw [Bool.and_eq_true] at h
    exact (qs_while c.po ((mainE t).1 _ _ _ _ _ c.toGd h.1).qt (hb.2 _ _ _ c h.2)).weak fun D τ G q => whl_reads q
  · cases h
theorem ms_raise (k : Nat) : MainS n nm cl ec sub N sc fx (.raise k) := by
  refine ⟨fun s X W c h => ?_, noSs fun _ => by unfold ckSs; rfl⟩
  unfold ckS at h
  split at h
  · rw [Bool.and_eq_true] at h
    obtain ⟨C, B, newId, initId, bmB, F, q, hm, kC, rs, he⟩ := c.exs k _ (of_decide_eq_true h.1)
    obtain ⟨g1, g2, g3⟩ := glC_ok c.toGd h.2
    exact (QS.of (ps_raise c.calm c.tk (pmk_own F q hm kC rs g1 g2))).weak fun D τ G q => raise_reads he q
  · cases h
theorem ms_try {b : St} (hs : Hd) (hb : MainS n nm cl ec sub N sc fx b) : MainS n nm cl ec sub N sc fx (.try_ b hs) := by
  refine ⟨fun s X W c h => ?_, noSs fun _ => by unfold ckSs; rfl⟩
  unfold ckS at h
  split at h
  · rw [Bool.and_eq_true] at h
    obtain ⟨l, ok, rd⟩ := ckH_ok c h.2
    refine (qs_try (tb := fun W' => tS W' ec X.K (evS sub cl b)) c.stk c.frm c.tk (fun W' pn xe tk po => hb.2 _ _ _ (c.tr tk po) h.1) ok).weak fun D τ G q => ?_
    obtain ⟨ρ, Hf, S, h⟩ := q
    refine ⟨ρ, Hf, S, ?_⟩
    have h : Run (tryM sub (evS sub cl b) hs) ρ (endC D X.K ρ τ Hf G) (XS W ec X.K ρ τ Hf G) := h
    unfold Run tryM at h
    unfold Run
    cases e : evS sub cl b ρ with
    | none => simp only [e] at h
    | some r =>
      cases r with
      | ok a ρ' => simp only [e] at h; exact h
      | ex x ρ' =>
        simp only [e] at h
        exact fun cls d σ' Hf' H' p ee => rd D x ρ ρ' τ σ' Hf G Hf' H' cls d h p ee
  · cases h
theorem ms_cont : MainS n nm cl ec sub N sc fx .cont := by
  refine ⟨fun s X W c h => ?_, noSs fun _ => by unfold ckSs; rfl⟩
  unfold ckS at h
  split at h
  · exact (QS.of ps_continue).weak fun D τ G q => cont_reads q
  · cases h
theorem ms_brk : MainS n nm cl ec sub N sc fx .brk := by
  refine ⟨fun s X W c h => ?_, noSs fun _ => by unfold ckSs; rfl⟩
  unfold ckS at h
  split at h
  · exact (QS.of ps_break).weak fun D τ G q => brk_reads q
  · cases h
theorem ms_nop : MainS n nm cl ec sub N sc fx .nop := by
  refine ⟨fun s X W c h => ?_, fun ss X W c h => ?_⟩
  · unfold ckS at h
    split at h
    · exact (QS.of ps_pass).weak fun D τ G q => nop_reads q
    · cases h
  · unfold ckSs at h
    cases ss with
    | nil => exact qss_nil.weak fun D τ G q => nop_reads q
    | cons _ _ => cases h
theorem ms_seq {a b : St} (ha : MainS n nm cl ec sub N sc fx a) (hb : MainS n nm cl ec sub N sc fx b) : MainS n nm cl ec sub N sc fx (.seq a b) := by
  refine ⟨fun s X W c h => (by unfold ckS at h; cases h), fun ss X W c h => ?_⟩
  unfold ckSs at h
  cases ss with
  | nil => cases h
  | cons s r =>
    have h : (ckS nm N sc fx a s && ckSs nm N sc fx b r) = true := h
    rw [Bool.and_eq_true] at h
    exact (qss_cons (ha.1 _ _ _ c h.1) (hb.2 _ _ _ c h.2)).weak fun D τ G q => seq_reads q
theorem mainS : ∀ st : St, MainS n nm cl ec sub N sc fx st
  | .asg i f e => ms_asg i f e
  | .mov i j => ms_mov i j
  | .asgT t e => ms_asgT t e
  | .par ts es => ms_par ts es
  | .setix i ie e => ms_setix i ie e
  | .expr e => ms_expr e
  | .ret e => ms_ret e
  | .retv i => ms_retv i
  | .ite t a b => ms_ite t (mainS a) (mainS b)
  | .seq a b => ms_seq (mainS a) (mainS b)
  | .nop => ms_nop
  | .for_ t ik x y b => ms_for t ik x y (mainS b)
  | .whl t b => ms_whl t (mainS b)
  | .cont => ms_cont
  | .brk => ms_brk
  | .raise c => ms_raise c
  | .try_ b hs => ms_try hs (mainS b)
end
end Itp
end
section
set_option Elab.async false
set_option linter.all false
set_option maxRecDepth 100000
set_option maxHeartbeats 4000000
set_option autoImplicit false
/-! Defs: their promises, level by level. -/
namespace Itp
open PySem PySem.Spec PyProof.Rows L2
open Evl (Ex)
section
variable {K : PySem.W.Frag} {ρ ρ' : Env} {σ σ' : L2.St} {Hf H Hf' H' G G' : Hp}
theorem pad_get {α : Type} (l : List α) (m i : Nat) : (l.map some ++ List.replicate m (none : Option α))[i]? = match l[i]? with
    | some x => some (some x)
    | none => if i < l.length + m then some none else none := by
  by_cases h : i < l.length
  · rw [List.getElem?_append_left (by rw [List.length_map]; exact h), List.getElem?_map, List.getElem?_eq_getElem h]
    rfl
  · have hn : l[i]? = none := List.getElem?_eq_none (by omega)
    rw [List.getElem?_append_right (by rw [List.length_map]; omega), List.length_map, List.getElem?_replicate, hn]
    by_cases h2 : i < l.length + m
    · rw [if_pos (by omega)]; simp [h2]
    · rw [if_neg (by omega)]; simp [h2]
theorem pad_some {α : Type} {l : List α} {m i : Nat} {x : α} (h : (l.map some ++ List.replicate m (none : Option α))[i]? = some (some x)) : l[i]? = some x := by
  rw [pad_get] at h
  cases e : l[i]? with
  | some y => rw [e] at h; simpa using h
  | none =>
    rw [e] at h
    simp only [] at h
    split at h <;> simp at h
theorem some_pad {α : Type} {l : List α} {m i : Nat} {x : α} (h : l[i]? = some x) : (l.map some ++ List.replicate m (none : Option α))[i]? = some (some x) := by
  rw [pad_get, h]
theorem map_some {α : Type} {l : List α} {i : Nat} {x : α} (h : (l.map some)[i]? = some (some x)) : l[i]? = some x := by
  rw [List.getElem?_map] at h
  obtain ⟨y, e1, e2⟩ := map_of h
  cases e2
  exact e1
theorem Sim.pad {svs : List SV} {vs : List V} (S : Sim K (svs.map some) (vs.map some) Hf G) (m : Nat) : Sim K (svs.map some ++ List.replicate m none) (vs.map some ++ List.replicate m none) Hf G := by
  have l : svs.length = vs.length := by have := S.len; rwa [List.length_map, List.length_map] at this
  refine ⟨by rw [List.length_append, List.length_append, List.length_map, List.length_map, l, List.length_replicate, List.length_replicate], S.sub, fun i d e => ?_, fun i io o e => ?_, fun i j io o io' o' a e1 e2 e3 e4 => ?_⟩
  · obtain ⟨v, e1, r⟩ := S.val i d (map_get (pad_some e))
    exact ⟨v, some_pad (map_some e1), r⟩
  · obtain ⟨a, e1, e2, e3⟩ := S.own i io o (map_get (pad_some e))
    exact ⟨a, some_pad (map_some e1), e2, e3⟩
  · exact S.inj i j io o io' o' a (map_get (pad_some e1)) (map_get (pad_some e2)) (map_get (pad_some e3)) (map_get (pad_some e4))
theorem ow_pad {svs : List SV} {vs : List V} {m : Nat} {a : Addr} : Ow (svs.map some ++ List.replicate m none) (vs.map some ++ List.replicate m none) a ↔ Ow (svs.map some) (vs.map some) a :=
  ⟨fun ⟨i, io, o, e1, e2⟩ => ⟨i, io, o, map_get (pad_some e1), map_get (pad_some e2)⟩, fun ⟨i, io, o, e1, e2⟩ => ⟨i, io, o, some_pad (map_some e1), some_pad (map_some e2)⟩⟩
/-- the objects that were handed in, at the end -/
theorem io_end : ∀ {io : List Bool} {svs : List SV} {ρ' : Env} {os : List Ob}, fitA io svs = true → ioOf io ρ' = some os →
    (putIo svs os).length = svs.length ∧ ∀ i : Nat, (∀ d, (putIo svs os)[i]? = some (.val d) → svs[i]? = some (.val d)) ∧ (∀ b o', (putIo svs os)[i]? = some (.own b o') → ∃ o, b = true ∧ svs[i]? = some (.own true o) ∧ ρ'[i]? = some (some (.own true o'))) ∧ (putIo svs os)[i]? ≠ some .lck
  | [], [], ρ', os, _, h => ⟨rfl, fun i => ⟨fun d e => by simp [putIo] at e, fun b o' e => by simp [putIo] at e, by simp [putIo]⟩⟩
  | true :: io, .own true o :: svs, ρ', os, hf, h => by
    match ρ', h with
    | some (.own true o1) :: ρ', h =>
      obtain ⟨os', e1, e2⟩ := map_of (show (ioOf io ρ').map (o1 :: ·) = some os from h)
      subst e2
      obtain ⟨l, q⟩ := io_end (show fitA io svs = true from hf) e1
      refine ⟨by show (_ :: putIo svs os').length = _; rw [List.length_cons, List.length_cons, l], fun i => ?_⟩
      cases i with
      | zero => exact ⟨fun d e => (nomatch e), fun b o' e => (by cases e; exact ⟨o, rfl, rfl, rfl⟩), fun z => nomatch z⟩
      | succ i => exact q i
  | false :: io, .val d :: svs, ρ', os, hf, h => by
    match ρ', h with
    | x :: ρ', h =>
      obtain ⟨l, q⟩ := io_end (show fitA io svs = true from hf) (show ioOf io ρ' = some os from h)
      refine ⟨by show (_ :: putIo svs os).length = _; rw [List.length_cons, List.length_cons, l], fun i => ?_⟩
      cases i with
      | zero => exact ⟨fun d' e => e, fun b o' e => (nomatch e), fun z => nomatch z⟩
      | succ i => exact q i
  | true :: _, .own false _ :: _, _, _, hf, _ => by cases hf
  | true :: _, .val _ :: _, _, _, hf, _ => by cases hf
  | true :: _, .lck :: _, _, _, hf, _ => by cases hf
  | false :: _, .own _ _ :: _, _, _, hf, _ => by cases hf
  | false :: _, .lck :: _, _, _, hf, _ => by cases hf
  | [], _ :: _, _, _, hf, _ => by cases hf
  | true :: _, [], _, _, hf, _ => by cases hf
  | false :: _, [], _, _, hf, _ => by cases hf
theorem fit_len : ∀ {io : List Bool} {svs : List SV}, fitA io svs = true → svs.length = io.length
  | [], [], _ => rfl
  | true :: io, .own true _ :: svs, h => by rw [List.length_cons, List.length_cons, fit_len (show fitA io svs = true from h)]
  | false :: io, .val _ :: svs, h => by rw [List.length_cons, List.length_cons, fit_len (show fitA io svs = true from h)]
  | true :: _, .own false _ :: _, h => by cases h
  | true :: _, .val _ :: _, h => by cases h
  | true :: _, .lck :: _, h => by cases h
  | false :: _, .own _ _ :: _, h => by cases h
  | false :: _, .lck :: _, h => by cases h
  | [], _ :: _, h => by cases h
  | true :: _, [], h => by cases h
  | false :: _, [], h => by cases h
theorem fit_io : ∀ {io : List Bool} {svs : List SV} {i : Nat} {b : Bool} {o : Ob}, fitA io svs = true → svs[i]? = some (.own b o) → b = true
  | true :: io, .own true _ :: svs, 0, b, o, h, e => by cases e; rfl
  | true :: io, .own true _ :: svs, i + 1, b, o, h, e => fit_io (i := i) (show fitA io svs = true from h) e
  | false :: io, .val _ :: svs, 0, b, o, h, e => by cases e
  | false :: io, .val _ :: svs, i + 1, b, o, h, e => fit_io (i := i) (show fitA io svs = true from h) e
  | [], [], _, _, _, _, e => by simp at e
  | true :: _, .own false _ :: _, _, _, _, h, _ => by cases h
  | true :: _, .val _ :: _, _, _, _, h, _ => by cases h
  | true :: _, .lck :: _, _, _, _, h, _ => by cases h
  | false :: _, .own _ _ :: _, _, _, _, h, _ => by cases h
  | false :: _, .lck :: _, _, _, _, h, _ => by cases h
  | [], _ :: _, _, _, _, h, _ => by cases h
  | true :: _, [], _, _, _, h, _ => by cases h
  | false :: _, [], _, _, _, h, _ => by cases h
/-- what the caller sees of a def's end -/
theorem end_sim {io : List Bool} {svs : List SV} {vs : List V} {m : Nat} {os : List Ob} (S : Sim K (svs.map some) (vs.map some) Hf G) (hf : fitA io svs = true) (ho : ioOf io ρ' = some os)
    (p : PostS K (svs.map some ++ List.replicate m none) (vs.map some ++ List.replicate m none) Hf G ρ' σ' Hf' G') : Grow (Ow (svs.map some) (vs.map some)) Hf G Hf' G' ∧ Sim K ((putIo svs os).map some) (vs.map some) Hf' G' := by
  obtain ⟨l, q⟩ := io_end hf ho
  have lv : svs.length = vs.length := by have := S.len; rwa [List.length_map, List.length_map] at this
  have at_ : ∀ {i : Nat} {b : Bool} {o : Ob}, OwnAt ((putIo svs os).map some) i b o → ∃ a, (vs.map some)[i]? = some (some (.ref a)) ∧ OwnAt ρ' i true o ∧ σ'[i]? = some (some (.ref a)) ∧ b = true := by
    intro i b o e
    obtain ⟨o0, hb, e1, e2⟩ := ((q i).2.1) b o (map_some e)
    obtain ⟨a, ea, _, _⟩ := S.own i true o0 (map_get e1)
    have e3 := (p.io i o0 (some_pad e1)).2
    rw [some_pad (map_some ea)] at e3
    exact ⟨a, ea, e2, e3, hb⟩
  refine ⟨p.gr.imp fun a z => ow_pad.mp z, ⟨by rw [List.length_map, List.length_map, l, lv], p.sim.sub, fun i d e => ?_, fun i b o e => ?_, fun i j b o b' o' a e1 e2 e3 e4 => ?_⟩⟩
  · obtain ⟨v, e1, r⟩ := S.val i d (map_get ((q i).1 d (map_some e)))
    exact ⟨v, e1, Rp.mono p.gr.ex _ _ r⟩
  · obtain ⟨a, ea, e2, e3, _⟩ := at_ e
    obtain ⟨c, ec, nf, ob⟩ := p.sim.own i true o e2
    rw [e3] at ec
    cases ec
    exact ⟨a, ea, nf, ob⟩
  · obtain ⟨c, ec, f2, f3, _⟩ := at_ e1
    obtain ⟨d, ed, g2, g3, _⟩ := at_ e2
    rw [ec] at e3
    rw [ed] at e4
    cases e3
    cases e4
    exact p.sim.inj i j true o true o' a f2 g2 f3 g3
/-- a def's body, as its caller wants it -/
theorem body_ok {W : WX} {ec : EC} {E : XK} {sub : Nat → Nat → Bool} {cl : Calls} {f : FnD} {vs : List V} {Q : VK} {N : List Str} {np : Nat} (hns : f.ns = N.length) (hnp : np = f.io.length) (hW : ∀ c d τ H, E c d H → W c d τ H)
    (h : spF K ec (callF sub cl f) np vs G Q E) : tS W ec K (evS sub cl f.body) { nx := fun _ G' => Q .non G', rt := Q } (L2.start N vs) G := by
  obtain ⟨svs, Hf, lv, ls, S, h⟩ := h
  by_cases hf : fitA f.io svs = true
  case neg =>
    unfold callF at h
    simp only [if_neg hf] at h
  case pos =>
    unfold callF at h
    simp only [if_pos hf] at h
    have e1 : L2.start N vs = vs.map some ++ List.replicate (f.ns - svs.length) none := by unfold L2.start; rw [hns, lv, ls]
    rw [e1]
    refine ⟨_, Hf, S.pad _, ?_⟩
    unfold Run
    cases ev : evS sub cl f.body (svs.map some ++ List.replicate (f.ns - svs.length) none) with
    | none => rw [ev] at h; exact h
    | some r =>
      rw [ev] at h
      cases r with
      | ex x ρ' =>
        change (match (ioOf f.io ρ').map fun os => FOut.ex x os with
          | some (.ret r os) => _
          | some (.ex x os) => _
          | none => False) at h
        cases ho : ioOf f.io ρ' with
        | none => rw [ho] at h; exact h.elim
        | some os =>
          rw [ho] at h
          intro c d σ' Hf' H' p ee
          obtain ⟨gr, T⟩ := end_sim S hf ho p
          exact hW c d σ' H' (h c d Hf' H' gr T ee)
      | ok fl ρ' =>
        cases fl with
        | next =>
          change (match (ioOf f.io ρ').map fun os => FOut.ret (.val .non) os with
            | some (.ret r os) => _
            | some (.ex x os) => _
            | none => False) at h
          cases ho : ioOf f.io ρ' with
          | none => rw [ho] at h; exact h.elim
          | some os =>
            rw [ho] at h
            intro σ' Hf' H' p
            obtain ⟨gr, T⟩ := end_sim S hf ho p
            exact h .non Hf' H' gr T .non
        | brk => exact h.elim
        | cont => exact h.elim
        | ret r =>
          change (match (ioOf f.io ρ').map fun os => FOut.ret r os with
            | some (.ret r os) => _
            | some (.ex x os) => _
            | none => False) at h
          cases ho : ioOf f.io ρ' with
          | none => rw [ho] at h; exact h.elim
          | some os =>
            rw [ho] at h
            intro v σ' Hf' H' p rr
            obtain ⟨gr, T⟩ := end_sim S hf ho p
            refine h v Hf' H' gr T ?_
            cases r with
            | val d => exact rr
            | own o =>
              obtain ⟨a, f1, f2, f3, f4⟩ := rr
              refine ⟨a, f1, f2, f3, ?_⟩
              rcases f4 with z | ⟨i, x, k1, k2⟩
              · exact z
              · have := fit_io hf (pad_some k1)
                cases this
end
end Itp
end
section
set_option Elab.async false
set_option linter.all false
set_option maxRecDepth 100000
set_option maxHeartbeats 4000000
set_option autoImplicit false
/-! The defs of a program. -/
namespace Itp
open PySem PySem.Spec PyProof.Rows L2
open Evl (Ex)
/-- a def as it lies in the written part -/
structure DfIs (n : Nat) (nm : Nms) (K : PySem.W.Frag) (mg : Str → Option Value) (x : Str) (d : FnD) (a : Addr) (name qual : Str) (params : Arguments) (body : List Stmt) (scope : Scope) (dV kV doc pm cdv ct oc : Value) (an od : Option Addr) (osl : Array (Option Value)) (N ps : List Str) : Prop where
  lk : K.lookup a = some ⟨oc, od, .func (PySem.W.fnOf name qual params body scope dV kV doc pm an cdv ct), osl⟩
  cd : PySem.W.codeIn K cdv qual = true
  S : FnScope N ps scope
  mg : mg x = some (.ref a)
  kp : PySem.W.keepIn K (.ref a) = true
  bd : Binds K (PySem.W.fnOf name qual params body scope dV kV doc pm an cdv ct) ps []
  np : ps.length = d.io.length
  ns : d.ns = N.length
  ck : ckSs nm N scope (fun _ => true) d.body body = true
structure PrOk (n : Nat) (nm : Nms) (ec : EC) (sub : Nat → Nat → Bool) (T : Nat → Option FnD) (K : PySem.W.Frag) (mg : Str → Option Value) : Prop where
  n1 : nm.tok = true → 1 ≤ n
  tab : ∀ (f : Nat) (x : Str), nm.fns[f]? = some x → ∃ d, T f = some d ∧ ∃ a name qual params body scope dV kV doc pm cdv ct oc an od osl N ps, DfIs n nm K mg x d a name qual params body scope dV kV doc pm cdv ct oc an od osl N ps
  blt : ∀ x ∈ bltN, mg x = none
  gls : ∀ (i : Nat) (y : Str) (d : D), nm.gs[i]? = some (y, d) → ∃ u v, mg y = some u ∧ RelV v u ∧ (∀ Hf, Rp K Hf v d) ∧ (nm.tok = true → ∀ s, d = .str s → ∃ t, u = .str (txt s) t ∧ t ≠ 0 ∧ t < n)
  exs : ∀ (c : Nat) (x : Str), nm.cs[c]? = some x → ∃ C B newId initId bmB, ExcBaseFacts B newId initId bmB ∧ PySem.W.excIn K C bmB newId = true ∧ mg x = some (.ref C) ∧ PySem.W.keepIn K (.ref C) = true ∧ PySem.W.subIn K (.ref C) (.type "BaseException") = some true ∧ PySem.W.typeIn K (.ref C) = some (.type "type") ∧ ∀ H, ec ⟨c, none⟩ (.ref C) none H
  exm : ∀ (x : Exn) (cls : Value) (d : Option Addr) (H : Hp) (k : Nat) (y : Str) (C : Addr), ec x cls d H → nm.cs[k]? = some y → mg y = some (.ref C) → PySem.W.exmOne K cls (.ref C) = some (sub x.cls k)
section
variable {n : Nat} {nm : Nms} {ec : EC} {sub : Nat → Nat → Bool} {T : Nat → Option FnD} {P : Program} {w : World} {K : PySem.W.Frag} {mg : Str → Option Value}
theorem promise (h : PrOk n nm ec sub T K mg) : ∀ (k f : Nat) (x : Str), nm.fns[f]? = some x → ∃ a fd ps np, (∀ base : Heap, FnT n P w K mg base k a fd ps (spF K ec (run sub T k f) np)) ∧ mg x = some (.ref a) ∧ PySem.W.keepIn K (.ref a) = true ∧ Binds K fd ps [] ∧ (∀ svs, run sub T k f svs ≠ none → svs.length = np) ∧
    (∀ d, T f = some d → np = d.io.length ∧ ps.length = np)
  | 0, f, x, hx => by
    obtain ⟨d, hT, a, name, qual, params, body, scope, dV, kV, doc, pm, cdv, ct, oc, an, od, osl, N, ps, D⟩ := h.tab f x hx
    have no : ∀ vs G Q E, spF K ec (run sub T 0 f) ps.length vs G Q E → False := fun vs G Q E ⟨svs, Hf, _, _, _, z⟩ => z
    refine ⟨a, _, ps, ps.length, fun base => ⟨fun vs G Q E z => (no _ _ _ _ z).elim, fun A outer s G args us vs Q E _ _ _ _ _ z => (no _ _ _ _ z).elim⟩, D.mg, D.kp, D.bd, fun svs z => absurd rfl z, fun d' e => ?_⟩
    rw [hT] at e
    cases e
    exact ⟨D.np, rfl⟩
  | k + 1, f, x, hx => by
    obtain ⟨d, hT, a, name, qual, params, body, scope, dV, kV, doc, pm, cdv, ct, oc, an, od, osl, N, ps, D⟩ := h.tab f x hx
    have hr : ∀ svs, run sub T (k + 1) f svs = callF sub (run sub T k) d svs := fun svs => by
      show (match T f with
        | some d => callF sub (run sub T k) d svs
        | none => none) = _
      rw [hT]
    refine ⟨a, _, ps, ps.length, fun base => fnT_of D.lk D.cd D.S (fun vs G Q E ⟨svs, Hf, z, _⟩ => z) (fun A outer s G vs Q E room sp => ?_), D.mg, D.kp, D.bd, fun svs z => ?_, fun d' e => ?_⟩
    · have sp' : spF K ec (callF sub (run sub T k) d) ps.length vs G Q E := by
        obtain ⟨svs, Hf, z1, z2, z3, z4⟩ := sp
        exact ⟨svs, Hf, z1, z2, z3, by rw [← hr svs]; exact z4⟩
      let X := cxOf (L2.CX P w) P w K mg base N qual scope a cdv A outer s G E
      have g : GdS n nm (run sub T k) ec sub N scope (fun _ => true) X (fun cls d _ H => E cls d H) := {
        n1 := h.n1
        calm := rfl
        hN := rfl
        nd := D.S.nd
        scp := rfl
        fxn := fun _ _ => rfl
        un := by
          have := room.un
          show (A.deeper (envOfC qual scope s.heap.objs.size a cdv)).units + 70 < cLine
          omega
        tk := takes_of rfl rfl rfl rfl
        fns := fun f' x' hx' => by
          obtain ⟨a', fd', ps', np', F, z1, z2, z3, z4, _⟩ := promise h k f' x' hx'
          exact ⟨a', fd', ps', k, np', F base, room, z1, z2, z3, z4⟩
        blt := h.blt
        gls := h.gls
        po := passes_of rfl
        stk := rfl
        frm := rfl
        kd := D.S.kind
        exs := fun c x' hc => by
          obtain ⟨C, B, newId, initId, bmB, F, q, hm, kC, r1, r2, he⟩ := h.exs c x' hc
          exact ⟨C, B, newId, initId, bmB, F, q, hm, kC, raises_own r1 r2, he⟩
        exm := h.exm }
      exact ⟨_, (mainS d.body).2 body X _ g D.ck, body_ok D.ns D.np (fun _ _ _ _ z => z) sp'⟩
    · rw [hr] at z
      unfold callF at z
      by_cases hf : fitA d.io svs = true
      · rw [D.np]; exact fit_len hf
      · rw [if_neg hf] at z; exact absurd rfl z
    · rw [hT] at e
      cases e
      exact ⟨D.np, rfl⟩
end
end Itp
end
section
set_option Elab.async false
set_option linter.all false
set_option maxRecDepth 100000
set_option maxHeartbeats 4000000
/-! A law's head that tells, too, how many tokens are out. -/
namespace Itp
open PySem PySem.W PySem.Calls PyProof.Rows
/-- a law's call, at least n tokens out -/
abbrev WalkOT (n : Nat) (q : Program) (loose : List Str) (XP : (Str → Option Value) → Heap → Prop) (YP : World → Heap → Prop) (r : RowW) (d : DefRec) (kwd : List (Str × PySem.Expr)) (run : Value → List Value → Sem Value) : Prop :=
  ∀ (w : World) (s₀ s₁ : Shared) (mg mb : Str → Option Value), n ≤ s₁.toks → Ground q loose r.records XP w s₀ mg mb s₁.heap → YP w s₁.heap → ∀ (a : Addr) (o : Obj) (pm cd doc dV kV : Value), s₁.heap.get? a = some o →
    o.data = .func { docDef d.name d.params d.body d.scope pm cd doc with defaults := dV, kwdefaults := kV } → s₁.heap.CodeRec cd d.name → Dflts mg s₁.heap d.params kwd dV kV → mg d.name = some (.ref a) → s₁.gens = #[] →
    ∀ (args : List WData) (vals : List Value) (as : List Addr), r.claim.pre args = true → WData.layableAll args = true → ReadsAllW r.records (classAt s₀.heap) s₁.heap vals args as → WellAll w.params s₁.heap vals args → (∀ a ∈ as, (a == sysModules) = false) →
      wpAny (model r.prog w) callerA (run (.ref a) vals) (fun v s' => GoodWG r.claim (classAt s₀.heap) (ExcName.means s₀.heap) args s₁ (.ok (.ret v)) s')
        (fun e s' => GoodWG r.claim (classAt s₀.heap) (ExcName.means s₀.heap) args s₁ (.error e) s') s₁
theorem open_tok (n : Nat) {r : RowW} {run : Value → List Value → Sem Value} {tree : List Value → Sem Fin} {q : Program} {loose defs kps : List Str} {writes : Bool} {Xt : Shared → Bool} {XP : (Str → Option Value) → Heap → Prop} {α : Type} {Yf : Shared → α} {Ya : World → α} {YP : World → Heap → Prop} {N : Nat}
    (left : LeftO r.prog q loose Xt (fun s => (Yf s, Nat.ble n s.toks)) (fun w => (Ya w, true)) N) (hY : ∀ w s, Yf s = Ya w → YP w s.heap) (hYk : ∀ w h h', YP w h → (∀ b o, h.get? b = some o → h'.get? b = some o) → YP w h') (hX : ∀ s, Xt s = true → XP (s.heap.nsMap mainGlobals) s.heap) (hXk : ∀ mg h h', XP mg h → (∀ b o, h.get? b = some o → h'.get? b = some o) → XP mg h')
    (hRf : ∀ s, Xt s = true → RecFacts r.records s.heap) (hwr : (!writes || r.records.isEmpty) = true) (ok : (chainsOk q && opensWell r.prog && (frees r && r.within.isEmpty)) = true) (hb : r.prog.bare) (hw : r.promised)
    (ht : ∀ vs (w : World) (s : Shared) mg f (Q : Fin → Shared → Prop) (E : Value → Shared → Prop), s.heap.Ns mainGlobals mg → mg r.name = some f → wpAny (model r.prog w) callerA (run f vs) (fun v s' => Q (.done (.ret v)) s') E s → wpAny (model r.prog w) callerA (tree vs) Q E s)
    (pin : ∀ w s, s.heap.isNs mainGlobals = true → Ground q loose [] XP w s (s.heap.nsMap mainGlobals) (s.heap.nsMap builtinsNs) s.heap → ∀ n ∈ defs, isTheDefsW r.prog s.heap n)
    (call : ∀ (w : World) (s₀ s₁ : Shared) (mg mb : Str → Option Value), n ≤ s₁.toks → Ground q loose r.records XP w s₀ mg mb s₁.heap → YP w s₁.heap → ∀ (args : List WData) (vs : List Value) (as : List Addr),
      r.claim.pre args = true → WData.layableAll args = true → Laid r.records w s₀ s₁ args vs as → sysModules < s₀.heap.objs.size → ∃ f, mg r.name = some f ∧
        wpAny (model r.prog w) callerA (run f vs) (fun v s' => GoodWG r.claim (classAt s₀.heap) (ExcName.means s₀.heap) args s₁ (.ok (.ret v)) s')
          (fun e s' => GoodWG r.claim (classAt s₀.heap) (ExcName.means s₀.heap) args s₁ (.error e) s') s₁) : r.claim.HoldsOpenBy (fun vs => ⟨tree vs, .builtin "claim.caller" {}, default, []⟩) defs kps writes := by
  obtain ⟨ok0, kf⟩ := Bool.and_eq_true_iff.mp ok
  obtain ⟨hch, o1⟩ := Bool.and_eq_true_iff.mp ok0
  obtain ⟨kf5, kf6⟩ := Bool.and_eq_true_iff.mp kf
  obtain ⟨hsame, hu, ha, hap, hm⟩ := frees_parts kf5
  have beh := fun w => left.behind (XP := fun mg h => XP mg h ∧ RecFacts r.records h) (fun s hs => ⟨hX s hs, hRf s hs⟩) hch w
  refine ⟨⟨hb, o1, by show r.makers.map _ = []; rw [hm]; rfl⟩, hw.witness, fun w => ⟨(beh w).1, fun s' hs' => ?_⟩⟩
  obtain ⟨t0, hf, hg0, s, hT, hz, hgen, hg, GG, yy⟩ := (beh w).2 s' hs'
  have y1 : Yf s = Ya w := congrArg Prod.fst yy
  have y2 : n ≤ s.toks := Nat.le_of_ble_eq_true (congrArg Prod.snd yy)
  have G0 : Ground q loose [] XP w s (s.heap.nsMap mainGlobals) (s.heap.nsMap builtinsNs) s.heap :=
    { T := GG.T, B := GG.B, D := GG.D, TE := GG.TE, TD := GG.TD, W := GG.W, X := GG.X.1, cls := GG.cls, has := GG.has, apart := GG.apart, once := GG.once, K := GG.K }
  have RF := GG.X.2
  have hT' := hT
  refine ⟨t0, hf, hg0, s, hT, pin w s hg G0, RF.1, RF.2.1, ?_⟩
  have hgen' : s.gens = #[] := Array.eq_empty_of_size_eq_zero (beq_iff_eq.mp hgen)
  have G : Ground q loose r.records XP w s _ _ s.heap := RF.ground G0
  refine ClaimW.callFrom_of_specG (c := r.claim) hz hgen' fun args hpre hlay ord hord => ?_
  obtain ⟨⟨vs, s1⟩, hlaid⟩ := Option.isSome_iff_exists.mp (layAllW_isSome (P := w.params) (ord := ord) G.has args r.args s (pre_splitW hpre).1)
  have kp := layAllW_keeps _ _ _ hlaid
  have rest := layAllW_rest _ _ _ hlaid
  have tk : n ≤ s1.toks := Nat.le_trans y2 (layAllW_grows _ _ _ hlaid).toks
  obtain ⟨as, hrd, hin, hold⟩ := reads_layAllW hord _ _ _ hlaid hlay s1.heap (fun _ _ e => e)
  have L : Laid r.records w s s1 args vs as := ⟨⟨ord, hord, hlaid⟩, hrd, hin, hold, kp, rest.1.trans hgen', rest.2.2.1⟩
  have G1 := G.keeps hXk kp
  obtain ⟨f, hf, h⟩ := call w s s1 _ _ tk G1 (hYk _ _ _ (hY w s y1) kp) args vs as hpre hlay L G.low
  have hi := ident_freeW hu ha hap
  have hwi : r.claim.within = [] := List.isEmpty_iff.mp kf6
  refine ⟨vs, s1, hlaid, ht vs w s1 _ f _ _ G1.T.g hf (wpAny_mono h (fun v s' g => ?_) fun e s' g => ?_)⟩
  · have z := g.laid (c := r.claim) hsame hwi hi L
    exact ⟨_, rfl, ⟨z.1, z.2.1, z.2.2, fun q => ⟨namesKept_of hT' hg kps kp g.2.1.old, noTable hwr q⟩⟩⟩
  · have z := g.laid (c := r.claim) hsame hwi hi L
    exact ⟨z.1, z.2.1, z.2.2, fun q => ⟨namesKept_of hT' hg kps kp g.2.1.old, noTable hwr q⟩⟩
/-- how many tokens the head is to tell -/
def tokN : Nat := 260
theorem holds_tok {r : OpenRow} {q : Program} {loose : List Str} {Xt : Shared → Bool} {XP : (Str → Option Value) → Heap → Prop} {α : Type} {Yf : Shared → α} {Ya : World → α} {YP : World → Heap → Prop} {d : DefRec} {kwd : List (Str × PySem.Expr)} {N : Nat}
    (left : LeftO r.prog q loose Xt (fun s => (Yf s, Nat.ble tokN s.toks)) (fun w => (Ya w, true)) N) (hY : ∀ w s, Yf s = Ya w → YP w s.heap) (hYk : ∀ w h h', YP w h → (∀ b o, h.get? b = some o → h'.get? b = some o) → YP w h')
    (hX : ∀ s, Xt s = true → XP (s.heap.nsMap mainGlobals) s.heap) (hXk : ∀ mg h h', XP mg h → (∀ b o, h.get? b = some o → h'.get? b = some o) → XP mg h')
    (hdef : defOf q r.name = some (d, kwd)) (hp : r.prog.theDef r.name = some (d.params, d.body, d.scope)) (hk : kwWritten? d.params.kwonlyargs d.params.kw_defaults = some kwd) (hRf : ∀ s, Xt s = true → RecFacts r.records s.heap) (hwr : (!r.writes || r.records.isEmpty) = true)
    (k1 : r.wellSaid = true) (ok : (chainsOk q && opensWell r.prog && (frees r.toRowW && r.within.isEmpty)) = true) (hb : r.prog.bare) (hw : r.toRowW.promised)
    (call : WalkOT tokN q loose XP YP r.toRowW d kwd fun f vs => PySem.call f vs) : r.Holds := by
  refine ⟨k1, hw, open_tok tokN (r := r.toRowW) (run := fun f vs => PySem.call f vs) (tree := fun vs => do match ← nsGet mainNs r.name with
      | some f => do ret (← PySem.call f vs)
      | none => unsupported "claim.caller:no-such-global") left hY hYk hX hXk hRf hwr ok hb hw
    (fun vs w s mg f Q E hg hf h => wpAny_bind (wpAny_nsGet hg (by rw [hf]; exact wpAny_bind (wpAny_mono h (fun _ _ x => wpAny_pure x) fun _ _ x => x))))
    (fun w s hg G m hm => ?_) fun w s0 s1 mg mb tk G Y args vs as hpre hlay L low => ?_⟩
  · obtain rfl : m = r.name := by split at hm <;> simp_all
    exact pinned_of_view hg G hdef hp hk
  · obtain ⟨a, o, pm, cd, doc, dV, kV, h1, h2, h3, h4, h5⟩ := G.fn hdef
    exact ⟨.ref a, h1, call w s0 s1 mg mb tk G Y a o pm cd doc dV kV h2 h3 h4 h5 (defOf_name hdef ▸ h1) L.gens args vs as hpre hlay L.reads L.well (L.low low)⟩
open HeadRun in
/-- the head's run, with its tokens -/
theorem left_tok {p q : Program} {loose : List PySem.Str} {Xt : Shared → Bool} {K : Params → Frag} {as : List Addr} {ek : ∀ P, as = (K P).map (·.1)} {N M : Nat}
    (e : opening p = plainProg p.main.scope.names) (hN : Nat.ble 600 N = true) (f : ∀ s, fenceModules? p s = some s) (le : Nat.ble M N = true)
    (run : ∀ (w : World) (os : OsState), (HeadRun.endF (stepQ (denQ tabQ) p w) M p w os).map (fun s => (looksF p (boot_heap w.params) s.abs, seenQ q loose (importedModules p.main.body) Xt s.abs, as.map (getT s), Nat.ble tokN s.toks)) = some (true, openGood q loose, (K w.params).map (fun x => some x.2), true)) :
    LeftO p q loose Xt (fun s => (Hook.obs (kHook K as ek) s, Nat.ble tokN s.toks)) (fun w => (Hook.val (kHook K as ek) w, true)) N true :=
  left_one (M := M) e hN f le fun w os => by
    have z := run w os
    have eo : (fun s : SharedT => (looksF p (boot_heap w.params) s.abs, seenQ q loose (importedModules p.main.body) Xt s.abs, as.map (getT s), Nat.ble tokN s.toks)) = fun s => (looksF p (boot_heap w.params) s.abs, seenQ q loose (importedModules p.main.body) Xt s.abs, Hook.obs (kHook K as ek) s.abs, Nat.ble tokN s.abs.toks) := by
      funext s
      have q1 : as.map (getT s) = Hook.obs (kHook K as ek) s.abs := List.map_congr_left fun a _ => getT_eq s a
      rw [q1]
      rfl
    rw [eo] at z
    simp only [endQ_eq, seenQ_eq]
    exact z
end Itp
end
section
set_option Elab.async false
set_option linter.all false
set_option maxRecDepth 100000
set_option maxHeartbeats 4000000
/-! From a def's promise with tokens to a law's call. -/
namespace Itp
open PySem PySem.Spec PyProof.Rows L2
section
variable {P : Program} {w : World} {K : PySem.W.Frag} {mg mb : Str → Option Value} {k n : Nat} {fa a : Addr} {fd : FuncData} {ps : List Str} {sp : Sp} {s₁ : Shared} {vs : List Value} {ns : List Int}
/-- from an abstract heap in which the script alone may be tracked -/
theorem call_core (KX : K.In s₁.heap) (hns : s₁.heap.Ns mainGlobals mg) (hb : s₁.heap.Ns builtinsNs mb) (hbb : ∀ x : Str, x ≠ "__name__" → mb x = bootBuiltins x) (hlim : s₁.heap.NoLimit) (hg : s₁.gens = #[])
    (ha : s₁.heap.get? a = some { cls := .type "list", data := .seq vs.toArray }) (hr : Room k callerA) (hn : n ≤ s₁.toks)
    (F : ∀ base : Heap, K.In base → base.Ns mainGlobals mg → FnT n P w K mg base k fa fd ps sp) (hbind : ∀ (s : Shared) (u : Value), K.In s.heap → BindsTo s fd ⟨[u], []⟩ (ps.zip [u])) (G : Hp) (hO : L2.Only G)
    (hsp : sp [.ref a] G (fun v _ => v = .bl true) fun _ _ _ => False) (hok : HOk P w G s₁.heap) (hA : ∀ b, G b ≠ none → b = a) (hK : G a ≠ none → K.lookup a = none) :
    codeAny (model P w) callerA (.call (.ref fa) ⟨[.ref a], []⟩) (fun r s' => r = .ok (.ret (.bool true)) ∧ OldK s₁.heap s'.heap ∧ s'.os = s₁.os ∧ AllBare s'.gens) s₁ := by
  have free : ∀ {b : Addr} {o : Obj} {es : Array DictEntry} {ep : Nat}, s₁.heap.get? b = some o → o.data = .dict es ep → G b = none := fun {b o es ep} e d => by
    cases q : G b with
    | none => rfl
    | some u =>
      have eb : b = a := hA b (by rw [q]; simp)
      subst eb
      rw [ha] at e
      cases e
      cases (show Data.seq vs.toArray _ = Data.dict es ep from d)
  have names : ∀ {b : Addr} {m : Str → Option Value}, s₁.heap.Ns b m → (hidT s₁.heap G).Ns b m := fun {b m} ⟨o, es, ep, e, d, r⟩ => ⟨o, es, ep, hidT_get e (free e d), d, r⟩
  have kin : K.In (hidT s₁.heap G) := fun b o e => hidT_get (KX b o e) (by
    cases q : G b with
    | none => rfl
    | some u =>
      have eb : b = a := hA b (by rw [q]; simp)
      subst eb
      rw [hK (by rw [q]; simp)] at e
      cases e)
  have mod : Mod K mg (hidT s₁.heap G) := ⟨kin, names hns, ⟨mb, names hb, hbb⟩, let ⟨mc, h1, h2⟩ := hlim; ⟨mc, names h1, h2⟩⟩
  have e0 : Env0 P w K mg (hidT s₁.heap G) callerA [] s₁ G := ⟨rfl, mod, fun b o e => of_hidT e, Nat.le_of_eq (hidT_size _ _), trivial, fun b hb => (nomatch hb), hok, .of_eq hg⟩
  refine codeAny_mono ((F _ kin (names hns)).run callerA [] s₁ G ⟨[.ref a], []⟩ [.ref a] [.ref a] _ _ hn hr e0 (hbind s₁ (.ref a) KX) (.cons rfl .nil) hsp) fun r s' h => ?_
  cases r with
  | error e =>
    obtain ⟨_, _, _, _, _, _, _, _, _, _, _, _, z⟩ := h
    exact (z : False).elim
  | ok fl =>
    cases fl with
    | ret u =>
      obtain ⟨v, G', os, bare, un, hok', r', q⟩ := h
      have q : v = .bl true := q
      subst q
      obtain rfl : u = Value.bool true := r'
      refine ⟨rfl, OldK.of_keep fun b o e => ?_, os, bare⟩
      cases q : G b with
      | none => exact un.keep b o e q (fun z => nomatch z) (fun z => nomatch z)
      | some u =>
        rcases hO b with z | ⟨ob, xs, z⟩
        · rw [q] at z; cases z
        · have z2 := un.frzs b ob _ z
          obtain ⟨e1, _⟩ := hok b _ z
          obtain ⟨e2, _⟩ := hok' b _ z2
          rw [e] at e1
          cases e1
          exact e2
    | next => exact False.elim h
    | brk => exact False.elim h
    | cont => exact False.elim h
theorem call_law (KX : K.In s₁.heap) (hns : s₁.heap.Ns mainGlobals mg) (hb : s₁.heap.Ns builtinsNs mb) (hbb : ∀ x : Str, x ≠ "__name__" → mb x = bootBuiltins x) (hlim : s₁.heap.NoLimit) (hg : s₁.gens = #[])
    (ha : s₁.heap.get? a = some { cls := .type "list", data := .seq vs.toArray }) (hi : IntsAre vs ns) (hl : ns.length ≤ sizeLine) (hr : Room k callerA) (hn : n ≤ s₁.toks)
    (F : ∀ base : Heap, K.In base → base.Ns mainGlobals mg → FnT n P w K mg base k fa fd ps sp) (hbind : ∀ (s : Shared) (u : Value), K.In s.heap → BindsTo s fd ⟨[u], []⟩ (ps.zip [u]))
    (hsp : ∀ G : Hp, L2.Only G → SqL K G a (ns.map V.int) → sp [.ref a] G (fun v _ => v = .bl true) fun _ _ _ => False) :
    codeAny (model P w) callerA (.call (.ref fa) ⟨[.ref a], []⟩) (fun r s' => r = .ok (.ret (.bool true)) ∧ OldK s₁.heap s'.heap ∧ s'.os = s₁.os ∧ AllBare s'.gens) s₁ := by
  have rv := vals_ints hi
  have len := hi.length
  cases hk : K.lookup a with
  | some o =>
    have e := KX a o hk
    rw [ha] at e
    cases e
    exact call_core KX hns hb hbb hlim hg ha hr hn F hbind (fun _ => none) (fun _ => .inl rfl)
      (hsp _ (fun _ => .inl rfl) (.inr ⟨_, vs.toArray, _, hk, rfl, rfl, rfl, by rw [List.size_toArray, len]; exact hl, by simpa using rv⟩)) (fun b u z => nomatch (show (none : Option HO) = some u from z)) (fun b z => absurd rfl z) fun z => absurd rfl z
  | none =>
    have only : L2.Only (fun b => if b = a then some (.frz { cls := .type "list", data := .seq vs.toArray } (.lst (ns.map V.int))) else none) := fun b => by
      by_cases hb : b = a
      · exact .inr ⟨_, _, if_pos hb⟩
      · exact .inl (if_neg hb)
    refine call_core KX hns hb hbb hlim hg ha hr hn F hbind _ only (hsp _ only (.inl (.inr ⟨{ cls := .type "list", data := .seq vs.toArray }, if_pos rfl⟩))) (fun b u z => ?_) (fun b z => ?_) fun _ => hk
    · by_cases hb : b = a
      · cases (if_pos hb).symm.trans z
        subst hb
        exact ⟨ha, by rw [List.length_map]; exact hl, vs, _, rv, ha⟩
      · cases (if_neg hb).symm.trans z
    · by_cases hb : b = a
      · exact hb
      · exact absurd (if_neg hb) z
end
/-- the goal that the head leaves, from the law's promise -/
theorem walk_tok {l : PySem.W.OpenLaw} {n m k : Nat} {q : Program} {loose : List Str} {XP : (Str → Option Value) → Heap → Prop} {YP : World → Heap → Prop} {d : DefRec} {K : Params → PySem.W.Frag}
    (hm : l.most = some m) (hm2 : m ≤ sizeLine) (hdf : d.params.defaults = []) (hr : Room k callerA) (hY : ∀ (w : World) (h : Heap), YP w h → (K w.params).In h)
    (F : ∀ (w : World) (mg : Str → Option Value) (fa : Addr) (h : Heap), (K w.params).In h → h.Ns mainGlobals mg → mg d.name = some (.ref fa) →
      ∃ (fd : FuncData) (ps : List Str) (sp : Sp), (∀ (s : Shared) (u : Value), (K w.params).In s.heap → BindsTo s fd ⟨[u], []⟩ (ps.zip [u])) ∧
        (∀ (H : Hp) (a : Addr) (ns : List Int), ns.length ≤ m → (∀ z ∈ ns, Builtin.Int.intBits z ≤ 1048576) → L2.Only H → SqL (K w.params) H a (ns.map V.int) → sp [.ref a] H (fun v _ => v = .bl true) fun _ _ _ => False) ∧
        ∀ base : Heap, (K w.params).In base → base.Ns mainGlobals mg → FnT n l.prog w (K w.params) mg base k fa fd ps sp) :
    WalkOT n q loose XP YP l.row.toRowW d [] (fun f vs => PySem.call f vs) := by
  intro w s0 s1 mg mb tk G Y fa o pm cd doc dV kV ho hd hcd hD hmg hg args vals as hpre hlay hrd hwl hlo
  obtain rfl : dV = .none := PySem.W.Dflts.none hD hdf
  obtain rfl : kV = .none := PySem.W.Dflts.noKw hD
  obtain ⟨a, vs, ns, rfl, rfl, hobj, hints, hlen⟩ := Att.script_of hm hpre hwl
  have KX := hY w _ Y
  obtain ⟨fd, ps, sp, hb, hsp, hF⟩ := F w mg fa _ KX G.T.g hmg
  refine PySem.W.enter_call (codeAny_mono (call_law KX G.T.g G.T.b G.T.builtins G.T.nolimit hg hobj hints (Nat.le_trans hlen hm2) hr tk hF hb fun H hO hS => hsp H a ns hlen (Att.script_bits hlay) hO hS) fun r s' hq => ?_)
  obtain ⟨rfl, h2, h3, h4⟩ := hq
  exact ⟨.inl ⟨.bool true, .bool true, [], rfl, fun _ => rfl, .bool true, Att.post_true l _, fun _ => ⟨List.Pairwise.nil, fun _ hm => (nomatch hm)⟩⟩, h2, h3, h4⟩
end Itp
end
section
set_option Elab.async false
set_option linter.all false
set_option maxRecDepth 100000
set_option maxHeartbeats 4000000
set_option autoImplicit false
/-! What a law's own part hangs on. -/
namespace Itp
open PySem PySem.Spec PyProof.Rows L2
/-- the def x of the text's statement st stands as written -/
def DfAt (n : Nat) (nm : Nms) (K : PySem.W.Frag) (mg : Str → Option Value) (x : Str) (d : FnD) : Prop := ∃ a name qual params body scope dV kV doc pm cdv ct oc an od osl N ps, DfIs n nm K mg x d a name qual params body scope dV kV doc pm cdv ct oc an od osl N ps
theorem df_mk {n : Nat} {nm : Nms} {K : PySem.W.Frag} {h : Heap} {mg : Str → Option Value} {x : Str} {d : FnD} {st : Stmt} {N ps : List Str} (X : K.In h) (G : h.Ns mainGlobals mg) {f : Addr} {oc kV dc pm cd ct : Value} {od an : Option Addr} {sl : Array (Option Value)}
    (S : FnScope N ps (defScope st)) (hp : ps.length = d.io.length) (hn : d.ns = N.length) (ck : ckSs nm N (defScope st) (fun _ => true) d.body (defBody st) = true)
    (bd : ∀ us : List Value, us.length = ps.length → bindArgs (PySem.W.fnOf x x (defArgs st) (defBody st) (defScope st) .none kV dc pm an cd ct) ⟨us, []⟩ = pure (ps.zip us))
    (a : PySem.W.nsIn K mainGlobals x = some (some (.ref f))) (l : K.lookup f = some ⟨oc, od, .func (PySem.W.fnOf x x (defArgs st) (defBody st) (defScope st) .none kV dc pm an cd ct), sl⟩) (c : PySem.W.codeIn K cd x = true) (k : PySem.W.keepIn K (.ref f) = true) :
    DfAt n nm K mg x d :=
  ⟨f, x, x, _, _, _, _, _, _, _, _, _, _, _, _, _, N, ps, ⟨l, c, S, PySem.W.mg_of X G a, k, Binds.all bd, hp, hn, ck⟩⟩
theorem exm_mk {K : PySem.W.Frag} {C C' : Addr} {b : Bool} (h1 : PySem.W.subIn K (.ref C) (.type "BaseException") = some true) (h2 : PySem.W.isClsIn K C = true) (h3 : PySem.W.typeIn K (.ref C) = some (.type "type")) (h4 : PySem.W.subIn K (.ref C') (.ref C) = some b) :
    PySem.W.exmOne K (.ref C') (.ref C) = some b := by
  unfold PySem.W.exmOne
  rw [h1, show ((some true : Option Bool) == some true) = true from rfl, if_pos rfl]
  unfold PySem.W.kitCls
  have e2 : ((PySem.W.clsIn K C).isSome && PySem.W.typeIn K (.ref C) == some (.type "type")) = true := by
    have h2' : (PySem.W.clsIn K C).isSome = true := h2
    rw [h2', h3] <;> rfl
  exact (if_pos e2).trans h4
/-- an exception class of the program's own, over ValueError -/
structure ClAt (K : PySem.W.Frag) (mg : Str → Option Value) (x : Str) (C : Addr) : Prop where
  mg : mg x = some (.ref C)
  ex : PySem.W.excIn K C [.type "ValueError", .type "Exception", .type "BaseException", .type "object"] "ValueError.__new__" = true
  kp : PySem.W.keepIn K (.ref C) = true
  bs : PySem.W.subIn K (.ref C) (.type "BaseException") = some true
  ty : PySem.W.typeIn K (.ref C) = some (.type "type")
  cl : PySem.W.isClsIn K C = true
theorem cl_mk {K : PySem.W.Frag} {h : Heap} {mg : Str → Option Value} {x : Str} {C : Addr} (X : K.In h) (G : h.Ns mainGlobals mg) (a : PySem.W.nsIn K mainGlobals x = some (some (.ref C)))
    (e : PySem.W.excIn K C [.type "ValueError", .type "Exception", .type "BaseException", .type "object"] "ValueError.__new__" = true) (k : PySem.W.keepIn K (.ref C) = true) (b : PySem.W.subIn K (.ref C) (.type "BaseException") = some true)
    (t : PySem.W.typeIn K (.ref C) = some (.type "type")) (i : PySem.W.isClsIn K C = true) : ClAt K mg x C := ⟨PySem.W.mg_of X G a, e, k, b, t, i⟩
/-- an exception of the class number c, as it lies -/
def ecOf (nm : Nms) (mg : Str → Option Value) : EC := fun x c d _ => ∃ y C, nm.cs[x.cls]? = some y ∧ mg y = some (.ref C) ∧ c = .ref C ∧ d = none ∧ x.pay = none
/-- a constant of the module -/
def GlAt (n : Nat) (nm : Nms) (K : PySem.W.Frag) (mg : Str → Option Value) (y : Str) (d : D) : Prop := ∃ u v, mg y = some u ∧ RelV v u ∧ (∀ Hf, Rp K Hf v d) ∧ (nm.tok = true → ∀ s, d = .str s → ∃ t, u = .str (txt s) t ∧ t ≠ 0 ∧ t < n)
theorem gl_int {n : Nat} {nm : Nms} {K : PySem.W.Frag} {h : Heap} {mg : Str → Option Value} {y : Str} {i : Int} {t : Nat} (X : K.In h) (G : h.Ns mainGlobals mg) (a : PySem.W.nsIn K mainGlobals y = some (some (.int i t))) : GlAt n nm K mg y (.int i) :=
  ⟨.int i t, .int i, PySem.W.mg_of X G a, ⟨t, rfl⟩, fun _ => .int i, fun _ s e => nomatch e⟩
theorem gl_str {n : Nat} {nm : Nms} {K : PySem.W.Frag} {h : Heap} {mg : Str → Option Value} {y x : Str} {s : List Nat} {t : Nat} (X : K.In h) (G : h.Ns mainGlobals mg) (e : x = txt s) (o : okS s = true) (a : PySem.W.nsIn K mainGlobals y = some (some (.str x t))) (h0 : t ≠ 0) (hn : t < n) : GlAt n nm K mg y (.str s) := by
  subst e
  exact ⟨.str (txt s) t, .str (txt s), PySem.W.mg_of X G a, ⟨t, rfl⟩, fun _ => .str s (okS_ok o), fun _ s' e => by cases e; exact ⟨t, rfl, h0, hn⟩⟩
/-- the law's script, as it is handed in -/
def script (ns : List Int) : SV := .val (.ro (ns.map D.int))
theorem rps_ints {K : PySem.W.Frag} {G : Hp} : ∀ ns : List Int, Rps K G (ns.map V.int) (ns.map D.int)
  | [] => .nil
  | i :: r => .cons (.int i) (rps_ints r)
/-- the law's end -/
theorem law_sp {K : PySem.W.Frag} {ec : EC} {F : List SV → Option FOut} {G : Hp} {a : Addr} {ns : List Int} {E : XK} (hS : SqL K G a (ns.map V.int)) (h : F [script ns] = some (.ret (.val (.bl true)) [])) : spF K ec F 1 [.ref a] G (fun v _ => v = .bl true) E := by
  have S : Sim K ([script ns].map some) (([V.ref a] : List V).map some) G G := by
    refine ⟨rfl, fun _ _ h => h, fun i d e => ?_, fun i io o e => ?_, fun i j io o io' o' b e => ?_⟩
    · cases i with
      | zero => cases e; exact ⟨.ref a, rfl, .ro hS (rps_ints ns)⟩
      | succ i => simp [script] at e
    · cases i with
      | zero => cases e
      | succ i => simp [OwnAt] at e
    · cases i with
      | zero => cases e
      | succ i => simp [OwnAt] at e
  refine ⟨[script ns], G, rfl, rfl, S, ?_⟩
  rw [h]
  exact fun v Hf' G' _ _ r => by
    have r' : Rp K Hf' v (.bl true) := r
    cases r'
    rfl
theorem law_end {n m k f : Nat} {nm : Nms} {ec : EC} {sub : Nat → Nat → Bool} {T : Nat → Option FnD} {P : Program} {w : World} {K : PySem.W.Frag} {mg : Str → Option Value} {x : Str} {fa : Addr} {d : FnD} (hp : PrOk n nm ec sub T K mg) (hf : nm.fns[f]? = some x)
    (ha : mg x = some (.ref fa)) (hT : T f = some d) (hd : d.io.length = 1) (law : ∀ ns : List Int, ns.length ≤ m → (∀ z ∈ ns, Builtin.Int.intBits z ≤ 1048576) → run sub T k f [script ns] = some (.ret (.val (.bl true)) [])) :
    ∃ (fd : FuncData) (ps : List Str) (sp : Sp), (∀ (s : Shared) (u : Value), K.In s.heap → BindsTo s fd ⟨[u], []⟩ (ps.zip [u])) ∧
        (∀ (H : Hp) (a : Addr) (ns : List Int), ns.length ≤ m → (∀ z ∈ ns, Builtin.Int.intBits z ≤ 1048576) → L2.Only H → SqL K H a (ns.map V.int) → sp [.ref a] H (fun v _ => v = .bl true) fun _ _ _ => False) ∧
        ∀ base : Heap, K.In base → base.Ns mainGlobals mg → FnT n P w K mg base k fa fd ps sp := by
  obtain ⟨a, fd, ps, np, F, hm, _, hb, _, h2⟩ := promise (P := P) (w := w) hp k f x hf
  obtain ⟨e1, e2⟩ := h2 d hT
  rw [hd] at e1
  subst e1
  rw [ha] at hm
  cases hm
  refine ⟨fd, ps, _, fun s u hk => ?_, fun H a ns hl hbit _ hS => law_sp hS (law ns hl hbit), fun base _ _ => F base⟩
  have := hb s [u] hk (by rw [List.append_nil]; exact e2.symm)
  rwa [List.append_nil] at this
theorem step {A B : Prop} (a : A) (f : A → B) : B := f a
theorem sub_mk {K : PySem.W.Frag} {h : Heap} {mg : Str → Option Value} {x y : Str} {C C' : Addr} {b : Bool} (X : K.In h) (k0 : ClAt K mg x C) (k1 : ClAt K mg y C') (e : PySem.W.subIn K (.ref C) (.ref C') = some b) : PySem.W.subIn K (.ref C) (.ref C') = some b := e
theorem nb_mk {K : PySem.W.Frag} {h : Heap} (X : K.In h) (n0 : PySem.W.nsIn K mainGlobals "len" = some none) (n1 : PySem.W.nsIn K mainGlobals "list" = some none) (n2 : PySem.W.nsIn K mainGlobals "tuple" = some none) (n3 : PySem.W.nsIn K mainGlobals "all" = some none)
    (n4 : PySem.W.nsIn K mainGlobals "any" = some none) (n5 : PySem.W.nsIn K mainGlobals "sum" = some none) (n6 : PySem.W.nsIn K mainGlobals "max" = some none) (n7 : PySem.W.nsIn K mainGlobals "min" = some none) (n8 : PySem.W.nsIn K mainGlobals "int" = some none)
    (n9 : PySem.W.nsIn K mainGlobals "isinstance" = some none) (n10 : PySem.W.nsIn K mainGlobals "range" = some none) (n11 : PySem.W.nsIn K mainGlobals "str" = some none) (n12 : PySem.W.nsIn K mainGlobals "bool" = some none) : ∀ x ∈ bltN, PySem.W.nsIn K mainGlobals x = some none := by
  intro x hx
  simp only [bltN, List.mem_cons, List.not_mem_nil, or_false] at hx
  rcases hx with rfl | rfl | rfl | rfl | rfl | rfl | rfl | rfl | rfl | rfl | rfl | rfl | rfl <;> assumption
end Itp
end
section
set_option linter.all false
set_option maxRecDepth 100000
set_option maxHeartbeats 4000000
namespace G
open Itp PySem PySem.Spec PyProof.Rows L2
abbrev topS (i : Nat) : Stmt := PySem.Challenge.pw_asonetypes_k11_what_comes_of_texts.main.body.getD i (.Pass ⟨0, 0, 0, 0⟩)
def i_is_integer : Nat := 0
def i_is_wide : Nat := 1
def i_is_rising : Nat := 2
def i_are_signs : Nat := 3
def i_is_sign : Nat := 4
def i_is_string : Nat := 5
def i_is_move : Nat := 6
def i_is_end : Nat := 7
def i_is_formatter : Nat := 8
def i_is_marked : Nat := 9
def i_need_formatter : Nat := 10
def i_need_text : Nat := 11
def i_made_by : Nat := 12
def i_end_of : Nat := 13
def i_step_of : Nat := 14
def i_format_of : Nat := 15
def i_formatted : Nat := 16
def i_formatted_at : Nat := 17
def i__law_source : Nat := 18
def i__law_pick : Nat := 19
def i__law_chosen : Nat := 20
def i__law_output : Nat := 21
def i__law_drawn : Nat := 22
def i__law_known : Nat := 23
def i__law_formatter : Nat := 24
def i__law_text : Nat := 25
def i__law_move : Nat := 26
def i__law_end : Nat := 27
def i__law_form : Nat := 28
def i__law_outcome_v2 : Nat := 29
def i_law_v2 : Nat := 30
def g_SIGNS : Nat := 0
def z_SIGNS : List Nat := [97, 98, 99, 100, 101, 102, 103, 104, 105, 106, 107, 108, 109, 110, 111, 112, 113, 114, 115, 116, 117, 118, 119, 120, 121, 122, 48, 49, 50, 51, 52, 53, 54, 55, 56, 57, 45, 46, 47, 58, 44]
def g_MARK : Nat := 1
def g_MOST_SIGNS : Nat := 2
def g_MOST_STATE : Nat := 3
def g_MOST_OUTPUT : Nat := 4
def g_MOST_MOVES : Nat := 5
def e_FieldError : Nat := 0
def e_InvalidFormatter : Nat := 1
def e_InvalidText : Nat := 2
def e_InvalidMarked : Nat := 3
def nms : Nms := ⟨["is_integer", "is_wide", "is_rising", "are_signs", "is_sign", "is_string", "is_move", "is_end", "is_formatter", "is_marked", "need_formatter", "need_text", "made_by", "end_of", "step_of", "format_of", "formatted", "formatted_at", "_law_source", "_law_pick", "_law_chosen", "_law_output", "_law_drawn", "_law_known", "_law_formatter", "_law_text", "_law_move", "_law_end", "_law_form", "_law_outcome", "law"], [("SIGNS", (.str z_SIGNS)), ("MARK", (.str [124])), ("MOST_SIGNS", (.int 3)), ("MOST_STATE", (.int 3)), ("MOST_OUTPUT", (.int 3)), ("MOST_MOVES", (.int 12))], ["FieldError", "InvalidFormatter", "InvalidText", "InvalidMarked"], true⟩
/-- is_integer: 0 value 1 low 2 high -/
def b_is_integer : Itp.St := (.seq (.ret (.and (.isi .int (.v 0)) (.and (.nt (.isi .bool (.v 0))) (.chn .le .le (.v 1) (.v 0) (.v 2))))) .nop)
def d_is_integer : FnD := ⟨3, 3, [false, false, false], b_is_integer⟩
abbrev n_is_integer : List Str := ["value", "low", "high"]
abbrev s_is_integer : Stmt := topS 12
theorem c_is_integer : ckSs nms n_is_integer (defScope s_is_integer) (fun _ => true) b_is_integer (defBody s_is_integer) = true := by decide +kernel
theorem fs_is_integer : FnScope n_is_integer ["value", "low", "high"] (defScope s_is_integer) := ⟨rfl, rfl, rfl, by decide +kernel, rfl, by decide +kernel, by decide +kernel⟩
/-- is_wide: 0 value 1 low 2 high -/
def b_is_wide : Itp.St := (.seq (.ret (.and (.isi .tuple (.v 0)) (.chn .le .le (.v 1) (.bi .len (.acons (.v 0) .anil)) (.v 2)))) .nop)
def d_is_wide : FnD := ⟨3, 3, [false, false, false], b_is_wide⟩
abbrev n_is_wide : List Str := ["value", "low", "high"]
abbrev s_is_wide : Stmt := topS 13
theorem c_is_wide : ckSs nms n_is_wide (defScope s_is_wide) (fun _ => true) b_is_wide (defBody s_is_wide) = true := by decide +kernel
theorem fs_is_wide : FnScope n_is_wide ["value", "low", "high"] (defScope s_is_wide) := ⟨rfl, rfl, rfl, by decide +kernel, rfl, by decide +kernel, by decide +kernel⟩
/-- is_rising: 0 items 1 at -/
def q_is_rising_1 : Xp := (.lc (.cmp .lt (.ix (.v 0) (.v 1)) (.ix (.v 0) (.bin .add (.v 1) (.k (.int 1))))) (.nm 1) .rng1 (.bin .sub (.bi .len (.acons (.v 0) .anil)) (.k (.int 1))) .anil (.k (.bl true)) [1])
def b_is_rising : Itp.St := (.seq (.ret (.bi .all (.acons q_is_rising_1 .anil))) .nop)
def d_is_rising : FnD := ⟨1, 2, [false], b_is_rising⟩
abbrev n_is_rising : List Str := ["items", "at"]
abbrev s_is_rising : Stmt := topS 14
theorem c_is_rising : ckSs nms n_is_rising (defScope s_is_rising) (fun _ => true) b_is_rising (defBody s_is_rising) = true := by decide +kernel
theorem fs_is_rising : FnScope n_is_rising ["items"] (defScope s_is_rising) := ⟨rfl, rfl, rfl, by decide +kernel, rfl, by decide +kernel, by decide +kernel⟩
/-- are_signs: 0 value 1 sign -/
def q_are_signs_1 : Xp := (.lc (.cmp .mem (.v 1) (.g g_SIGNS (.str z_SIGNS))) (.nm 1) .over (.v 0) .anil (.k (.bl true)) [1])
def b_are_signs : Itp.St := (.seq (.ite (.or (.nt (.isi .str (.v 0))) (.nt (.chn .le .le (.k (.int 1)) (.bi .len (.acons (.v 0) .anil)) (.g g_MOST_SIGNS (.int 3))))) (.seq (.ret (.k (.bl false))) .nop) .nop) (.seq (.ret (.and (.bi .all (.acons q_are_signs_1 .anil)) (.call i_is_rising (.acons (.bi .list (.acons (.v 0) .anil)) .anil)))) .nop))
def d_are_signs : FnD := ⟨1, 2, [false], b_are_signs⟩
abbrev n_are_signs : List Str := ["value", "sign"]
abbrev s_are_signs : Stmt := topS 15
theorem c_are_signs : ckSs nms n_are_signs (defScope s_are_signs) (fun _ => true) b_are_signs (defBody s_are_signs) = true := by decide +kernel
theorem fs_are_signs : FnScope n_are_signs ["value"] (defScope s_are_signs) := ⟨rfl, rfl, rfl, by decide +kernel, rfl, by decide +kernel, by decide +kernel⟩
/-- is_sign: 0 signs 1 value -/
def b_is_sign : Itp.St := (.seq (.ret (.and (.isi .str (.v 1)) (.and (.cmp .eq (.bi .len (.acons (.v 1) .anil)) (.k (.int 1))) (.cmp .mem (.v 1) (.v 0))))) .nop)
def d_is_sign : FnD := ⟨2, 2, [false, false], b_is_sign⟩
abbrev n_is_sign : List Str := ["signs", "value"]
abbrev s_is_sign : Stmt := topS 16
theorem c_is_sign : ckSs nms n_is_sign (defScope s_is_sign) (fun _ => true) b_is_sign (defBody s_is_sign) = true := by decide +kernel
theorem fs_is_sign : FnScope n_is_sign ["signs", "value"] (defScope s_is_sign) := ⟨rfl, rfl, rfl, by decide +kernel, rfl, by decide +kernel, by decide +kernel⟩
/-- is_string: 0 signs 1 value 2 low 3 high 4 sign -/
def q_is_string_1 : Xp := (.lc (.cmp .mem (.v 4) (.v 0)) (.nm 4) .over (.v 1) .anil (.k (.bl true)) [4])
def b_is_string : Itp.St := (.seq (.ite (.or (.nt (.isi .str (.v 1))) (.and (.cmp .isNot (.v 3) (.k .non)) (.nt (.chn .le .le (.v 2) (.bi .len (.acons (.v 1) .anil)) (.v 3))))) (.seq (.ret (.k (.bl false))) .nop) .nop) (.seq (.ret (.bi .all (.acons q_is_string_1 .anil))) .nop))
def d_is_string : FnD := ⟨4, 5, [false, false, false, false], b_is_string⟩
abbrev n_is_string : List Str := ["signs", "value", "low", "high", "sign"]
abbrev s_is_string : Stmt := topS 17
theorem c_is_string : ckSs nms n_is_string (defScope s_is_string) (fun _ => true) b_is_string (defBody s_is_string) = true := by decide +kernel
theorem fs_is_string : FnScope n_is_string ["signs", "value", "low", "high"] (defScope s_is_string) := ⟨rfl, rfl, rfl, by decide +kernel, rfl, by decide +kernel, by decide +kernel⟩
/-- is_move: 0 signs 1 value -/
def b_is_move : Itp.St := (.seq (.ite (.or (.nt (.call i_is_wide (.acons (.v 1) (.acons (.k (.int 4)) (.acons (.k (.int 4)) .anil))))) (.or (.nt (.call i_is_integer (.acons (.ix (.v 1) (.k (.int 0))) (.acons (.k (.int 0)) (.acons (.g g_MOST_STATE (.int 3)) .anil))))) (.nt (.call i_is_sign (.acons (.v 0) (.acons (.ix (.v 1) (.k (.int 1))) .anil)))))) (.seq (.ret (.k (.bl false))) .nop) .nop) (.seq (.ret (.and (.call i_is_integer (.acons (.ix (.v 1) (.k (.int 2))) (.acons (.k (.int 0)) (.acons (.g g_MOST_STATE (.int 3)) .anil)))) (.call i_is_string (.acons (.v 0) (.acons (.ix (.v 1) (.k (.int 3))) (.acons (.k (.int 0)) (.acons (.g g_MOST_OUTPUT (.int 3)) .anil))))))) .nop))
def d_is_move : FnD := ⟨2, 2, [false, false], b_is_move⟩
abbrev n_is_move : List Str := ["signs", "value"]
abbrev s_is_move : Stmt := topS 18
theorem c_is_move : ckSs nms n_is_move (defScope s_is_move) (fun _ => true) b_is_move (defBody s_is_move) = true := by decide +kernel
theorem fs_is_move : FnScope n_is_move ["signs", "value"] (defScope s_is_move) := ⟨rfl, rfl, rfl, by decide +kernel, rfl, by decide +kernel, by decide +kernel⟩
/-- is_end: 0 signs 1 value -/
def b_is_end : Itp.St := (.seq (.ret (.and (.call i_is_wide (.acons (.v 1) (.acons (.k (.int 2)) (.acons (.k (.int 2)) .anil)))) (.and (.call i_is_integer (.acons (.ix (.v 1) (.k (.int 0))) (.acons (.k (.int 0)) (.acons (.g g_MOST_STATE (.int 3)) .anil)))) (.call i_is_string (.acons (.v 0) (.acons (.ix (.v 1) (.k (.int 1))) (.acons (.k (.int 1)) (.acons (.g g_MOST_OUTPUT (.int 3)) .anil)))))))) .nop)
def d_is_end : FnD := ⟨2, 2, [false, false], b_is_end⟩
abbrev n_is_end : List Str := ["signs", "value"]
abbrev s_is_end : Stmt := topS 19
theorem c_is_end : ckSs nms n_is_end (defScope s_is_end) (fun _ => true) b_is_end (defBody s_is_end) = true := by decide +kernel
theorem fs_is_end : FnScope n_is_end ["signs", "value"] (defScope s_is_end) := ⟨rfl, rfl, rfl, by decide +kernel, rfl, by decide +kernel, by decide +kernel⟩
/-- is_formatter: 0 value 1 end 2 move -/
def q_is_formatter_1 : Xp := (.lc (.sl (.v 1) .anil (.k (.int 1))) (.nm 1) .over (.ix (.v 0) (.k (.int 2))) .anil (.k (.bl true)) [1])
def q_is_formatter_2 : Xp := (.lc (.call i_is_end (.acons (.ix (.v 0) (.k (.int 0))) (.acons (.v 1) .anil))) (.nm 1) .over (.ix (.v 0) (.k (.int 2))) .anil (.k (.bl true)) [1])
def q_is_formatter_3 : Xp := (.lc (.sl (.v 2) .anil (.k (.int 2))) (.nm 2) .over (.ix (.v 0) (.k (.int 1))) .anil (.k (.bl true)) [2])
def q_is_formatter_4 : Xp := (.lc (.call i_is_move (.acons (.ix (.v 0) (.k (.int 0))) (.acons (.v 2) .anil))) (.nm 2) .over (.ix (.v 0) (.k (.int 1))) .anil (.k (.bl true)) [2])
def b_is_formatter : Itp.St := (.seq (.ite (.or (.nt (.call i_is_wide (.acons (.v 0) (.acons (.k (.int 3)) (.acons (.k (.int 3)) .anil))))) (.nt (.call i_are_signs (.acons (.ix (.v 0) (.k (.int 0))) .anil)))) (.seq (.ret (.k (.bl false))) .nop) .nop) (.seq (.ite (.or (.nt (.call i_is_wide (.acons (.ix (.v 0) (.k (.int 1))) (.acons (.k (.int 0)) (.acons (.g g_MOST_MOVES (.int 12)) .anil))))) (.nt (.call i_is_wide (.acons (.ix (.v 0) (.k (.int 2))) (.acons (.k (.int 0)) (.acons (.bin .add (.g g_MOST_STATE (.int 3)) (.k (.int 1))) .anil)))))) (.seq (.ret (.k (.bl false))) .nop) .nop) (.seq (.ite (.or (.nt (.bi .all (.acons q_is_formatter_4 .anil))) (.nt (.call i_is_rising (.acons q_is_formatter_3 .anil)))) (.seq (.ret (.k (.bl false))) .nop) .nop) (.seq (.ret (.and (.bi .all (.acons q_is_formatter_2 .anil)) (.call i_is_rising (.acons q_is_formatter_1 .anil)))) .nop))))
def d_is_formatter : FnD := ⟨1, 3, [false], b_is_formatter⟩
abbrev n_is_formatter : List Str := ["value", "end", "move"]
abbrev s_is_formatter : Stmt := topS 20
theorem c_is_formatter : ckSs nms n_is_formatter (defScope s_is_formatter) (fun _ => true) b_is_formatter (defBody s_is_formatter) = true := by decide +kernel
theorem fs_is_formatter : FnScope n_is_formatter ["value"] (defScope s_is_formatter) := ⟨rfl, rfl, rfl, by decide +kernel, rfl, by decide +kernel, by decide +kernel⟩
/-- is_marked: 0 formatter 1 value -/
def b_is_marked : Itp.St := (.seq (.ite (.or (.nt (.isi .str (.v 1))) (.cmp .ne (.mt .count (.v 1) (.acons (.g g_MARK (.str [124])) .anil)) (.k (.int 1)))) (.seq (.ret (.k (.bl false))) .nop) .nop) (.seq (.ret (.call i_is_string (.acons (.ix (.v 0) (.k (.int 0))) (.acons (.repl (.v 1) (.g g_MARK (.str [124])) (.k (.str []))) (.acons (.k (.int 0)) (.acons (.k .non) .anil)))))) .nop))
def d_is_marked : FnD := ⟨2, 2, [false, false], b_is_marked⟩
abbrev n_is_marked : List Str := ["formatter", "value"]
abbrev s_is_marked : Stmt := topS 21
theorem c_is_marked : ckSs nms n_is_marked (defScope s_is_marked) (fun _ => true) b_is_marked (defBody s_is_marked) = true := by decide +kernel
theorem fs_is_marked : FnScope n_is_marked ["formatter", "value"] (defScope s_is_marked) := ⟨rfl, rfl, rfl, by decide +kernel, rfl, by decide +kernel, by decide +kernel⟩
/-- need_formatter: 0 value -/
def b_need_formatter : Itp.St := (.seq (.ite (.nt (.call i_is_formatter (.acons (.v 0) .anil))) (.seq (.raise e_InvalidFormatter) .nop) .nop) .nop)
def d_need_formatter : FnD := ⟨1, 1, [false], b_need_formatter⟩
abbrev n_need_formatter : List Str := ["value"]
abbrev s_need_formatter : Stmt := topS 22
theorem c_need_formatter : ckSs nms n_need_formatter (defScope s_need_formatter) (fun _ => true) b_need_formatter (defBody s_need_formatter) = true := by decide +kernel
theorem fs_need_formatter : FnScope n_need_formatter ["value"] (defScope s_need_formatter) := ⟨rfl, rfl, rfl, by decide +kernel, rfl, by decide +kernel, by decide +kernel⟩
/-- need_text: 0 formatter 1 value -/
def b_need_text : Itp.St := (.seq (.ite (.nt (.call i_is_string (.acons (.ix (.v 0) (.k (.int 0))) (.acons (.v 1) (.acons (.k (.int 0)) (.acons (.k .non) .anil)))))) (.seq (.raise e_InvalidText) .nop) .nop) .nop)
def d_need_text : FnD := ⟨2, 2, [false, false], b_need_text⟩
abbrev n_need_text : List Str := ["formatter", "value"]
abbrev s_need_text : Stmt := topS 23
theorem c_need_text : ckSs nms n_need_text (defScope s_need_text) (fun _ => true) b_need_text (defBody s_need_text) = true := by decide +kernel
theorem fs_need_text : FnScope n_need_text ["formatter", "value"] (defScope s_need_text) := ⟨rfl, rfl, rfl, by decide +kernel, rfl, by decide +kernel, by decide +kernel⟩
/-- made_by: 0 formatter 1 state 2 sign 3 move -/
def l_made_by_1 : Itp.St := (.seq (.ite (.cmp .eq (.sl (.v 3) .anil (.k (.int 2))) (.tup (.acons (.v 1) (.acons (.v 2) .anil)))) (.seq (.ret (.sl (.v 3) (.k (.int 2)) .anil)) .nop) .nop) .nop)
def f_made_by_1 : Itp.St := (.for_ (.nm 3) .over (.ix (.v 0) (.k (.int 1))) .anil l_made_by_1)
def b_made_by : Itp.St := (.seq f_made_by_1 (.seq (.ret (.tup (.acons (.v 1) (.acons (.k (.str [])) .anil)))) .nop))
def d_made_by : FnD := ⟨3, 4, [false, false, false], b_made_by⟩
abbrev n_made_by : List Str := ["formatter", "state", "sign", "move"]
abbrev s_made_by : Stmt := topS 24
theorem c_made_by : ckSs nms n_made_by (defScope s_made_by) (fun _ => true) b_made_by (defBody s_made_by) = true := by decide +kernel
theorem fs_made_by : FnScope n_made_by ["formatter", "state", "sign"] (defScope s_made_by) := ⟨rfl, rfl, rfl, by decide +kernel, rfl, by decide +kernel, by decide +kernel⟩
/-- end_of: 0 formatter 1 state 2 one 3 output -/
def l_end_of_1 : Itp.St := (.seq (.ite (.cmp .eq (.v 2) (.v 1)) (.seq (.ret (.v 3)) .nop) .nop) .nop)
def f_end_of_1 : Itp.St := (.for_ (.tup [2, 3]) .over (.ix (.v 0) (.k (.int 2))) .anil l_end_of_1)
def b_end_of : Itp.St := (.seq f_end_of_1 (.seq (.ret (.k (.str []))) .nop))
def d_end_of : FnD := ⟨2, 4, [false, false], b_end_of⟩
abbrev n_end_of : List Str := ["formatter", "state", "one", "output"]
abbrev s_end_of : Stmt := topS 25
theorem c_end_of : ckSs nms n_end_of (defScope s_end_of) (fun _ => true) b_end_of (defBody s_end_of) = true := by decide +kernel
theorem fs_end_of : FnScope n_end_of ["formatter", "state"] (defScope s_end_of) := ⟨rfl, rfl, rfl, by decide +kernel, rfl, by decide +kernel, by decide +kernel⟩
/-- step_of: 0 formatter 1 state 2 sign -/
def b_step_of : Itp.St := (.seq (.ret (.ife (.cmp .eq (.v 2) (.g g_MARK (.str [124]))) (.tup (.acons (.v 1) (.acons (.g g_MARK (.str [124])) .anil))) (.call i_made_by (.acons (.v 0) (.acons (.v 1) (.acons (.v 2) .anil)))))) .nop)
def d_step_of : FnD := ⟨3, 3, [false, false, false], b_step_of⟩
abbrev n_step_of : List Str := ["formatter", "state", "sign"]
abbrev s_step_of : Stmt := topS 26
theorem c_step_of : ckSs nms n_step_of (defScope s_step_of) (fun _ => true) b_step_of (defBody s_step_of) = true := by decide +kernel
theorem fs_step_of : FnScope n_step_of ["formatter", "state", "sign"] (defScope s_step_of) := ⟨rfl, rfl, rfl, by decide +kernel, rfl, by decide +kernel, by decide +kernel⟩
/-- format_of: 0 formatter 1 text 2 sign 3 state 4 found 5 output -/
def l_format_of_1 : Itp.St := (.seq (.asgT (.tup [3, 5]) (.call i_step_of (.acons (.v 0) (.acons (.v 3) (.acons (.v 2) .anil))))) (.seq (.asg 4 true (.bin .add (.v 4) (.v 5))) .nop))
def f_format_of_1 : Itp.St := (.for_ (.nm 2) .over (.v 1) .anil l_format_of_1)
def b_format_of : Itp.St := (.seq (.asgT (.tup [3, 4]) (.tup (.acons (.k (.int 0)) (.acons (.k (.str [])) .anil)))) (.seq f_format_of_1 (.seq (.ret (.bin .add (.v 4) (.call i_end_of (.acons (.v 0) (.acons (.v 3) .anil))))) .nop)))
def d_format_of : FnD := ⟨2, 6, [false, false], b_format_of⟩
abbrev n_format_of : List Str := ["formatter", "text", "sign", "state", "found", "output"]
abbrev s_format_of : Stmt := topS 27
theorem c_format_of : ckSs nms n_format_of (defScope s_format_of) (fun _ => true) b_format_of (defBody s_format_of) = true := by decide +kernel
theorem fs_format_of : FnScope n_format_of ["formatter", "text"] (defScope s_format_of) := ⟨rfl, rfl, rfl, by decide +kernel, rfl, by decide +kernel, by decide +kernel⟩
/-- formatted: 0 formatter 1 text -/
def b_formatted : Itp.St := (.seq (.expr (.call i_need_formatter (.acons (.v 0) .anil))) (.seq (.expr (.call i_need_text (.acons (.v 0) (.acons (.v 1) .anil)))) (.seq (.ret (.call i_format_of (.acons (.v 0) (.acons (.v 1) .anil)))) .nop)))
def d_formatted : FnD := ⟨2, 2, [false, false], b_formatted⟩
abbrev n_formatted : List Str := ["formatter", "text"]
abbrev s_formatted : Stmt := topS 28
theorem c_formatted : ckSs nms n_formatted (defScope s_formatted) (fun _ => true) b_formatted (defBody s_formatted) = true := by decide +kernel
theorem fs_formatted : FnScope n_formatted ["formatter", "text"] (defScope s_formatted) := ⟨rfl, rfl, rfl, by decide +kernel, rfl, by decide +kernel, by decide +kernel⟩
/-- formatted_at: 0 formatter 1 marked -/
def b_formatted_at : Itp.St := (.seq (.expr (.call i_need_formatter (.acons (.v 0) .anil))) (.seq (.ite (.nt (.call i_is_marked (.acons (.v 0) (.acons (.v 1) .anil)))) (.seq (.raise e_InvalidMarked) .nop) .nop) (.seq (.ret (.call i_format_of (.acons (.v 0) (.acons (.v 1) .anil)))) .nop)))
def d_formatted_at : FnD := ⟨2, 2, [false, false], b_formatted_at⟩
abbrev n_formatted_at : List Str := ["formatter", "marked"]
abbrev s_formatted_at : Stmt := topS 29
theorem c_formatted_at : ckSs nms n_formatted_at (defScope s_formatted_at) (fun _ => true) b_formatted_at (defBody s_formatted_at) = true := by decide +kernel
theorem fs_formatted_at : FnScope n_formatted_at ["formatter", "marked"] (defScope s_formatted_at) := ⟨rfl, rfl, rfl, by decide +kernel, rfl, by decide +kernel, by decide +kernel⟩
/-- _law_source: 0 script 1 k 2 cell 3 primes 4 seed -/
def b__law_source : Itp.St := (.seq (.asg 2 true (.k (.int 0))) (.seq (.ite (.cmp .lt (.v 1) (.bi .len (.acons (.v 0) .anil))) (.seq (.asg 2 true (.ix (.v 0) (.v 1))) .nop) .nop) (.seq (.asg 3 true (.lst (.acons (.k (.int 2147483647)) (.acons (.k (.int 2147483629)) (.acons (.k (.int 2147483587)) (.acons (.k (.int 2147483579)) (.acons (.k (.int 2147483563)) (.acons (.k (.int 2147483549)) (.acons (.k (.int 2147483543)) (.acons (.k (.int 2147483497)) .anil)))))))))) (.seq (.asg 4 true (.bin .mod (.bi .int (.acons (.bin .mul (.bin .add (.bin .mod (.bi .int (.acons (.v 2) .anil)) (.k (.int 2147483489))) (.k (.int 1))) (.bin .add (.k (.int 48271)) (.bin .mul (.k (.int 2)) (.v 1)))) .anil)) (.k (.int 2147483489)))) (.seq (.asg 4 true (.bin .add (.bin .add (.bin .mod (.bi .int (.acons (.bin .mul (.v 4) (.v 4)) .anil)) (.k (.int 2147483477))) (.v 1)) (.k (.int 1)))) (.seq (.ite (.cmp .ge (.v 2) (.bin .pow (.k (.int 10)) (.k (.int 18)))) (.seq (.ret (.lst (.acons (.v 2) (.acons (.v 4) (.acons (.ix (.v 3) (.bin .mod (.bi .int (.acons (.v 1) .anil)) (.k (.int 8)))) (.acons (.k (.int 0)) .anil)))))) .nop) .nop) (.seq (.ret (.lst (.acons (.k (.int 0)) (.acons (.v 4) (.acons (.ix (.v 3) (.bin .mod (.bi .int (.acons (.v 1) .anil)) (.k (.int 8)))) (.acons (.k (.int 0)) .anil)))))) .nop)))))))
def d__law_source : FnD := ⟨2, 5, [false, false], b__law_source⟩
abbrev n__law_source : List Str := ["script", "k", "cell", "primes", "seed"]
abbrev s__law_source : Stmt := topS 31
theorem c__law_source : ckSs nms n__law_source (defScope s__law_source) (fun _ => true) b__law_source (defBody s__law_source) = true := by decide +kernel
theorem fs__law_source : FnScope n__law_source ["script", "k"] (defScope s__law_source) := ⟨rfl, rfl, rfl, by decide +kernel, rfl, by decide +kernel, by decide +kernel⟩
/-- _law_pick: 0 source 1 limit 2 drawn -/
def b__law_pick : Itp.St := (.seq (.ite (.cmp .gt (.ix (.v 0) (.k (.int 0))) (.k (.int 0))) (.seq (.asg 2 true (.bin .mod (.bi .int (.acons (.ix (.v 0) (.k (.int 0))) .anil)) (.v 1))) (.seq (.setix 0 (.k (.int 0)) (.bin .fdiv (.ix (.v 0) (.k (.int 0))) (.v 1))) (.seq (.ret (.v 2)) .nop))) .nop) (.seq (.setix 0 (.k (.int 3)) (.bin .add (.ix (.v 0) (.k (.int 3))) (.k (.int 1)))) (.seq (.setix 0 (.k (.int 1)) (.bin .mod (.bi .int (.acons (.bin .add (.bin .mul (.ix (.v 0) (.k (.int 1))) (.k (.int 48271))) (.bin .mul (.k (.int 7919)) (.ix (.v 0) (.k (.int 3))))) .anil)) (.ix (.v 0) (.k (.int 2))))) (.seq (.ret (.bin .mod (.bi .int (.acons (.bin .fdiv (.bin .mod (.bi .int (.acons (.bin .add (.bin .mul (.ix (.v 0) (.k (.int 1))) (.ix (.v 0) (.k (.int 1)))) (.ix (.v 0) (.k (.int 3)))) .anil)) (.k (.int 2147483423))) (.k (.int 7))) .anil)) (.v 1))) .nop))))
def d__law_pick : FnD := ⟨2, 3, [true, false], b__law_pick⟩
abbrev n__law_pick : List Str := ["source", "limit", "drawn"]
abbrev s__law_pick : Stmt := topS 32
theorem c__law_pick : ckSs nms n__law_pick (defScope s__law_pick) (fun _ => true) b__law_pick (defBody s__law_pick) = true := by decide +kernel
theorem fs__law_pick : FnScope n__law_pick ["source", "limit"] (defScope s__law_pick) := ⟨rfl, rfl, rfl, by decide +kernel, rfl, by decide +kernel, by decide +kernel⟩
/-- _law_chosen: 0 source 1 some -/
def b__law_chosen : Itp.St := (.seq (.ret (.ix (.v 1) (.call i__law_pick (.acons (.v 0) (.acons (.bi .len (.acons (.v 1) .anil)) .anil))))) .nop)
def d__law_chosen : FnD := ⟨2, 2, [true, false], b__law_chosen⟩
abbrev n__law_chosen : List Str := ["source", "some"]
abbrev s__law_chosen : Stmt := topS 33
theorem c__law_chosen : ckSs nms n__law_chosen (defScope s__law_chosen) (fun _ => true) b__law_chosen (defBody s__law_chosen) = true := by decide +kernel
theorem fs__law_chosen : FnScope n__law_chosen ["source", "some"] (defScope s__law_chosen) := ⟨rfl, rfl, rfl, by decide +kernel, rfl, by decide +kernel, by decide +kernel⟩
/-- _law_output: 0 source 1 signs 2 sign 3 most 4 kind 5 other 6 turn -/
def q__law_output_1 : Xp := (.lc (.call i__law_chosen (.acons (.v 0) (.acons (.bi .list (.acons (.v 1) .anil)) .anil))) (.nm 6) .rng1 (.call i__law_pick (.acons (.v 0) (.acons (.bin .add (.v 3) (.k (.int 1))) .anil))) .anil (.k (.bl true)) [6])
def b__law_output : Itp.St := (.seq (.par [(4, true), (5, true)] (.acons (.call i__law_pick (.acons (.v 0) (.acons (.k (.int 10)) .anil))) (.acons (.call i__law_chosen (.acons (.v 0) (.acons (.bi .list (.acons (.v 1) .anil)) .anil))) .anil))) (.seq (.ite (.cmp .lt (.v 4) (.k (.int 5))) (.seq (.ret (.v 2)) .nop) .nop) (.seq (.ite (.cmp .lt (.v 4) (.k (.int 7))) (.seq (.ret (.sl (.bin .add (.v 5) (.v 2)) .anil (.v 3))) .nop) .nop) (.seq (.ite (.cmp .eq (.v 4) (.k (.int 7))) (.seq (.ret (.sl (.bin .add (.v 2) (.v 5)) .anil (.v 3))) .nop) .nop) (.seq (.ite (.cmp .eq (.v 4) (.k (.int 8))) (.seq (.ret (.k (.str []))) .nop) .nop) (.seq (.ret (.mt .join (.k (.str [])) (.acons q__law_output_1 .anil))) .nop))))))
def d__law_output : FnD := ⟨4, 7, [true, false, false, false], b__law_output⟩
abbrev n__law_output : List Str := ["source", "signs", "sign", "most", "kind", "other", "turn"]
abbrev s__law_output : Stmt := topS 34
theorem c__law_output : ckSs nms n__law_output (defScope s__law_output) (fun _ => true) b__law_output (defBody s__law_output) = true := by decide +kernel
theorem fs__law_output : FnScope n__law_output ["source", "signs", "sign", "most"] (defScope s__law_output) := ⟨rfl, rfl, rfl, by decide +kernel, rfl, by decide +kernel, by decide +kernel⟩
/-- _law_drawn: 0 source 1 signs 2 states 3 most 4 state 5 wide 6 moves 7 ends 8 sign -/
def l__law_drawn_2 : Itp.St := (.seq (.ite (.cmp .gt (.call i__law_pick (.acons (.v 0) (.acons (.k (.int 5)) .anil))) (.k (.int 0))) (.seq (.expr (.mm .append 6 (.acons (.tup (.acons (.v 4) (.acons (.v 8) (.acons (.call i__law_pick (.acons (.v 0) (.acons (.v 5) .anil))) (.acons (.call i__law_output (.acons (.v 0) (.acons (.v 1) (.acons (.v 8) (.acons (.v 3) .anil))))) .anil))))) .anil))) .nop) .nop) .nop)
def f__law_drawn_2 : Itp.St := (.for_ (.nm 8) .over (.v 1) .anil l__law_drawn_2)
def l__law_drawn_1 : Itp.St := (.seq f__law_drawn_2 (.seq (.ite (.cmp .eq (.call i__law_pick (.acons (.v 0) (.acons (.k (.int 7)) .anil))) (.k (.int 0))) (.seq (.expr (.mm .append 7 (.acons (.tup (.acons (.v 4) (.acons (.call i__law_chosen (.acons (.v 0) (.acons (.bi .list (.acons (.v 1) .anil)) .anil))) .anil))) .anil))) .nop) .nop) .nop))
def f__law_drawn_1 : Itp.St := (.for_ (.nm 4) .rng1 (.v 5) .anil l__law_drawn_1)
def b__law_drawn : Itp.St := (.seq (.par [(5, true), (6, false), (7, false)] (.acons (.bin .add (.k (.int 1)) (.call i__law_pick (.acons (.v 0) (.acons (.v 2) .anil)))) (.acons (.lst .anil) (.acons (.lst .anil) .anil)))) (.seq f__law_drawn_1 (.seq (.ret (.tup (.acons (.v 1) (.acons (.bi .tuple (.acons (.v 6) .anil)) (.acons (.bi .tuple (.acons (.v 7) .anil)) .anil))))) .nop)))
def d__law_drawn : FnD := ⟨4, 9, [true, false, false, false], b__law_drawn⟩
abbrev n__law_drawn : List Str := ["source", "signs", "states", "most", "state", "wide", "moves", "ends", "sign"]
abbrev s__law_drawn : Stmt := topS 35
theorem c__law_drawn : ckSs nms n__law_drawn (defScope s__law_drawn) (fun _ => true) b__law_drawn (defBody s__law_drawn) = true := by decide +kernel
theorem fs__law_drawn : FnScope n__law_drawn ["source", "signs", "states", "most"] (defScope s__law_drawn) := ⟨rfl, rfl, rfl, by decide +kernel, rfl, by decide +kernel, by decide +kernel⟩
/-- _law_known: 0 source 1 moves 2 state 3 kind 4 size 5 rows -/
def q__law_known_1 : Xp := (.lc (.tup (.acons (.v 2) (.acons (.k (.str [49])) (.acons (.bin .mod (.bin .add (.v 2) (.k (.int 1))) (.v 4)) (.acons (.ife (.cmp .lt (.v 2) (.bin .sub (.v 4) (.k (.int 1)))) (.k (.str [49])) (.k (.str [49, 45]))) .anil))))) (.nm 2) .rng1 (.v 4) .anil (.k (.bl true)) [2])
def l__law_known_1 : Itp.St := (.seq (.expr (.mm .append 1 (.acons (.tup (.acons (.v 2) (.acons (.k (.str [49])) (.acons (.ife (.cmp .lt (.v 2) (.v 4)) (.bin .add (.v 2) (.k (.int 1))) (.k (.int 1))) (.acons (.ife (.cmp .lt (.v 2) (.v 4)) (.k (.str [49])) (.k (.str [45, 49]))) .anil))))) .anil))) .nop)
def f__law_known_1 : Itp.St := (.for_ (.nm 2) .rng1 (.bin .add (.v 4) (.k (.int 1))) .anil l__law_known_1)
def b__law_known : Itp.St := (.seq (.asgT (.tup [3, 4]) (.tup (.acons (.call i__law_pick (.acons (.v 0) (.acons (.k (.int 6)) .anil))) (.acons (.bin .add (.k (.int 1)) (.call i__law_pick (.acons (.v 0) (.acons (.k (.int 3)) .anil)))) .anil)))) (.seq (.asg 1 false (.lst .anil)) (.seq f__law_known_1 (.seq (.ite (.cmp .eq (.v 3) (.k (.int 0))) (.seq (.ret (.tup (.acons (.k (.str [45, 49])) (.acons (.bi .tuple (.acons (.v 1) .anil)) (.acons (.tup .anil) .anil))))) .nop) .nop) (.seq (.ite (.cmp .eq (.v 3) (.k (.int 1))) (.seq (.asg 5 true q__law_known_1) (.seq (.ret (.tup (.acons (.k (.str [45, 49])) (.acons (.bi .tuple (.acons (.v 5) .anil)) (.acons (.tup .anil) .anil))))) .nop)) .nop) (.seq (.ite (.cmp .eq (.v 3) (.k (.int 2))) (.seq (.ret (.tup (.acons (.k (.str [49])) (.acons (.tup (.acons (.tup (.acons (.k (.int 0)) (.acons (.k (.str [49])) (.acons (.k (.int 1)) (.acons (.k (.str [49])) .anil))))) (.acons (.tup (.acons (.k (.int 1)) (.acons (.k (.str [49])) (.acons (.k (.int 0)) (.acons (.k (.str [49, 49])) .anil))))) .anil))) (.acons (.tup .anil) .anil))))) .nop) .nop) (.seq (.ite (.cmp .eq (.v 3) (.k (.int 3))) (.seq (.ret (.tup (.acons (.k (.str [97, 98])) (.acons (.tup (.acons (.tup (.acons (.k (.int 0)) (.acons (.k (.str [97])) (.acons (.k (.int 1)) (.acons (.k (.str [97])) .anil))))) (.acons (.tup (.acons (.k (.int 0)) (.acons (.k (.str [98])) (.acons (.k (.int 1)) (.acons (.k (.str [98])) .anil))))) (.acons (.tup (.acons (.k (.int 1)) (.acons (.k (.str [97])) (.acons (.k (.int 2)) (.acons (.k (.str [97])) .anil))))) (.acons (.tup (.acons (.k (.int 1)) (.acons (.k (.str [98])) (.acons (.k (.int 2)) (.acons (.k (.str [98])) .anil))))) .anil))))) (.acons (.tup .anil) .anil))))) .nop) .nop) (.seq (.ite (.cmp .eq (.v 3) (.k (.int 4))) (.seq (.ret (.tup (.acons (.k (.str [97, 98])) (.acons (.tup (.acons (.tup (.acons (.k (.int 0)) (.acons (.k (.str [97])) (.acons (.k (.int 0)) (.acons (.k (.str [97])) .anil))))) (.acons (.tup (.acons (.k (.int 0)) (.acons (.k (.str [98])) (.acons (.k (.int 1)) (.acons (.k (.str [97])) .anil))))) (.acons (.tup (.acons (.k (.int 1)) (.acons (.k (.str [97])) (.acons (.k (.int 1)) (.acons (.k (.str [98])) .anil))))) (.acons (.tup (.acons (.k (.int 1)) (.acons (.k (.str [98])) (.acons (.k (.int 0)) (.acons (.k (.str [98])) .anil))))) .anil))))) (.acons (.tup .anil) .anil))))) .nop) .nop) (.seq (.ret (.tup (.acons (.k (.str [97, 98])) (.acons (.tup (.acons (.tup (.acons (.k (.int 0)) (.acons (.k (.str [97])) (.acons (.k (.int 1)) (.acons (.k (.str [])) .anil))))) (.acons (.tup (.acons (.k (.int 0)) (.acons (.k (.str [98])) (.acons (.k (.int 0)) (.acons (.k (.str [98])) .anil))))) (.acons (.tup (.acons (.k (.int 1)) (.acons (.k (.str [97])) (.acons (.k (.int 1)) (.acons (.k (.str [97])) .anil))))) (.acons (.tup (.acons (.k (.int 1)) (.acons (.k (.str [98])) (.acons (.k (.int 0)) (.acons (.k (.str [97, 98])) .anil))))) .anil))))) (.acons (.tup (.acons (.tup (.acons (.k (.int 1)) (.acons (.k (.str [97])) .anil))) .anil)) .anil))))) .nop)))))))))
def d__law_known : FnD := ⟨1, 6, [true], b__law_known⟩
abbrev n__law_known : List Str := ["source", "moves", "state", "kind", "size", "rows"]
abbrev s__law_known : Stmt := topS 36
theorem c__law_known : ckSs nms n__law_known (defScope s__law_known) (fun _ => true) b__law_known (defBody s__law_known) = true := by decide +kernel
theorem fs__law_known : FnScope n__law_known ["source"] (defScope s__law_known) := ⟨rfl, rfl, rfl, by decide +kernel, rfl, by decide +kernel, by decide +kernel⟩
/-- _law_formatter: 0 source 1 states 2 most -/
def b__law_formatter : Itp.St := (.seq (.ite (.cmp .eq (.call i__law_pick (.acons (.v 0) (.acons (.k (.int 3)) .anil))) (.k (.int 0))) (.seq (.ret (.call i__law_known (.acons (.v 0) .anil))) .nop) .nop) (.seq (.ret (.call i__law_drawn (.acons (.v 0) (.acons (.call i__law_chosen (.acons (.v 0) (.acons (.lst (.acons (.k (.str [45, 49])) (.acons (.k (.str [97, 98])) (.acons (.k (.str [49])) (.acons (.k (.str [47, 50, 97])) (.acons (.k (.str [122])) .anil)))))) .anil))) (.acons (.v 1) (.acons (.v 2) .anil)))))) .nop))
def d__law_formatter : FnD := ⟨3, 3, [true, false, false], b__law_formatter⟩
abbrev n__law_formatter : List Str := ["source", "states", "most"]
abbrev s__law_formatter : Stmt := topS 37
theorem c__law_formatter : ckSs nms n__law_formatter (defScope s__law_formatter) (fun _ => true) b__law_formatter (defBody s__law_formatter) = true := by decide +kernel
theorem fs__law_formatter : FnScope n__law_formatter ["source", "states", "most"] (defScope s__law_formatter) := ⟨rfl, rfl, rfl, by decide +kernel, rfl, by decide +kernel, by decide +kernel⟩
/-- _law_text: 0 source 1 signs 2 most 3 turn -/
def q__law_text_1 : Xp := (.lc (.call i__law_chosen (.acons (.v 0) (.acons (.bi .list (.acons (.v 1) .anil)) .anil))) (.nm 3) .rng1 (.call i__law_pick (.acons (.v 0) (.acons (.bin .add (.v 2) (.k (.int 1))) .anil))) .anil (.k (.bl true)) [3])
def b__law_text : Itp.St := (.seq (.ret (.mt .join (.k (.str [])) (.acons q__law_text_1 .anil))) .nop)
def d__law_text : FnD := ⟨3, 4, [true, false, false], b__law_text⟩
abbrev n__law_text : List Str := ["source", "signs", "most", "turn"]
abbrev s__law_text : Stmt := topS 38
theorem c__law_text : ckSs nms n__law_text (defScope s__law_text) (fun _ => true) b__law_text (defBody s__law_text) = true := by decide +kernel
theorem fs__law_text : FnScope n__law_text ["source", "signs", "most"] (defScope s__law_text) := ⟨rfl, rfl, rfl, by decide +kernel, rfl, by decide +kernel, by decide +kernel⟩
/-- _law_move: 0 formatter 1 state 2 sign 3 one 4 other 5 goal 6 output -/
def l__law_move_1 : Itp.St := (.seq (.ite (.and (.cmp .eq (.v 3) (.v 1)) (.cmp .eq (.v 4) (.v 2))) (.seq (.ret (.tup (.acons (.v 5) (.acons (.v 6) .anil)))) .nop) .nop) .nop)
def f__law_move_1 : Itp.St := (.for_ (.tup [3, 4, 5, 6]) .over (.ix (.v 0) (.k (.int 1))) .anil l__law_move_1)
def b__law_move : Itp.St := (.seq f__law_move_1 (.seq (.ret (.tup (.acons (.v 1) (.acons (.k (.str [])) .anil)))) .nop))
def d__law_move : FnD := ⟨3, 7, [false, false, false], b__law_move⟩
abbrev n__law_move : List Str := ["formatter", "state", "sign", "one", "other", "goal", "output"]
abbrev s__law_move : Stmt := topS 39
theorem c__law_move : ckSs nms n__law_move (defScope s__law_move) (fun _ => true) b__law_move (defBody s__law_move) = true := by decide +kernel
theorem fs__law_move : FnScope n__law_move ["formatter", "state", "sign"] (defScope s__law_move) := ⟨rfl, rfl, rfl, by decide +kernel, rfl, by decide +kernel, by decide +kernel⟩
/-- _law_end: 0 formatter 1 state 2 one 3 output -/
def q__law_end_1 : Xp := (.lc (.v 3) (.tup [2, 3]) .over (.ix (.v 0) (.k (.int 2))) .anil (.cmp .eq (.v 2) (.v 1)) [2, 3])
def b__law_end : Itp.St := (.seq (.ret (.mt .join (.k (.str [])) (.acons q__law_end_1 .anil))) .nop)
def d__law_end : FnD := ⟨2, 4, [false, false], b__law_end⟩
abbrev n__law_end : List Str := ["formatter", "state", "one", "output"]
abbrev s__law_end : Stmt := topS 40
theorem c__law_end : ckSs nms n__law_end (defScope s__law_end) (fun _ => true) b__law_end (defBody s__law_end) = true := by decide +kernel
theorem fs__law_end : FnScope n__law_end ["formatter", "state"] (defScope s__law_end) := ⟨rfl, rfl, rfl, by decide +kernel, rfl, by decide +kernel, by decide +kernel⟩
/-- _law_form: 0 formatter 1 text 2 sign 3 state 4 found 5 output -/
def l__law_form_1 : Itp.St := (.seq (.asg 5 true (.k (.str [124]))) (.seq (.ite (.cmp .ne (.v 2) (.k (.str [124]))) (.seq (.asgT (.tup [3, 5]) (.call i__law_move (.acons (.v 0) (.acons (.v 3) (.acons (.v 2) .anil))))) .nop) .nop) (.seq (.asg 4 true (.bin .add (.v 4) (.v 5))) .nop)))
def f__law_form_1 : Itp.St := (.for_ (.nm 2) .over (.v 1) .anil l__law_form_1)
def b__law_form : Itp.St := (.seq (.asgT (.tup [3, 4]) (.tup (.acons (.k (.int 0)) (.acons (.k (.str [])) .anil)))) (.seq f__law_form_1 (.seq (.ret (.bin .add (.v 4) (.call i__law_end (.acons (.v 0) (.acons (.v 3) .anil))))) .nop)))
def d__law_form : FnD := ⟨2, 6, [false, false], b__law_form⟩
abbrev n__law_form : List Str := ["formatter", "text", "sign", "state", "found", "output"]
abbrev s__law_form : Stmt := topS 41
theorem c__law_form : ckSs nms n__law_form (defScope s__law_form) (fun _ => true) b__law_form (defBody s__law_form) = true := by decide +kernel
theorem fs__law_form : FnScope n__law_form ["formatter", "text"] (defScope s__law_form) := ⟨rfl, rfl, rfl, by decide +kernel, rfl, by decide +kernel, by decide +kernel⟩
/-- _law_outcome: 0 call 1 formatter 2 text -/
def b__law_outcome_v2 : Itp.St := (.seq (.try_ (.seq (.ret (.ife (.cmp .eq (.v 0) (.k (.int 0))) (.call i_formatted (.acons (.v 1) (.acons (.v 2) .anil))) (.call i_formatted_at (.acons (.v 1) (.acons (.v 2) .anil))))) .nop) (.cons e_InvalidFormatter (.ret (.str [102, 111, 114, 109, 97, 116, 116, 101, 114, 33])) (.cons e_InvalidText (.ret (.str [116, 101, 120, 116, 33])) (.cons e_InvalidMarked (.ret (.str [109, 97, 114, 107, 101, 100, 33])) .nil)))) .nop)
def d__law_outcome_v2 : FnD := ⟨3, 3, [false, false, false], b__law_outcome_v2⟩
abbrev n__law_outcome_v2 : List Str := ["call", "formatter", "text"]
abbrev s__law_outcome_v2 : Stmt := topS 42
theorem c__law_outcome_v2 : ckSs nms n__law_outcome_v2 (defScope s__law_outcome_v2) (fun _ => true) b__law_outcome_v2 (defBody s__law_outcome_v2) = true := by decide +kernel
theorem fs__law_outcome_v2 : FnScope n__law_outcome_v2 ["call", "formatter", "text"] (defScope s__law_outcome_v2) := ⟨rfl, rfl, rfl, by decide +kernel, rfl, by decide +kernel, by decide +kernel⟩
/-- law: 0 script 1 k 2 source 3 formatter 4 turn 5 odd 6 text 7 at 8 marked -/
def l_law_v2_2 : Itp.St := (.seq (.ite (.or (.cmp .ne (.call i__law_outcome_v2 (.acons (.k (.int 0)) (.acons (.v 3) (.acons (.v 5) .anil)))) (.k (.str [116, 101, 120, 116, 33]))) (.cmp .ne (.call i__law_outcome_v2 (.acons (.k (.int 1)) (.acons (.v 3) (.acons (.v 5) .anil)))) (.k (.str [109, 97, 114, 107, 101, 100, 33])))) (.seq (.ret (.k (.bl false))) .nop) .nop) (.seq (.ite (.or (.cmp .ne (.call i__law_outcome_v2 (.acons (.k (.int 0)) (.acons (.lst (.acons (.v 3) .anil)) (.acons (.v 5) .anil)))) (.k (.str [102, 111, 114, 109, 97, 116, 116, 101, 114, 33]))) (.cmp .ne (.call i__law_outcome_v2 (.acons (.k (.int 1)) (.acons (.k .non) (.acons (.v 5) .anil)))) (.k (.str [102, 111, 114, 109, 97, 116, 116, 101, 114, 33])))) (.seq (.ret (.k (.bl false))) .nop) .nop) .nop))
def f_law_v2_2 : Itp.St := (.for_ (.nm 5) .over (.lst (.acons (.k .non) (.acons (.k (.int 5)) (.acons (.lst (.acons (.ix (.v 3) (.k (.int 0))) .anil)) (.acons (.tup (.acons (.ix (.v 3) (.k (.int 0))) .anil)) (.acons (.k (.str [90])) (.acons (.bin .add (.ix (.v 3) (.k (.int 0))) (.k (.str [32]))) (.acons (.k (.bl true)) .anil)))))))) .anil l_law_v2_2)
def l_law_v2_3 : Itp.St := (.seq (.asg 6 true (.call i__law_text (.acons (.v 2) (.acons (.ix (.v 3) (.k (.int 0))) (.acons (.ix (.lst (.acons (.k (.int 6)) (.acons (.k (.int 60)) .anil))) (.call i__law_pick (.acons (.v 2) (.acons (.k (.int 2)) .anil)))) .anil))))) (.seq (.asg 7 true (.call i__law_pick (.acons (.v 2) (.acons (.bin .add (.bi .len (.acons (.v 6) .anil)) (.k (.int 1))) .anil)))) (.seq (.asg 8 true (.bin .add (.bin .add (.sl (.v 6) .anil (.v 7)) (.k (.str [124]))) (.sl (.v 6) (.v 7) .anil))) (.seq (.ite (.cmp .ne (.call i__law_outcome_v2 (.acons (.k (.int 0)) (.acons (.v 3) (.acons (.v 6) .anil)))) (.call i__law_form (.acons (.v 3) (.acons (.v 6) .anil)))) (.seq (.ret (.k (.bl false))) .nop) .nop) (.seq (.ite (.cmp .ne (.call i__law_outcome_v2 (.acons (.k (.int 1)) (.acons (.v 3) (.acons (.v 8) .anil)))) (.call i__law_form (.acons (.v 3) (.acons (.v 8) .anil)))) (.seq (.ret (.k (.bl false))) .nop) .nop) (.seq (.ite (.or (.cmp .ne (.call i__law_outcome_v2 (.acons (.k (.int 0)) (.acons (.v 3) (.acons (.v 8) .anil)))) (.k (.str [116, 101, 120, 116, 33]))) (.cmp .ne (.call i__law_outcome_v2 (.acons (.k (.int 1)) (.acons (.v 3) (.acons (.v 6) .anil)))) (.k (.str [109, 97, 114, 107, 101, 100, 33])))) (.seq (.ret (.k (.bl false))) .nop) .nop) (.seq (.ite (.cmp .ne (.call i__law_outcome_v2 (.acons (.k (.int 1)) (.acons (.v 3) (.acons (.bin .add (.v 8) (.k (.str [124]))) .anil)))) (.k (.str [109, 97, 114, 107, 101, 100, 33]))) (.seq (.ret (.k (.bl false))) .nop) .nop) .nop)))))))
def f_law_v2_3 : Itp.St := (.for_ (.nm 4) .rng1 (.k (.int 8)) .anil l_law_v2_3)
def l_law_v2_1 : Itp.St := (.seq (.asg 2 false (.call i__law_source (.acons (.v 0) (.acons (.v 1) .anil)))) (.seq (.asg 3 true (.call i__law_formatter (.acons (.v 2) (.acons (.k (.int 4)) (.acons (.k (.int 3)) .anil))))) (.seq f_law_v2_3 (.seq f_law_v2_2 .nop))))
def f_law_v2_1 : Itp.St := (.for_ (.nm 1) .rng1 (.bi .max (.acons (.k (.int 6)) (.acons (.bi .min (.acons (.k (.int 24)) (.acons (.bi .len (.acons (.v 0) .anil)) .anil))) .anil))) .anil l_law_v2_1)
def b_law_v2 : Itp.St := (.seq f_law_v2_1 (.seq (.ret (.k (.bl true))) .nop))
def d_law_v2 : FnD := ⟨1, 9, [false], b_law_v2⟩
abbrev n_law_v2 : List Str := ["script", "k", "source", "formatter", "turn", "odd", "text", "at", "marked"]
abbrev s_law_v2 : Stmt := topS 43
theorem c_law_v2 : ckSs nms n_law_v2 (defScope s_law_v2) (fun _ => true) b_law_v2 (defBody s_law_v2) = true := by decide +kernel
theorem fs_law_v2 : FnScope n_law_v2 ["script"] (defScope s_law_v2) := ⟨rfl, rfl, rfl, by decide +kernel, rfl, by decide +kernel, by decide +kernel⟩
def tbl : List FnD := [d_is_integer, d_is_wide, d_is_rising, d_are_signs, d_is_sign, d_is_string, d_is_move, d_is_end, d_is_formatter, d_is_marked, d_need_formatter, d_need_text, d_made_by, d_end_of, d_step_of, d_format_of, d_formatted, d_formatted_at, d__law_source, d__law_pick, d__law_chosen, d__law_output, d__law_drawn, d__law_known, d__law_formatter, d__law_text, d__law_move, d__law_end, d__law_form, d__law_outcome_v2, d_law_v2]
def Tb (f : Nat) : Option FnD := tbl[f]?
def sub (i j : Nat) : Bool := [(0, 0), (1, 0), (1, 1), (2, 0), (2, 2), (3, 0), (3, 3)].contains (i, j)
theorem u_is_integer (k : Nat) (vs : List SV) : run sub Tb (k + 1) i_is_integer vs = callF sub (run sub Tb k) d_is_integer vs := rfl
theorem u_is_wide (k : Nat) (vs : List SV) : run sub Tb (k + 1) i_is_wide vs = callF sub (run sub Tb k) d_is_wide vs := rfl
theorem u_is_rising (k : Nat) (vs : List SV) : run sub Tb (k + 1) i_is_rising vs = callF sub (run sub Tb k) d_is_rising vs := rfl
theorem u_are_signs (k : Nat) (vs : List SV) : run sub Tb (k + 1) i_are_signs vs = callF sub (run sub Tb k) d_are_signs vs := rfl
theorem u_is_sign (k : Nat) (vs : List SV) : run sub Tb (k + 1) i_is_sign vs = callF sub (run sub Tb k) d_is_sign vs := rfl
theorem u_is_string (k : Nat) (vs : List SV) : run sub Tb (k + 1) i_is_string vs = callF sub (run sub Tb k) d_is_string vs := rfl
theorem u_is_move (k : Nat) (vs : List SV) : run sub Tb (k + 1) i_is_move vs = callF sub (run sub Tb k) d_is_move vs := rfl
theorem u_is_end (k : Nat) (vs : List SV) : run sub Tb (k + 1) i_is_end vs = callF sub (run sub Tb k) d_is_end vs := rfl
theorem u_is_formatter (k : Nat) (vs : List SV) : run sub Tb (k + 1) i_is_formatter vs = callF sub (run sub Tb k) d_is_formatter vs := rfl
theorem u_is_marked (k : Nat) (vs : List SV) : run sub Tb (k + 1) i_is_marked vs = callF sub (run sub Tb k) d_is_marked vs := rfl
theorem u_need_formatter (k : Nat) (vs : List SV) : run sub Tb (k + 1) i_need_formatter vs = callF sub (run sub Tb k) d_need_formatter vs := rfl
theorem u_need_text (k : Nat) (vs : List SV) : run sub Tb (k + 1) i_need_text vs = callF sub (run sub Tb k) d_need_text vs := rfl
theorem u_made_by (k : Nat) (vs : List SV) : run sub Tb (k + 1) i_made_by vs = callF sub (run sub Tb k) d_made_by vs := rfl
theorem u_end_of (k : Nat) (vs : List SV) : run sub Tb (k + 1) i_end_of vs = callF sub (run sub Tb k) d_end_of vs := rfl
theorem u_step_of (k : Nat) (vs : List SV) : run sub Tb (k + 1) i_step_of vs = callF sub (run sub Tb k) d_step_of vs := rfl
theorem u_format_of (k : Nat) (vs : List SV) : run sub Tb (k + 1) i_format_of vs = callF sub (run sub Tb k) d_format_of vs := rfl
theorem u_formatted (k : Nat) (vs : List SV) : run sub Tb (k + 1) i_formatted vs = callF sub (run sub Tb k) d_formatted vs := rfl
theorem u_formatted_at (k : Nat) (vs : List SV) : run sub Tb (k + 1) i_formatted_at vs = callF sub (run sub Tb k) d_formatted_at vs := rfl
theorem u__law_source (k : Nat) (vs : List SV) : run sub Tb (k + 1) i__law_source vs = callF sub (run sub Tb k) d__law_source vs := rfl
theorem u__law_pick (k : Nat) (vs : List SV) : run sub Tb (k + 1) i__law_pick vs = callF sub (run sub Tb k) d__law_pick vs := rfl
theorem u__law_chosen (k : Nat) (vs : List SV) : run sub Tb (k + 1) i__law_chosen vs = callF sub (run sub Tb k) d__law_chosen vs := rfl
theorem u__law_output (k : Nat) (vs : List SV) : run sub Tb (k + 1) i__law_output vs = callF sub (run sub Tb k) d__law_output vs := rfl
theorem u__law_drawn (k : Nat) (vs : List SV) : run sub Tb (k + 1) i__law_drawn vs = callF sub (run sub Tb k) d__law_drawn vs := rfl
theorem u__law_known (k : Nat) (vs : List SV) : run sub Tb (k + 1) i__law_known vs = callF sub (run sub Tb k) d__law_known vs := rfl
theorem u__law_formatter (k : Nat) (vs : List SV) : run sub Tb (k + 1) i__law_formatter vs = callF sub (run sub Tb k) d__law_formatter vs := rfl
theorem u__law_text (k : Nat) (vs : List SV) : run sub Tb (k + 1) i__law_text vs = callF sub (run sub Tb k) d__law_text vs := rfl
theorem u__law_move (k : Nat) (vs : List SV) : run sub Tb (k + 1) i__law_move vs = callF sub (run sub Tb k) d__law_move vs := rfl
theorem u__law_end (k : Nat) (vs : List SV) : run sub Tb (k + 1) i__law_end vs = callF sub (run sub Tb k) d__law_end vs := rfl
theorem u__law_form (k : Nat) (vs : List SV) : run sub Tb (k + 1) i__law_form vs = callF sub (run sub Tb k) d__law_form vs := rfl
theorem u__law_outcome_v2 (k : Nat) (vs : List SV) : run sub Tb (k + 1) i__law_outcome_v2 vs = callF sub (run sub Tb k) d__law_outcome_v2 vs := rfl
theorem u_law_v2 (k : Nat) (vs : List SV) : run sub Tb (k + 1) i_law_v2 vs = callF sub (run sub Tb k) d_law_v2 vs := rfl
theorem prog_ok {K : PySem.W.Frag} {h : Heap} {mg : Str → Option Value} {C0 C1 C2 C3 : Addr} (X : K.In h) (G : h.Ns mainGlobals mg)
    (h0 : DfAt Itp.tokN nms K mg "is_integer" d_is_integer)
    (h1 : DfAt Itp.tokN nms K mg "is_wide" d_is_wide)
    (h2 : DfAt Itp.tokN nms K mg "is_rising" d_is_rising)
    (h3 : DfAt Itp.tokN nms K mg "are_signs" d_are_signs)
    (h4 : DfAt Itp.tokN nms K mg "is_sign" d_is_sign)
    (h5 : DfAt Itp.tokN nms K mg "is_string" d_is_string)
    (h6 : DfAt Itp.tokN nms K mg "is_move" d_is_move)
    (h7 : DfAt Itp.tokN nms K mg "is_end" d_is_end)
    (h8 : DfAt Itp.tokN nms K mg "is_formatter" d_is_formatter)
    (h9 : DfAt Itp.tokN nms K mg "is_marked" d_is_marked)
    (h10 : DfAt Itp.tokN nms K mg "need_formatter" d_need_formatter)
    (h11 : DfAt Itp.tokN nms K mg "need_text" d_need_text)
    (h12 : DfAt Itp.tokN nms K mg "made_by" d_made_by)
    (h13 : DfAt Itp.tokN nms K mg "end_of" d_end_of)
    (h14 : DfAt Itp.tokN nms K mg "step_of" d_step_of)
    (h15 : DfAt Itp.tokN nms K mg "format_of" d_format_of)
    (h16 : DfAt Itp.tokN nms K mg "formatted" d_formatted)
    (h17 : DfAt Itp.tokN nms K mg "formatted_at" d_formatted_at)
    (h18 : DfAt Itp.tokN nms K mg "_law_source" d__law_source)
    (h19 : DfAt Itp.tokN nms K mg "_law_pick" d__law_pick)
    (h20 : DfAt Itp.tokN nms K mg "_law_chosen" d__law_chosen)
    (h21 : DfAt Itp.tokN nms K mg "_law_output" d__law_output)
    (h22 : DfAt Itp.tokN nms K mg "_law_drawn" d__law_drawn)
    (h23 : DfAt Itp.tokN nms K mg "_law_known" d__law_known)
    (h24 : DfAt Itp.tokN nms K mg "_law_formatter" d__law_formatter)
    (h25 : DfAt Itp.tokN nms K mg "_law_text" d__law_text)
    (h26 : DfAt Itp.tokN nms K mg "_law_move" d__law_move)
    (h27 : DfAt Itp.tokN nms K mg "_law_end" d__law_end)
    (h28 : DfAt Itp.tokN nms K mg "_law_form" d__law_form)
    (h29 : DfAt Itp.tokN nms K mg "_law_outcome" d__law_outcome_v2)
    (h30 : DfAt Itp.tokN nms K mg "law" d_law_v2)
    (g0 : GlAt Itp.tokN nms K mg "SIGNS" (.str z_SIGNS))
    (g1 : GlAt Itp.tokN nms K mg "MARK" (.str [124]))
    (g2 : GlAt Itp.tokN nms K mg "MOST_SIGNS" (.int 3))
    (g3 : GlAt Itp.tokN nms K mg "MOST_STATE" (.int 3))
    (g4 : GlAt Itp.tokN nms K mg "MOST_OUTPUT" (.int 3))
    (g5 : GlAt Itp.tokN nms K mg "MOST_MOVES" (.int 12))
    (k0 : ClAt K mg "FieldError" C0)
    (k1 : ClAt K mg "InvalidFormatter" C1)
    (k2 : ClAt K mg "InvalidText" C2)
    (k3 : ClAt K mg "InvalidMarked" C3)
    (e0_0 : PySem.W.subIn K (.ref C0) (.ref C0) = some true)
    (e0_1 : PySem.W.subIn K (.ref C0) (.ref C1) = some false)
    (e0_2 : PySem.W.subIn K (.ref C0) (.ref C2) = some false)
    (e0_3 : PySem.W.subIn K (.ref C0) (.ref C3) = some false)
    (e1_0 : PySem.W.subIn K (.ref C1) (.ref C0) = some true)
    (e1_1 : PySem.W.subIn K (.ref C1) (.ref C1) = some true)
    (e1_2 : PySem.W.subIn K (.ref C1) (.ref C2) = some false)
    (e1_3 : PySem.W.subIn K (.ref C1) (.ref C3) = some false)
    (e2_0 : PySem.W.subIn K (.ref C2) (.ref C0) = some true)
    (e2_1 : PySem.W.subIn K (.ref C2) (.ref C1) = some false)
    (e2_2 : PySem.W.subIn K (.ref C2) (.ref C2) = some true)
    (e2_3 : PySem.W.subIn K (.ref C2) (.ref C3) = some false)
    (e3_0 : PySem.W.subIn K (.ref C3) (.ref C0) = some true)
    (e3_1 : PySem.W.subIn K (.ref C3) (.ref C1) = some false)
    (e3_2 : PySem.W.subIn K (.ref C3) (.ref C2) = some false)
    (e3_3 : PySem.W.subIn K (.ref C3) (.ref C3) = some true)
    (nb : ∀ x ∈ bltN, PySem.W.nsIn K mainGlobals x = some none) : PrOk Itp.tokN nms (ecOf nms mg) sub Tb K mg where
  n1 := fun _ => by decide
  tab := fun f x hx => match f, hx with
    | 0, hx => by obtain rfl := Option.some.inj hx; exact ⟨d_is_integer, rfl, h0⟩
    | 1, hx => by obtain rfl := Option.some.inj hx; exact ⟨d_is_wide, rfl, h1⟩
    | 2, hx => by obtain rfl := Option.some.inj hx; exact ⟨d_is_rising, rfl, h2⟩
    | 3, hx => by obtain rfl := Option.some.inj hx; exact ⟨d_are_signs, rfl, h3⟩
    | 4, hx => by obtain rfl := Option.some.inj hx; exact ⟨d_is_sign, rfl, h4⟩
    | 5, hx => by obtain rfl := Option.some.inj hx; exact ⟨d_is_string, rfl, h5⟩
    | 6, hx => by obtain rfl := Option.some.inj hx; exact ⟨d_is_move, rfl, h6⟩
    | 7, hx => by obtain rfl := Option.some.inj hx; exact ⟨d_is_end, rfl, h7⟩
    | 8, hx => by obtain rfl := Option.some.inj hx; exact ⟨d_is_formatter, rfl, h8⟩
    | 9, hx => by obtain rfl := Option.some.inj hx; exact ⟨d_is_marked, rfl, h9⟩
    | 10, hx => by obtain rfl := Option.some.inj hx; exact ⟨d_need_formatter, rfl, h10⟩
    | 11, hx => by obtain rfl := Option.some.inj hx; exact ⟨d_need_text, rfl, h11⟩
    | 12, hx => by obtain rfl := Option.some.inj hx; exact ⟨d_made_by, rfl, h12⟩
    | 13, hx => by obtain rfl := Option.some.inj hx; exact ⟨d_end_of, rfl, h13⟩
    | 14, hx => by obtain rfl := Option.some.inj hx; exact ⟨d_step_of, rfl, h14⟩
    | 15, hx => by obtain rfl := Option.some.inj hx; exact ⟨d_format_of, rfl, h15⟩
    | 16, hx => by obtain rfl := Option.some.inj hx; exact ⟨d_formatted, rfl, h16⟩
    | 17, hx => by obtain rfl := Option.some.inj hx; exact ⟨d_formatted_at, rfl, h17⟩
    | 18, hx => by obtain rfl := Option.some.inj hx; exact ⟨d__law_source, rfl, h18⟩
    | 19, hx => by obtain rfl := Option.some.inj hx; exact ⟨d__law_pick, rfl, h19⟩
    | 20, hx => by obtain rfl := Option.some.inj hx; exact ⟨d__law_chosen, rfl, h20⟩
    | 21, hx => by obtain rfl := Option.some.inj hx; exact ⟨d__law_output, rfl, h21⟩
    | 22, hx => by obtain rfl := Option.some.inj hx; exact ⟨d__law_drawn, rfl, h22⟩
    | 23, hx => by obtain rfl := Option.some.inj hx; exact ⟨d__law_known, rfl, h23⟩
    | 24, hx => by obtain rfl := Option.some.inj hx; exact ⟨d__law_formatter, rfl, h24⟩
    | 25, hx => by obtain rfl := Option.some.inj hx; exact ⟨d__law_text, rfl, h25⟩
    | 26, hx => by obtain rfl := Option.some.inj hx; exact ⟨d__law_move, rfl, h26⟩
    | 27, hx => by obtain rfl := Option.some.inj hx; exact ⟨d__law_end, rfl, h27⟩
    | 28, hx => by obtain rfl := Option.some.inj hx; exact ⟨d__law_form, rfl, h28⟩
    | 29, hx => by obtain rfl := Option.some.inj hx; exact ⟨d__law_outcome_v2, rfl, h29⟩
    | 30, hx => by obtain rfl := Option.some.inj hx; exact ⟨d_law_v2, rfl, h30⟩
    | f + 31, hx => by simp [nms] at hx
  blt := fun x hx => PySem.W.mg_none_of X G (nb x hx)
  gls := fun i y d hx => match i, hx with
    | 0, hx => by obtain ⟨rfl, rfl⟩ := Prod.mk.inj (Option.some.inj hx); exact g0
    | 1, hx => by obtain ⟨rfl, rfl⟩ := Prod.mk.inj (Option.some.inj hx); exact g1
    | 2, hx => by obtain ⟨rfl, rfl⟩ := Prod.mk.inj (Option.some.inj hx); exact g2
    | 3, hx => by obtain ⟨rfl, rfl⟩ := Prod.mk.inj (Option.some.inj hx); exact g3
    | 4, hx => by obtain ⟨rfl, rfl⟩ := Prod.mk.inj (Option.some.inj hx); exact g4
    | 5, hx => by obtain ⟨rfl, rfl⟩ := Prod.mk.inj (Option.some.inj hx); exact g5
    | i + 6, hx => by simp [nms] at hx
  exs := fun c x hx => match c, hx with
    | 0, hx => by obtain rfl := Option.some.inj hx; exact ⟨C0, _, _, _, _, PySem.F.excBase_ValueError, k0.ex, k0.mg, k0.kp, k0.bs, k0.ty, fun H => ⟨_, C0, rfl, k0.mg, rfl, rfl, rfl⟩⟩
    | 1, hx => by obtain rfl := Option.some.inj hx; exact ⟨C1, _, _, _, _, PySem.F.excBase_ValueError, k1.ex, k1.mg, k1.kp, k1.bs, k1.ty, fun H => ⟨_, C1, rfl, k1.mg, rfl, rfl, rfl⟩⟩
    | 2, hx => by obtain rfl := Option.some.inj hx; exact ⟨C2, _, _, _, _, PySem.F.excBase_ValueError, k2.ex, k2.mg, k2.kp, k2.bs, k2.ty, fun H => ⟨_, C2, rfl, k2.mg, rfl, rfl, rfl⟩⟩
    | 3, hx => by obtain rfl := Option.some.inj hx; exact ⟨C3, _, _, _, _, PySem.F.excBase_ValueError, k3.ex, k3.mg, k3.kp, k3.bs, k3.ty, fun H => ⟨_, C3, rfl, k3.mg, rfl, rfl, rfl⟩⟩
    | c + 4, hx => by simp [nms] at hx
  exm := fun x cls d H k y C he hk hm => by
    obtain ⟨yA, CA, m1, m2, rfl, _, _⟩ := he
    have hcs : ∀ (i : Nat) (z : Str) (D : Addr), nms.cs[i]? = some z → mg z = some (.ref D) → (i = 0 ∧ D = C0) ∨ (i = 1 ∧ D = C1) ∨ (i = 2 ∧ D = C2) ∨ (i = 3 ∧ D = C3) := fun i z D e1 e2 => match i, e1 with
      | 0, e1 => by obtain rfl := Option.some.inj e1; rw [k0.mg] at e2; cases e2; exact .inl ⟨rfl, rfl⟩
      | 1, e1 => by obtain rfl := Option.some.inj e1; rw [k1.mg] at e2; cases e2; exact .inr (.inl ⟨rfl, rfl⟩)
      | 2, e1 => by obtain rfl := Option.some.inj e1; rw [k2.mg] at e2; cases e2; exact .inr (.inr (.inl ⟨rfl, rfl⟩))
      | 3, e1 => by obtain rfl := Option.some.inj e1; rw [k3.mg] at e2; cases e2; exact .inr (.inr (.inr (⟨rfl, rfl⟩)))
      | i + 4, e1 => by simp [nms] at e1
    have q1 := hcs x.cls yA CA m1 m2
    have q2 := hcs k y C hk hm
    rcases q1 with ⟨a1, rfl⟩ | ⟨a1, rfl⟩ | ⟨a1, rfl⟩ | ⟨a1, rfl⟩ <;> rcases q2 with ⟨a2, rfl⟩ | ⟨a2, rfl⟩ | ⟨a2, rfl⟩ | ⟨a2, rfl⟩
    · rw [a1, a2]; exact exm_mk k0.bs k0.cl k0.ty e0_0
    · rw [a1, a2]; exact exm_mk k1.bs k1.cl k1.ty e0_1
    · rw [a1, a2]; exact exm_mk k2.bs k2.cl k2.ty e0_2
    · rw [a1, a2]; exact exm_mk k3.bs k3.cl k3.ty e0_3
    · rw [a1, a2]; exact exm_mk k0.bs k0.cl k0.ty e1_0
    · rw [a1, a2]; exact exm_mk k1.bs k1.cl k1.ty e1_1
    · rw [a1, a2]; exact exm_mk k2.bs k2.cl k2.ty e1_2
    · rw [a1, a2]; exact exm_mk k3.bs k3.cl k3.ty e1_3
    · rw [a1, a2]; exact exm_mk k0.bs k0.cl k0.ty e2_0
    · rw [a1, a2]; exact exm_mk k1.bs k1.cl k1.ty e2_1
    · rw [a1, a2]; exact exm_mk k2.bs k2.cl k2.ty e2_2
    · rw [a1, a2]; exact exm_mk k3.bs k3.cl k3.ty e2_3
    · rw [a1, a2]; exact exm_mk k0.bs k0.cl k0.ty e3_0
    · rw [a1, a2]; exact exm_mk k1.bs k1.cl k1.ty e3_1
    · rw [a1, a2]; exact exm_mk k2.bs k2.cl k2.ty e3_2
    · rw [a1, a2]; exact exm_mk k3.bs k3.cl k3.ty e3_3
end G
end
section
set_option autoImplicit false
/-! The small language, reckoned by simp. -/
namespace Itp
section
variable {α β : Type} (cl : Calls) (ρ : Env) (sub : Nat → Nat → Bool)
@[simp] theorem pl_bind (m : M α) (f : α → M β) : M.bind m f ρ = (match m ρ with
  | some (.ok a ρ') => f a ρ'
  | some (.ex x ρ') => some (.ex x ρ')
  | none => none) := rfl
@[simp] theorem pl_pure (a : α) : M.pure a ρ = some (.ok a ρ) := rfl
@[simp] theorem pl_stuck : (M.stuck : M α) ρ = none := rfl
@[simp] theorem pl_of_some (a : α) : M.of (some a) = M.pure a := rfl
@[simp] theorem pl_of_none : (M.of none : M α) = M.stuck := rfl
@[simp] theorem pl_k (d : D) : evE cl (.k d) = M.pure (.val d) := rfl
@[simp] theorem pl_g (x : Nat) (d : D) : evE cl (.g x d) = M.pure (.val d) := rfl
@[simp] theorem pl_v (i : Nat) : evE cl (.v i) = varM i := rfl
@[simp] theorem pl_bin (o : BOp) (a b : Xp) : evE cl (.bin o a b) = op2 (evE cl a) (evE cl b) (binD o) := rfl
@[simp] theorem pl_neg (a : Xp) : evE cl (.neg a) = negM (evE cl a) := rfl
@[simp] theorem pl_nt (a : Xp) : evE cl (.nt a) = Itp.notM (evE cl a) := rfl
@[simp] theorem pl_and (a b : Xp) : evE cl (.and a b) = Itp.andM (evE cl a) (evE cl b) := rfl
@[simp] theorem pl_or (a b : Xp) : evE cl (.or a b) = Itp.orM (evE cl a) (evE cl b) := rfl
@[simp] theorem pl_cmp (o : COp) (a b : Xp) : evE cl (.cmp o a b) = op2 (evE cl a) (evE cl b) (cmpR o) := rfl
@[simp] theorem pl_chn (o p : COp) (a b c : Xp) : evE cl (.chn o p a b c) = chnM (evE cl a) (evE cl b) (evE cl c) o p := rfl
@[simp] theorem pl_ife (t a b : Xp) : evE cl (.ife t a b) = ifM (tst (evE cl t)) (evE cl a) (evE cl b) := rfl
@[simp] theorem pl_tup (es : Xp) : evE cl (.tup es) = tupM (evA cl es) := rfl
@[simp] theorem pl_lst (es : Xp) : evE cl (.lst es) = lstM (evA cl es) := rfl
@[simp] theorem pl_ix (a i : Xp) : evE cl (.ix a i) = op2 (evE cl a) (evE cl i) (fun p q => (ixD p q).map .val) := rfl
@[simp] theorem pl_sl (a lo hi : Xp) : evE cl (.sl a lo hi) = slM (evE cl a) (evOf lo (evE cl lo)) (evOf hi (evE cl hi)) := rfl
@[simp] theorem pl_rev (a : Xp) : evE cl (.rev a) = revM (evE cl a) := rfl
@[simp] theorem pl_bi (f : Bi) (es : Xp) : evE cl (.bi f es) = opA (evA cl es) (biD f) := rfl
@[simp] theorem pl_isi (t : Ty) (a : Xp) : evE cl (.isi t a) = isiM (evE cl a) t := rfl
@[simp] theorem pl_repl (a x y : Xp) : evE cl (.repl a x y) = replM (evE cl a) x y := rfl
@[simp] theorem pl_mt (m : Mt) (a es : Xp) : evE cl (.mt m a es) = opM (evE cl a) (evA cl es) (fun s => mtD m (.str s)) := rfl
@[simp] theorem pl_mm (m : Mm) (i : Nat) (es : Xp) : evE cl (.mm m i es) = mmX m i (evA cl es) := rfl
@[simp] theorem pl_call (f : Nat) (es : Xp) : evE cl (.call f es) = callX cl f (evA cl es) := rfl
theorem pl_lc (elt : Xp) (t : Tg) (ik : ItK) (a b cond : Xp) (own : List Nat) : evE cl (.lc elt t ik a b cond own) = lcX (evIt ik (evE cl a) (evE cl b)) own t (tst (evE cl cond)) (evE cl elt) := rfl
@[simp] theorem pl_anil : evA cl .anil = M.pure [] := rfl
@[simp] theorem pl_acons (a es : Xp) : evA cl (.acons a es) = consA (evE cl a) (evA cl es) := rfl
@[simp] theorem pl_pnil : evP cl .anil = M.pure [] := rfl
@[simp] theorem pl_pcons (a es : Xp) : evP cl (.acons a es) = consP (evE cl a) (evP cl es) := rfl
@[simp] theorem ps_asg (i : Nat) (f : Bool) (e : Xp) : evS sub cl (.asg i f e) = M.bind (evE cl e) fun r => M.bind (stoM i f r) fun _ => M.pure .next := rfl
@[simp] theorem ps_mov (i j : Nat) : evS sub cl (.mov i j) = M.bind (takeM j) fun r => M.bind (stoM i false r) fun _ => M.pure .next := rfl
@[simp] theorem ps_asgT (t : Tg) (e : Xp) : evS sub cl (.asgT t e) = M.bind (evE cl e) fun r => M.bind (M.of r.dat) fun d => M.bind (bindT t d) fun _ => M.pure .next := rfl
@[simp] theorem ps_par (ts : List (Nat × Bool)) (es : Xp) : evS sub cl (.par ts es) = M.bind (evP cl es) fun rs => M.bind (stoP ts.reverse rs.reverse) fun _ => M.pure .next := rfl
@[simp] theorem ps_setix (i : Nat) (ie e : Xp) : evS sub cl (.setix i ie e) = M.bind (evE cl e) fun r => M.bind (M.of r.dat) fun d => M.bind (evE cl ie) fun y => M.bind (M.of y.dat) fun k => M.bind (setixM i k d) fun _ => M.pure .next := rfl
@[simp] theorem ps_expr (e : Xp) : evS sub cl (.expr e) = M.bind (evE cl e) fun _ => M.pure .next := rfl
@[simp] theorem ps_ret (e : Xp) : evS sub cl (.ret e) ρ = M.bind (evE cl e) retM (frzE ρ) := rfl
@[simp] theorem ps_retv (i : Nat) : evS sub cl (.retv i) = M.bind (takeM i) retM := rfl
@[simp] theorem ps_ite (t : Xp) (a b : St) : evS sub cl (.ite t a b) = M.bind (tst (evE cl t)) fun c => if c then evS sub cl a else evS sub cl b := rfl
@[simp] theorem ps_seq (a b : St) : evS sub cl (.seq a b) = M.bind (evS sub cl a) fun f => match f with
    | .next => evS sub cl b
    | f => M.pure f := rfl
@[simp] theorem ps_nop : evS sub cl .nop = M.pure .next := rfl
@[simp] theorem ps_cont : evS sub cl .cont = M.pure .cont := rfl
@[simp] theorem ps_brk : evS sub cl .brk = M.pure .brk := rfl
@[simp] theorem ps_raise (c : Nat) : evS sub cl (.raise c) ρ = some (.ex ⟨c, none⟩ ρ) := rfl
@[simp] theorem ps_try (b : St) (hs : Hd) : evS sub cl (.try_ b hs) = tryM sub (evS sub cl b) hs := rfl
theorem ps_for (t : Tg) (ik : ItK) (x y : Xp) (b : St) : evS sub cl (.for_ t ik x y b) = M.bind (evIt ik (evE cl x) (evE cl y)) fun it => itemsM it fun xs => forL (bindT t) (evS sub cl b) xs := rfl
theorem ps_whl (t : Xp) (b : St) : evS sub cl (.whl t b) = whlC (tst (evE cl t)) (evS sub cl b) := rfl
end
section
variable (cl : Calls) (ρ : Env) (fa fb fc : M R) (fs : M (List AR))
@[simp] theorem pc_var (i : Nat) : varM i ρ = (match ρ[i]? with
  | some (some (.val d)) => some (.ok (.val d) ρ)
  | some (some (.own _ _)) => some (.ok (.loc i) ρ)
  | _ => none) := rfl
@[simp] theorem pc_op2 (op : D → D → Option RV) : op2 fa fb op = M.bind fa fun x => M.bind fb fun y => M.bind (rdM x) fun p => M.bind (rdM y) fun q => M.of ((op p q).map RV.r) := rfl
@[simp] theorem pc_neg : negM fa = M.bind fa fun x => M.bind (rdM x) fun p => (match p with
  | .int i => M.pure (.val (.int (-i)))
  | _ => M.stuck) := rfl
@[simp] theorem pc_not : Itp.notM fa = M.bind fa fun x => M.bind (rdM x) fun p => M.pure (.val (.bl (!p.tru))) := rfl
@[simp] theorem pc_and : Itp.andM fa fb = M.bind fa fun x => M.bind (rdM x) fun p => if p.tru then fb else M.pure x := rfl
@[simp] theorem pc_or : Itp.orM fa fb = M.bind fa fun x => M.bind (rdM x) fun p => if p.tru then M.pure x else fb := rfl
@[simp] theorem pc_chn (o o' : COp) : chnM fa fb fc o o' = M.bind fa fun x => M.bind fb fun y => M.bind (rdM x) fun p => M.bind (rdM y) fun q => M.bind (M.of (cmpD o p q)) fun t =>
  if t then M.bind fc fun z => M.bind (rdM y) fun q' => M.bind (rdM z) fun r => M.of ((cmpR o' q' r).map RV.r) else M.pure (.val (.bl false)) := rfl
@[simp] theorem pc_if (ft : M Bool) : ifM ft fa fb = M.bind ft fun c => if c then fa else fb := rfl
@[simp] theorem pc_tup : tupM fs = M.bind fs fun as => M.bind (M.of (ARs.dat as)) fun ds => if ds.length ≤ lim then M.pure (.val (.tup ds)) else M.stuck := rfl
@[simp] theorem pc_lst : lstM fs = M.bind fs fun as => M.bind (M.of (ARs.dat as)) fun ds => if ds.length ≤ lim then M.pure (.own (.lst ds)) else M.stuck := rfl
@[simp] theorem pc_sl (fl fh : M (Option Int)) : slM fa fl fh = M.bind fa fun x => M.bind fl fun l => M.bind fh fun h => M.bind (rdM x) fun p => M.of ((slD p l h).map RV.r) := rfl
@[simp] theorem pc_opA (op : List D → Option RV) : opA fs op = M.bind fs fun as => fun ρ => (match (ARs.rd ρ as).bind op with
  | some r => some (.ok r.r ρ)
  | none => none) := rfl
@[simp] theorem pc_isi (t : Ty) : isiM fa t = M.bind fa fun x => M.bind (rdM x) fun p => M.pure (.val (.bl (tyD t p))) := rfl
@[simp] theorem pc_cons (fr : M (List AR)) : consA fa fr = M.bind fa fun x => M.bind (M.of x.ar) fun r => M.bind fr fun rs => M.pure (r :: rs) := rfl
@[simp] theorem pc_consP (fr : M (List R)) : consP fa fr = M.bind fa fun r => M.bind fr fun rs => M.pure (r :: rs) := rfl
@[simp] theorem pc_call (f : Nat) : callX cl f fs = M.bind fs fun as => callM cl f as := rfl
@[simp] theorem pc_tst : tst fa = M.bind fa fun x => M.bind (rdM x) fun p => M.pure p.tru := rfl
@[simp] theorem pc_dat : datM fa = M.bind fa fun r => M.of r.dat := rfl
@[simp] theorem pc_rd (r : R) : rdM r ρ = (r.rd ρ).map fun d => .ok d ρ := rfl
@[simp] theorem pc_rdv (d : D) : R.rd ρ (.val d) = some d := rfl
@[simp] theorem pc_rdo (o : Ob) : R.rd ρ (.own o) = o.toD := rfl
@[simp] theorem pc_rdl (i : Nat) : R.rd ρ (.loc i) = (slotOb ρ i).bind fun p => p.2.toD := rfl
@[simp] theorem pc_slot (i : Nat) : slotOb ρ i = (match ρ[i]? with
  | some (some (.own io o)) => some (io, o)
  | _ => none) := rfl
@[simp] theorem pc_toD (xs : List D) : Ob.toD (.lst xs) = some (.lst xs) := rfl
end
end Itp
end
section
set_option autoImplicit false
set_option linter.all false
/-! Rules for the small language's loops. -/
namespace Itp
@[simp] theorem pf_call (sb : Nat → Nat → Bool) (cl : Calls) (f : FnD) (vs : List SV) : callF sb cl f vs = if fitA f.io vs then endF f.io (evS sb cl f.body (vs.map some ++ List.replicate (f.ns - vs.length) none)) else none := rfl
/-- the signs of a text, each as a text -/
def sgs (s : List Nat) : List D := s.map fun c => .str [c]
@[simp] theorem sgs_len (s : List Nat) : (sgs s).length = s.length := by simp [sgs]
@[simp] theorem sgs_nil : sgs [] = [] := rfl
@[simp] theorem sgs_cons (c : Nat) (s : List Nat) : sgs (c :: s) = .str [c] :: sgs s := rfl
@[simp] theorem pd_ls (s : List Nat) : listD (.str s) = some (sgs s) := rfl
@[simp] theorem pd_lt (s : List D) : listD (.tup s) = some s := rfl
@[simp] theorem pd_ll (s : List D) : listD (.lst s) = some s := rfl
@[simp] theorem pi_s (ρ : Env) (s : List Nat) : itmOf ρ (.val (.str s)) = some (.items (sgs s)) := rfl
@[simp] theorem pi_t (ρ : Env) (s : List D) : itmOf ρ (.val (.tup s)) = some (.items s) := rfl
@[simp] theorem pi_l (ρ : Env) (s : List D) : itmOf ρ (.val (.lst s)) = some (.items s) := rfl
@[simp] theorem pi_it {α : Type} (xs : List D) (f : List D → M α) : itemsM (.items xs) f = f xs := rfl
@[simp] theorem qv_ii (i j : Int) : D.eqv (.int i) (.int j) = decide (i = j) := by rw [Bool.eq_iff_iff]; simp [D.eqv]
@[simp] theorem qv_ss (a b : List Nat) : D.eqv (.str a) (.str b) = decide (a = b) := by rw [Bool.eq_iff_iff]; simp [D.eqv]
@[simp] theorem qv_bb (a b : Bool) : D.eqv (.bl a) (.bl b) = (a == b) := by simp [D.eqv]
@[simp] theorem qv_nn : D.eqv .non .non = true := by simp [D.eqv]
@[simp] theorem qv_ns (b : List Nat) : D.eqv .non (.str b) = false := by simp [D.eqv]
@[simp] theorem qv_sn (b : List Nat) : D.eqv (.str b) .non = false := by simp [D.eqv]
@[simp] theorem qv_bs (a : Bool) (b : List Nat) : D.eqv (.bl a) (.str b) = false := by simp [D.eqv]
@[simp] theorem qv_sb (a : Bool) (b : List Nat) : D.eqv (.str b) (.bl a) = false := by simp [D.eqv]
@[simp] theorem qv_si (a : List Nat) (j : Int) : D.eqv (.str a) (.int j) = false := by simp [D.eqv]
@[simp] theorem qv_is (a : List Nat) (j : Int) : D.eqv (.int j) (.str a) = false := by simp [D.eqv]
@[simp] theorem qv_ts (a : List D) (j : List Nat) : D.eqv (.tup a) (.str j) = false := by simp [D.eqv]
@[simp] theorem qv_st (a : List D) (j : List Nat) : D.eqv (.str j) (.tup a) = false := by simp [D.eqv]
@[simp] theorem qv_ls (a : List D) (j : List Nat) : D.eqv (.lst a) (.str j) = false := by simp [D.eqv]
@[simp] theorem qv_sl (a : List D) (j : List Nat) : D.eqv (.str j) (.lst a) = false := by simp [D.eqv]
@[simp] theorem qv_tn (a : List D) : D.eqv (.tup a) .non = false := by simp [D.eqv]
@[simp] theorem qv_nt (a : List D) : D.eqv .non (.tup a) = false := by simp [D.eqv]
@[simp] theorem qv_tt (a b : List D) : D.eqv (.tup a) (.tup b) = D.eqvs a b := by simp [D.eqv]
@[simp] theorem qv_ll (a b : List D) : D.eqv (.lst a) (.lst b) = D.eqvs a b := by simp [D.eqv]
@[simp] theorem qs_nn : D.eqvs [] [] = true := by simp [D.eqvs]
@[simp] theorem qs_cc (x y : D) (xs ys : List D) : D.eqvs (x :: xs) (y :: ys) = (D.eqv x y && D.eqvs xs ys) := by simp [D.eqvs]
@[simp] theorem qs_cn (x : D) (xs : List D) : D.eqvs (x :: xs) [] = false := by simp [D.eqvs]
@[simp] theorem qs_nc (x : D) (xs : List D) : D.eqvs [] (x :: xs) = false := by simp [D.eqvs]
@[simp] theorem dp_n : D.dep .non = 0 := by simp [D.dep]
@[simp] theorem dp_b (b : Bool) : D.dep (.bl b) = 0 := by simp [D.dep]
@[simp] theorem dp_i (b : Int) : D.dep (.int b) = 0 := by simp [D.dep]
@[simp] theorem dp_s (b : List Nat) : D.dep (.str b) = 0 := by simp [D.dep]
@[simp] theorem dp_t (b : List D) : D.dep (.tup b) = D.deps b + 1 := by simp [D.dep]
@[simp] theorem dp_l (b : List D) : D.dep (.lst b) = D.deps b + 1 := by simp [D.dep]
@[simp] theorem ds_n : D.deps [] = 0 := by simp [D.deps]
@[simp] theorem ds_c (x : D) (b : List D) : D.deps (x :: b) = max (D.dep x) (D.deps b) := by simp [D.deps]
theorem eqD_q (a b : D) : eqD a b = if min a.dep b.dep ≤ 64 then some (a.eqv b) else none := rfl
@[simp] theorem lm_1 : (1 ≤ lim) = True := by simp [lim]
@[simp] theorem lm_2 : (2 ≤ lim) = True := by simp [lim]
@[simp] theorem lm_3 : (3 ≤ lim) = True := by simp [lim]
@[simp] theorem lm_4 : (4 ≤ lim) = True := by simp [lim]
@[simp] theorem lm_5 : (5 ≤ lim) = True := by simp [lim]
@[simp] theorem lm_6 : (6 ≤ lim) = True := by simp [lim]
@[simp] theorem lm_7 : (7 ≤ lim) = True := by simp [lim]
@[simp] theorem lm_8 : (8 ≤ lim) = True := by simp [lim]
@[simp] theorem lm_9 : (9 ≤ lim) = True := by simp [lim]
@[simp] theorem lm_10 : (10 ≤ lim) = True := by simp [lim]
@[simp] theorem lm_11 : (11 ≤ lim) = True := by simp [lim]
@[simp] theorem lm_12 : (12 ≤ lim) = True := by simp [lim]
@[simp] theorem lm_13 : (13 ≤ lim) = True := by simp [lim]
@[simp] theorem lm_14 : (14 ≤ lim) = True := by simp [lim]
@[simp] theorem lm_15 : (15 ≤ lim) = True := by simp [lim]
@[simp] theorem lm_16 : (16 ≤ lim) = True := by simp [lim]
@[simp] theorem lm_17 : (17 ≤ lim) = True := by simp [lim]
@[simp] theorem lm_18 : (18 ≤ lim) = True := by simp [lim]
@[simp] theorem lm_19 : (19 ≤ lim) = True := by simp [lim]
@[simp] theorem lm_20 : (20 ≤ lim) = True := by simp [lim]
@[simp] theorem lm_21 : (21 ≤ lim) = True := by simp [lim]
@[simp] theorem lm_lt : (0 < lim) = True := by simp [lim]
theorem set_same {ρ : Env} {j : Nat} {v : Option SV} (h : ρ[j]? = some v) : ρ.set j v = ρ := by
  refine List.ext_getElem? fun i => ?_
  by_cases e : j = i
  · subst e
    rw [List.getElem?_set_self (List.getElem?_eq_some_iff.mp h).1, h]
  · rw [List.getElem?_set_ne e]
/-- a comprehension whose items come one by one, the environment as J says behind each -/
theorem lcL_inv {own : List Nat} {bt : D → M Unit} {fc : M Bool} {fe : M D} (J : Env → Prop) (R : D → Option D → Prop) (P : D → Prop)
    (turn : ∀ (x : D) (ρ : Env), P x → J ρ → ∃ ρ1 ρ2, bt x (wipeE ρ own) = some (.ok () ρ1) ∧ ((fc ρ1 = some (.ok false ρ2) ∧ J ρ2 ∧ R x none) ∨ ∃ ρ3 d, fc ρ1 = some (.ok true ρ2) ∧ fe ρ2 = some (.ok d ρ3) ∧ J ρ3 ∧ R x (some d))) :
    ∀ (xs : List D) (acc : List D) (ρ : Env), (∀ x ∈ xs, P x) → J ρ → acc.length + xs.length ≤ lim → ∃ (ys : List (Option D)) (ρ' : Env), J ρ' ∧ ys.length = xs.length ∧ (∀ (i : Nat) (x : D), xs[i]? = some x → ∃ y, ys[i]? = some y ∧ R x y) ∧
      lcL own bt fc fe acc xs ρ = some (.ok (acc ++ ys.filterMap id) (wipeE ρ' own))
  | [], acc, ρ, _, hJ, _ => ⟨[], ρ, hJ, rfl, fun i x e => by simp at e, by simp [lcL, wipeM]⟩
  | x :: xs, acc, ρ, hP, hJ, hl => by
    rw [List.length_cons] at hl
    obtain ⟨ρ1, ρ2, e1, h⟩ := turn x ρ (hP x (by simp)) hJ
    rcases h with ⟨e2, J2, r⟩ | ⟨ρ3, d, e2, e3, J3, r⟩
    · obtain ⟨ys, ρ', hJ', ly, hR, e⟩ := lcL_inv J R P turn xs acc ρ2 (fun z hz => hP z (by simp [hz])) J2 (by omega)
      refine ⟨none :: ys, ρ', hJ', by simp [ly], fun i z ez => ?_, ?_⟩
      · cases i with
        | zero => cases ez; exact ⟨none, rfl, r⟩
        | succ i => exact hR i z ez
      · simp [lcL, wipeM, e1, e2, e]
    · obtain ⟨ys, ρ', hJ', ly, hR, e⟩ := lcL_inv J R P turn xs (acc ++ [d]) ρ3 (fun z hz => hP z (by simp [hz])) J3 (by rw [List.length_append, List.length_singleton]; omega)
      refine ⟨some d :: ys, ρ', hJ', by simp [ly], fun i z ez => ?_, ?_⟩
      · cases i with
        | zero => cases ez; exact ⟨some d, rfl, r⟩
        | succ i => exact hR i z ez
      · have hlt : acc.length < lim := by omega
        simp [lcL, wipeM, e1, e2, e3, e, hlt]
theorem lc_eval {cl : Calls} {elt a b cond : Xp} {t : Tg} {ik : ItK} {own : List Nat} {ρ ρ1 ρ' : Env} {xs ds : List D} (hi : evIt ik (evE cl a) (evE cl b) ρ = some (.ok (.items xs) ρ1))
    (hl : lcL own (bindT t) (tst (evE cl cond)) (datM (evE cl elt)) [] xs (wipeE ρ1 own) = some (.ok ds ρ')) : evE cl (.lc elt t ik a b cond own) ρ = some (.ok (.own (.lst ds)) (restE ρ1 ρ' own)) := by
  show lcX (evIt ik (evE cl a) (evE cl b)) own t (tst (evE cl cond)) (evE cl elt) ρ = _
  have h2 : lcM own (lcL own (bindT t) (tst (evE cl cond)) (datM (evE cl elt)) [] xs) ρ1 = some (.ok ds (restE ρ1 ρ' own)) := by
    unfold lcM
    rw [hl]
  unfold lcX
  rw [pl_bind, hi]
  show M.bind (lcM own (lcL own (bindT t) (tst (evE cl cond)) (datM (evE cl elt)) [] xs)) (fun ds => M.pure (R.own (Ob.lst ds))) ρ1 = _
  rw [pl_bind, h2]
  rfl
/-- [elt for x in xs if cond], elt and cond pure; no slot of the names' own is in use -/
theorem lc_fm {cl : Calls} {elt a b cond : Xp} {t : Tg} {ik : ItK} {own : List Nat} {ρ : Env} {xs : List D} {g : D → Option D} (w0 : wipeE ρ own = ρ) (hr : restE ρ ρ own = ρ) (hi : evIt ik (evE cl a) (evE cl b) ρ = some (.ok (.items xs) ρ))
    (he : ∀ x ∈ xs, ∃ ρ1, bindT t x ρ = some (.ok () ρ1) ∧ wipeE ρ1 own = ρ ∧ ((tst (evE cl cond) ρ1 = some (.ok false ρ1) ∧ g x = none) ∨ ∃ d, tst (evE cl cond) ρ1 = some (.ok true ρ1) ∧ datM (evE cl elt) ρ1 = some (.ok d ρ1) ∧ g x = some d)) (hz : xs.length ≤ lim) :
    evE cl (.lc elt t ik a b cond own) ρ = some (.ok (.own (.lst (xs.filterMap g))) ρ) := by
  generalize hgf : tst (evE cl cond) = ft at he
  generalize hge : datM (evE cl elt) = fe at he
  have loop : ∀ (ys acc : List D) (ρ' : Env), (∀ x ∈ ys, x ∈ xs) → wipeE ρ' own = ρ → acc.length + ys.length ≤ lim → lcL own (bindT t) ft fe acc ys ρ' = some (.ok (acc ++ ys.filterMap g) ρ) := by
    intro ys
    induction ys with
    | nil => intro acc ρ' _ hw _; simp [lcL, wipeM, hw]
    | cons y ys ih =>
      intro acc ρ' hm hw hl
      rw [List.length_cons] at hl
      have hlt : acc.length < lim := by omega
      obtain ⟨ρ1, hb, hw1, h⟩ := he y (hm y (by simp))
      rw [lcL]
      rcases h with ⟨h1, h2⟩ | ⟨d, h1, h2, h3⟩
      · have := ih acc ρ1 (fun x hx => hm x (by simp [hx])) hw1 (by omega)
        simp [pl_bind, wipeM, hw, hb, h1, h2, this]
      · have := ih (acc ++ [d]) ρ1 (fun x hx => hm x (by simp [hx])) hw1 (by rw [List.length_append, List.length_singleton]; omega)
        simp [pl_bind, wipeM, hw, hb, h1, h2, h3, this, hlt]
  have e := lc_eval (elt := elt) (t := t) (cond := cond) (own := own) hi (by rw [w0, hgf, hge]; exact loop xs [] ρ (fun _ h => h) w0 (by simpa using hz))
  rw [e, hr, List.nil_append]
/-- [elt for x in xs], elt pure -/
theorem lc_map {cl : Calls} {elt a b : Xp} {ik : ItK} {j : Nat} {ρ : Env} {xs : List D} {g : D → D} (hj : ρ[j]? = some none) (hi : evIt ik (evE cl a) (evE cl b) ρ = some (.ok (.items xs) ρ))
    (he : ∀ x ∈ xs, datM (evE cl elt) (ρ.set j (some (.val x))) = some (.ok (g x) (ρ.set j (some (.val x))))) (hz : xs.length ≤ lim) :
    evE cl (.lc elt (.nm j) ik a b (.k (.bl true)) [j]) ρ = some (.ok (.own (.lst (xs.map g))) ρ) := by
  have w1 : wipeE ρ [j] = ρ := set_same hj
  have h := lc_fm (cl := cl) (elt := elt) (t := .nm j) (cond := .k (.bl true)) (own := [j]) (g := fun x => some (g x)) w1 (by
    show (match ρ[j]? with
      | some v => ρ.set j v
      | none => ρ) = ρ
    rw [hj]
    exact set_same hj) hi (fun x hx => ⟨ρ.set j (some (.val x)), by
      show setSlot j (.val x) ρ = _
      unfold setSlot
      rw [hj], by
      show (ρ.set j _).set j none = ρ
      rw [List.set_set]
      exact set_same hj, .inr ⟨g x, rfl, he x hx, rfl⟩⟩) hz
  rw [h]
  simp
theorem allBl_map (p : D → Bool) : ∀ xs : List D, allBl (xs.map fun x => .bl (p x)) = some (xs.all p)
  | [] => rfl
  | x :: xs => by simp [allBl, allBl_map p xs]
theorem seq_next {sub : Nat → Nat → Bool} {cl : Calls} {a b : St} {ρ ρ1 : Env} (h : evS sub cl a ρ = some (.ok .next ρ1)) : evS sub cl (.seq a b) ρ = evS sub cl b ρ1 := by
  rw [ps_seq, pl_bind, h]
theorem ev_rng1 {cl : Calls} {x y : Xp} {ρ ρ1 : Env} {z : Int} {r : R} (hx : evE cl x ρ = some (.ok r ρ1)) (hr : r.rd ρ1 = some (.int z)) (h : okRange z = true) : evIt .rng1 (evE cl x) (evE cl y) ρ = some (.ok (.items (rangeD 0 z)) ρ1) := by
  show M.bind (evE cl x) (fun x => M.bind (rdM x) fun p => M.of (rng1D p)) ρ = _
  simp [hx, hr, rng1D, h]
theorem for_ev {sub : Nat → Nat → Bool} {cl : Calls} {t : Tg} {ik : ItK} {x y : Xp} {b : St} {ρ ρ1 : Env} {xs : List D} {r : Option (Rs Fl)} (h : evIt ik (evE cl x) (evE cl y) ρ = some (.ok (.items xs) ρ1)) (e : forL (bindT t) (evS sub cl b) xs ρ1 = r) : evS sub cl (.for_ t ik x y b) ρ = r := by
  rw [ps_for, pl_bind, h]
  exact e
theorem forL_rule {bt : D → M Unit} {b : M Fl} (J : List D → Env → Prop) (Q : Fl → Env → Prop) (h0 : ∀ ρ, J [] ρ → Q .next ρ)
    (h1 : ∀ x xs ρ, J (x :: xs) ρ → ∃ ρ1, bt x ρ = some (.ok () ρ1) ∧ ∃ f ρ2, b ρ1 = some (.ok f ρ2) ∧ (match f with
      | .next => J xs ρ2
      | .cont => J xs ρ2
      | .brk => Q .next ρ2
      | .ret r => Q (.ret r) ρ2)) : ∀ (xs : List D) (ρ : Env), J xs ρ → ∃ f ρ', forL bt b xs ρ = some (.ok f ρ') ∧ Q f ρ'
  | [], ρ, h => ⟨.next, ρ, rfl, h0 ρ h⟩
  | x :: xs, ρ, h => by
    obtain ⟨ρ1, e1, f, ρ2, e2, h2⟩ := h1 x xs ρ h
    rw [forL]
    cases f with
    | next =>
      obtain ⟨f, ρ', e, q⟩ := forL_rule J Q h0 h1 xs ρ2 h2
      exact ⟨f, ρ', by simp [e1, e2, e], q⟩
    | cont =>
      obtain ⟨f, ρ', e, q⟩ := forL_rule J Q h0 h1 xs ρ2 h2
      exact ⟨f, ρ', by simp [e1, e2, e], q⟩
    | brk => exact ⟨_, ρ2, by simp [e1, e2], h2⟩
    | ret r => exact ⟨_, ρ2, by simp [e1, e2], h2⟩
/-- a name's slot that holds data or nothing -/
def Soft (v : Option SV) : Prop := v = none ∨ ∃ d, v = some (.val d)
theorem Soft.none : Soft none := .inl rfl
theorem Soft.val (d : D) : Soft (some (.val d)) := .inr ⟨d, rfl⟩
/-- the first item that hands back -/
def firstRet (f : D → Fl) : List D → Fl
  | [] => .next
  | x :: xs => match f x with
    | .next => firstRet f xs
    | .cont => firstRet f xs
    | .brk => .next
    | .ret r => .ret r
theorem forL_find {bt : D → M Unit} {b : M Fl} (J : Env → Prop) (f : D → Fl) : ∀ (xs : List D), (∀ x ∈ xs, ∀ ρ, J ρ → ∃ ρ1, J ρ1 ∧ bt x ρ = some (.ok () ρ1) ∧ b ρ1 = some (.ok (f x) ρ1)) → ∀ ρ, J ρ → ∃ ρ', J ρ' ∧ forL bt b xs ρ = some (.ok (firstRet f xs) ρ')
  | [], _, ρ, hJ => ⟨ρ, hJ, rfl⟩
  | x :: xs, h, ρ, hJ => by
    obtain ⟨ρ1, J1, e1, e2⟩ := h x (by simp) ρ hJ
    obtain ⟨ρ', J', e⟩ := forL_find J f xs (fun y hy => h y (by simp [hy])) ρ1 J1
    rw [forL, firstRet]
    cases hf : f x with
    | next => exact ⟨ρ', J', by simp [e1, e2, hf, e]⟩
    | cont => exact ⟨ρ', J', by simp [e1, e2, hf, e]⟩
    | brk => exact ⟨ρ1, J1, by simp [e1, e2, hf]⟩
    | ret r => exact ⟨ρ1, J1, by simp [e1, e2, hf]⟩
theorem forL_fold {σ : Type} {bt : D → M Unit} {b : M Fl} (J : σ → Env → Prop) (f : σ → D → σ) : ∀ (xs : List D) (s : σ), (∀ x ∈ xs, ∀ s ρ, J s ρ → ∃ ρ1, bt x ρ = some (.ok () ρ1) ∧ ∃ ρ2, b ρ1 = some (.ok .next ρ2) ∧ J (f s x) ρ2) → ∀ ρ, J s ρ → ∃ ρ', J (xs.foldl f s) ρ' ∧ forL bt b xs ρ = some (.ok .next ρ')
  | [], s, _, ρ, hJ => ⟨ρ, hJ, rfl⟩
  | x :: xs, s, h, ρ, hJ => by
    obtain ⟨ρ1, e1, ρ2, e2, J2⟩ := h x (by simp) s ρ hJ
    obtain ⟨ρ', J', e⟩ := forL_fold J f xs (f s x) (fun y hy => h y (by simp [hy])) ρ2 J2
    rw [forL]
    exact ⟨ρ', J', by simp [e1, e2, e]⟩
/-- a loop with what holds between the turns, the rest in sight -/
theorem forL_inv {bt : D → M Unit} {b : M Fl} (J : List D → Env → Prop) : ∀ (xs : List D), (∀ x r ρ, J (x :: r) ρ → ∃ ρ1, bt x ρ = some (.ok () ρ1) ∧ ∃ ρ2, (b ρ1 = some (.ok .next ρ2) ∨ b ρ1 = some (.ok .cont ρ2)) ∧ J r ρ2) → ∀ ρ, J xs ρ → ∃ ρ', J [] ρ' ∧ forL bt b xs ρ = some (.ok .next ρ')
  | [], _, ρ, hJ => ⟨ρ, hJ, rfl⟩
  | x :: xs, h, ρ, hJ => by
    obtain ⟨ρ1, e1, ρ2, e2, J2⟩ := h x xs ρ hJ
    obtain ⟨ρ', J', e⟩ := forL_inv J xs h ρ2 J2
    rw [forL]
    rcases e2 with e2 | e2 <;> exact ⟨ρ', J', by simp [e1, e2, e]⟩
end Itp
end
section
set_option autoImplicit false
set_option linter.all false
set_option maxRecDepth 100000
/-! What the looks of the module formatters tell, of any value. -/
namespace G
open Itp
/-- a truth value handed back -/
abbrev rB (b : Bool) : Option FOut := some (.ret (.val (.bl b)) [])
abbrev rV (d : Itp.D) : Option FOut := some (.ret (.val d) [])
abbrev rX (c : Nat) : Option FOut := some (.ex ⟨c, none⟩ [])
def isIntB (v : Itp.D) (lo hi : Int) : Bool := match v with
  | .int i => decide (lo ≤ i) && decide (i ≤ hi)
  | _ => false
theorem r_is_integer (k : Nat) (v : Itp.D) (lo hi : Int) : run sub Tb (k + 1) i_is_integer [.val v, .val (.int lo), .val (.int hi)] = rB (isIntB v lo hi) := by
  rw [u_is_integer]
  cases v with
  | int i => by_cases h : lo ≤ i <;> simp [d_is_integer, b_is_integer, fitA, frzE, D.tru, retM, endF, ioOf, cmpD, cmpR, RV.r, R.ar, R.dat, ARs.rd, AR.rd, ARs.dat, biD, bi1, intD, lenD, seqD, lstD, ixD, atD, binD, stoM, setSlot, Ob.toD, tyD, h, isIntB]
  | _ => simp [d_is_integer, b_is_integer, fitA, frzE, D.tru, retM, endF, ioOf, cmpD, cmpR, RV.r, R.ar, R.dat, ARs.rd, AR.rd, ARs.dat, biD, bi1, intD, lenD, seqD, lstD, ixD, atD, binD, stoM, setSlot, Ob.toD, tyD, isIntB]
def isWideB (v : Itp.D) (lo hi : Int) : Bool := match v with
  | .tup xs => decide (lo ≤ xs.length) && decide ((xs.length : Int) ≤ hi)
  | _ => false
theorem r_is_wide (k : Nat) (v : Itp.D) (lo hi : Int) : run sub Tb (k + 1) i_is_wide [.val v, .val (.int lo), .val (.int hi)] = rB (isWideB v lo hi) := by
  rw [u_is_wide]
  cases v with
  | tup xs => by_cases h : lo ≤ xs.length <;> simp [d_is_wide, b_is_wide, fitA, frzE, D.tru, retM, endF, ioOf, cmpD, cmpR, RV.r, R.ar, R.dat, ARs.rd, AR.rd, ARs.dat, biD, bi1, intD, lenD, seqD, lstD, ixD, atD, binD, stoM, setSlot, Ob.toD, tyD, h, isWideB]
  | _ => simp [d_is_wide, b_is_wide, fitA, frzE, D.tru, retM, endF, ioOf, cmpD, cmpR, RV.r, R.ar, R.dat, ARs.rd, AR.rd, ARs.dat, biD, bi1, intD, lenD, seqD, lstD, ixD, atD, binD, stoM, setSlot, Ob.toD, tyD, isWideB]
/-- the lesser one, if they can be compared -/
def ltB (a b : Itp.D) : Bool := (cmpD .lt a b).getD false
def risB : List Itp.D → Bool
  | [] => true
  | a :: r => match r with
    | [] => true
    | b :: _ => ltB a b && risB r
/-- neighbours can be compared -/
def Nbs (xs : List Itp.D) : Prop := ∀ (i : Nat) (a b : Itp.D), xs[i]? = some a → xs[i + 1]? = some b → (cmpD .lt a b).isSome = true
theorem risB_range : ∀ xs : List Itp.D, risB xs = (List.range (xs.length - 1)).all fun i => ltB (xs.getD i .non) (xs.getD (i + 1) .non)
  | [] => rfl
  | [a] => rfl
  | a :: b :: r => by
    have h := risB_range (b :: r)
    show (ltB a b && risB (b :: r)) = _
    rw [h]
    show _ = (List.range (r.length + 1)).all _
    rw [List.range_succ_eq_map]
    simp [List.all_map]
    rfl
theorem r_is_rising (k : Nat) (xs : List Itp.D) (hl : xs.length ≤ lim) (h : Nbs xs) : run sub Tb (k + 1) i_is_rising [.val (.lst xs)] = rB (risB xs) := by
  rw [u_is_rising]
  have hlim : lim = 16777216 := rfl
  have ok : okRange ((xs.length : Int) - 1) = true := by unfold okRange; simp; omega
  have hlc := lc_map (cl := run sub Tb k) (elt := .cmp .lt (.ix (.v 0) (.v 1)) (.ix (.v 0) (.bin .add (.v 1) (.k (.int 1))))) (a := .bin .sub (.bi .len (.acons (.v 0) .anil)) (.k (.int 1))) (b := .anil) (ik := .rng1) (j := 1) (ρ := [some (.val (.lst xs)), none]) (xs := rangeD 0 ((xs.length : Int) - 1))
    (g := fun x => .bl (match x with
      | .int n => ltB (xs.getD n.toNat .non) (xs.getD (n.toNat + 1) .non)
      | _ => false)) rfl (by simp [evIt, rng1D, fitA, frzE, D.tru, retM, endF, ioOf, cmpD, cmpR, RV.r, R.ar, R.dat, ARs.rd, AR.rd, ARs.dat, biD, bi1, intD, lenD, seqD, lstD, ixD, atD, binD, stoM, setSlot, Ob.toD, tyD, ok]) (fun x hx => by
      unfold rangeD at hx
      obtain ⟨n, hn, rfl⟩ := List.mem_map.mp hx
      rw [List.mem_range] at hn
      have h0 : n < xs.length := by omega
      have h1 : n + 1 < xs.length := by omega
      have hh := h n xs[n] xs[n + 1] (List.getElem?_eq_getElem h0) (List.getElem?_eq_getElem h1)
      have hn' : (n : Int) + 1 < xs.length := by omega
      have h0' : (n : Int) < xs.length := by omega
      have p0 : (0 : Int) ≤ n + 1 := by omega
      have t1 : ((n : Int) + 1).toNat = n + 1 := by omega
      obtain ⟨b, hb⟩ := Option.isSome_iff_exists.mp hh
      have e0 : xs.getD n .non = xs[n] := by simp [h0]
      have e1 : xs.getD (n + 1) .non = xs[n + 1] := by simp [h1]
      have e2 : ltB xs[n] xs[n + 1] = b := by unfold ltB; rw [hb]; rfl
      simp [ixD, atD, natOf, binD, RV.r, R.dat, cmpR, hb, h0', hn', p0, t1, h0, h1, e2]) (by simp [rangeD]; omega)
  have e3 : (List.map (fun x => Itp.D.bl (match x with
      | .int n => ltB (xs.getD n.toNat .non) (xs.getD (n.toNat + 1) .non)
      | _ => false)) (rangeD 0 ((xs.length : Int) - 1))) = ((rangeD 0 ((xs.length : Int) - 1)).map fun x => .bl (match x with
      | .int n => ltB (xs.getD n.toNat .non) (xs.getD (n.toNat + 1) .non)
      | _ => false)) := rfl
  have e4 : (rangeD 0 ((xs.length : Int) - 1)).all (fun x => match x with
      | .int n => ltB (xs.getD n.toNat .non) (xs.getD (n.toNat + 1) .non)
      | _ => false) = risB xs := by
    rw [risB_range]
    unfold rangeD
    rw [List.all_map]
    have : ((xs.length : Int) - 1 - 0).toNat = xs.length - 1 := by omega
    rw [this]
    congr 1
    funext i
    simp
  simp only [d_is_rising, b_is_rising, q_is_rising_1, pf_call, fitA, frzE, D.tru, retM, endF, ioOf, cmpD, cmpR, RV.r, R.ar, R.dat, ARs.rd, AR.rd, ARs.dat, biD, bi1, intD, lenD, seqD, lstD, ixD, atD, binD, stoM, setSlot, Ob.toD, tyD, if_true, List.map, List.length_cons, List.length_nil, List.replicate, List.append, ps_seq, ps_ret, pl_bind, pl_bi, pc_opA, pl_acons, pl_anil, pc_cons, pl_pure, hlc, List.cons_append, List.nil_append, pl_of_some, allBl_map, e4, Option.bind, Option.map]

end G
end
section
set_option autoImplicit false
set_option linter.all false
set_option maxRecDepth 100000
namespace G
open Itp
theorem nbs_sgs (s : List Nat) : Nbs (sgs s) := fun i a b ha hb => by
  unfold sgs at ha hb
  rw [List.getElem?_map] at ha hb
  obtain ⟨x, _, rfl⟩ := Option.map_eq_some_iff.mp ha
  obtain ⟨y, _, rfl⟩ := Option.map_eq_some_iff.mp hb
  rfl
def areSignsB (v : Itp.D) : Bool := match v with
  | .str s => decide (1 ≤ s.length) && decide (s.length ≤ 3) && s.all (fun c => decide (c ∈ z_SIGNS)) && risB (sgs s)
  | _ => false
def inB (s : List Nat) (x : Itp.D) : Bool := match x with
  | .str [c] => decide (c ∈ s)
  | _ => false
theorem all_inB (s v : List Nat) : (sgs v).all (inB s) = v.all fun c => decide (c ∈ s) := by
  unfold sgs
  rw [List.all_map]
  rfl
theorem r_are_signs (k : Nat) (v : Itp.D) : run sub Tb (k + 2) i_are_signs [.val v] = rB (areSignsB v) := by
  rw [u_are_signs]
  cases v with
  | str s =>
    by_cases h1 : (1 : Int) ≤ s.length
    · by_cases h3 : (s.length : Int) ≤ 3
      · have hlim : lim = 16777216 := rfl
        have n1 : 1 ≤ s.length := by omega
        have n3 : s.length ≤ 3 := by omega
        have hlc := lc_map (cl := run sub Tb (k + 1)) (elt := .cmp .mem (.v 1) (.g g_SIGNS (.str z_SIGNS))) (a := .v 0) (b := .anil) (ik := .over) (j := 1) (ρ := [some (.val (.str s)), none]) (xs := sgs s) (g := fun x => .bl (inB z_SIGNS x)) rfl
          (by simp [evIt, R.ar]) (fun x hx => by
            obtain ⟨c, _, rfl⟩ := List.mem_map.mp hx
            simp [fitA, frzE, D.tru, retM, endF, ioOf, cmpD, cmpR, RV.r, R.ar, R.dat, ARs.rd, AR.rd, ARs.dat, biD, bi1, intD, lenD, seqD, lstD, ixD, atD, binD, stoM, setSlot, Ob.toD, tyD, memQ, sgn, inB]) (by simp; omega)
        have hr := r_is_rising k (sgs s) (by simp; omega) (nbs_sgs s)
        cases ha : s.all (fun c => decide (c ∈ z_SIGNS)) <;>
          simp [d_are_signs, b_are_signs, q_are_signs_1, fitA, frzE, D.tru, retM, endF, ioOf, cmpD, cmpR, RV.r, R.ar, R.dat, ARs.rd, AR.rd, ARs.dat, biD, bi1, intD, lenD, seqD, lstD, ixD, atD, binD, stoM, setSlot, Ob.toD, tyD, callM, locsA, giveA, backA, h1, h3, hlc, allBl_map, all_inB, areSignsB, ha, n1, n3, hr]
      · have n3 : ¬ s.length ≤ 3 := by omega
        simp [d_are_signs, b_are_signs, q_are_signs_1, fitA, frzE, D.tru, retM, endF, ioOf, cmpD, cmpR, RV.r, R.ar, R.dat, ARs.rd, AR.rd, ARs.dat, biD, bi1, intD, lenD, seqD, lstD, ixD, atD, binD, stoM, setSlot, Ob.toD, tyD, h1, h3, areSignsB, n3]
    · have n1 : ¬ 1 ≤ s.length := by omega
      simp [d_are_signs, b_are_signs, q_are_signs_1, fitA, frzE, D.tru, retM, endF, ioOf, cmpD, cmpR, RV.r, R.ar, R.dat, ARs.rd, AR.rd, ARs.dat, biD, bi1, intD, lenD, seqD, lstD, ixD, atD, binD, stoM, setSlot, Ob.toD, tyD, h1, areSignsB, n1]
  | _ => simp [d_are_signs, b_are_signs, q_are_signs_1, fitA, frzE, D.tru, retM, endF, ioOf, cmpD, cmpR, RV.r, R.ar, R.dat, ARs.rd, AR.rd, ARs.dat, biD, bi1, intD, lenD, seqD, lstD, ixD, atD, binD, stoM, setSlot, Ob.toD, tyD, areSignsB]
def isSignB (signs : List Nat) (v : Itp.D) : Bool := inB signs v
theorem r_is_sign (k : Nat) (signs : List Nat) (v : Itp.D) : run sub Tb (k + 1) i_is_sign [.val (.str signs), .val v] = rB (isSignB signs v) := by
  rw [u_is_sign]
  cases v with
  | str s => match s with
    | [] => simp [d_is_sign, b_is_sign, fitA, frzE, D.tru, retM, endF, ioOf, cmpD, cmpR, RV.r, R.ar, R.dat, ARs.rd, AR.rd, ARs.dat, biD, bi1, intD, lenD, seqD, lstD, ixD, atD, binD, stoM, setSlot, Ob.toD, tyD, isSignB, inB, eqD]
    | [c] => simp [d_is_sign, b_is_sign, fitA, frzE, D.tru, retM, endF, ioOf, cmpD, cmpR, RV.r, R.ar, R.dat, ARs.rd, AR.rd, ARs.dat, biD, bi1, intD, lenD, seqD, lstD, ixD, atD, binD, stoM, setSlot, Ob.toD, tyD, isSignB, inB, eqD, memQ, sgn]
    | _ :: _ :: r =>
      have : ¬ ((r.length : Int) + 1 + 1 = 1) := by omega
      simp [d_is_sign, b_is_sign, fitA, frzE, D.tru, retM, endF, ioOf, cmpD, cmpR, RV.r, R.ar, R.dat, ARs.rd, AR.rd, ARs.dat, biD, bi1, intD, lenD, seqD, lstD, ixD, atD, binD, stoM, setSlot, Ob.toD, tyD, isSignB, inB, eqD, this]
  | _ => simp [d_is_sign, b_is_sign, fitA, frzE, D.tru, retM, endF, ioOf, cmpD, cmpR, RV.r, R.ar, R.dat, ARs.rd, AR.rd, ARs.dat, biD, bi1, intD, lenD, seqD, lstD, ixD, atD, binD, stoM, setSlot, Ob.toD, tyD, isSignB, inB]
/-- a length within bounds -/
def lenB (n : Nat) (lo : Int) (hi : Option Int) : Bool := match hi with
  | some h => decide (lo ≤ n) && decide ((n : Int) ≤ h)
  | none => true
def oInt (hi : Option Int) : Itp.D := match hi with
  | some h => .int h
  | none => .non
def isStrB (signs : List Nat) (v : Itp.D) (lo : Int) (hi : Option Int) : Bool := match v with
  | .str s => lenB s.length lo hi && s.all (fun c => decide (c ∈ signs))
  | _ => false
theorem r_is_string' (k : Nat) (signs : List Nat) (v : Itp.D) (lo : Int) (hi : Option Int) (hz : ∀ s, v = .str s → hi = none → s.length ≤ lim) (hh : ∀ h, hi = some h → h ≤ 1000) : run sub Tb (k + 1) i_is_string [.val (.str signs), .val v, .val (.int lo), .val (oInt hi)] = rB (isStrB signs v lo hi) := by
  rw [u_is_string]
  have hlim : lim = 16777216 := rfl
  cases v with
  | str s =>
    have hlc (hz' : s.length ≤ lim) := lc_map (cl := run sub Tb k) (elt := .cmp .mem (.v 4) (.v 0)) (a := .v 1) (b := .anil) (ik := .over) (j := 4) (ρ := [some (.val (.str signs)), some (.val (.str s)), some (.val (.int lo)), some (.val (oInt hi)), none]) (xs := sgs s) (g := fun x => .bl (inB signs x)) rfl
          (by simp [evIt, R.ar]) (fun x hx => by
            obtain ⟨c, _, rfl⟩ := List.mem_map.mp hx
            simp [fitA, frzE, D.tru, retM, endF, ioOf, cmpD, cmpR, RV.r, R.ar, R.dat, ARs.rd, AR.rd, ARs.dat, biD, bi1, intD, lenD, seqD, lstD, ixD, atD, binD, stoM, setSlot, Ob.toD, tyD, memQ, sgn, inB]) (by simpa using hz')
    cases hi with
    | none =>
      have hlc := hlc (hz s rfl rfl)
      simp [oInt] at hlc
      simp [d_is_string, b_is_string, q_is_string_1, fitA, frzE, D.tru, retM, endF, ioOf, cmpD, cmpR, RV.r, R.ar, R.dat, ARs.rd, AR.rd, ARs.dat, biD, bi1, intD, lenD, seqD, lstD, ixD, atD, binD, stoM, setSlot, Ob.toD, tyD, isStrB, oInt, lenB, hlc, allBl_map, all_inB]
    | some h =>
      have := hh h rfl
      by_cases h1 : lo ≤ s.length
      · by_cases h2 : (s.length : Int) ≤ h
        · have hlc := hlc (by omega)
          simp [oInt] at hlc
          simp [d_is_string, b_is_string, q_is_string_1, fitA, frzE, D.tru, retM, endF, ioOf, cmpD, cmpR, RV.r, R.ar, R.dat, ARs.rd, AR.rd, ARs.dat, biD, bi1, intD, lenD, seqD, lstD, ixD, atD, binD, stoM, setSlot, Ob.toD, tyD, isStrB, oInt, lenB, hlc, allBl_map, all_inB, h1, h2]
        · simp [d_is_string, b_is_string, q_is_string_1, fitA, frzE, D.tru, retM, endF, ioOf, cmpD, cmpR, RV.r, R.ar, R.dat, ARs.rd, AR.rd, ARs.dat, biD, bi1, intD, lenD, seqD, lstD, ixD, atD, binD, stoM, setSlot, Ob.toD, tyD, isStrB, oInt, lenB, h1, h2]
      · simp [d_is_string, b_is_string, q_is_string_1, fitA, frzE, D.tru, retM, endF, ioOf, cmpD, cmpR, RV.r, R.ar, R.dat, ARs.rd, AR.rd, ARs.dat, biD, bi1, intD, lenD, seqD, lstD, ixD, atD, binD, stoM, setSlot, Ob.toD, tyD, isStrB, oInt, lenB, h1]
  | _ => simp [d_is_string, b_is_string, q_is_string_1, fitA, frzE, D.tru, retM, endF, ioOf, cmpD, cmpR, RV.r, R.ar, R.dat, ARs.rd, AR.rd, ARs.dat, biD, bi1, intD, lenD, seqD, lstD, ixD, atD, binD, stoM, setSlot, Ob.toD, tyD, isStrB, oInt]
theorem r_is_string (k : Nat) (signs : List Nat) (v : Itp.D) (lo h : Int) (hh : h ≤ 1000) : run sub Tb (k + 1) i_is_string [.val (.str signs), .val v, .val (.int lo), .val (.int h)] = rB (isStrB signs v lo (some h)) :=
  r_is_string' k signs v lo (some h) (fun _ _ z => nomatch z) (fun _ z => by cases z; exact hh)
theorem r_is_text (k : Nat) (signs : List Nat) (v : Itp.D) (lo : Int) (hz : ∀ s, v = .str s → s.length ≤ lim) : run sub Tb (k + 1) i_is_string [.val (.str signs), .val v, .val (.int lo), .val .non] = rB (isStrB signs v lo none) :=
  r_is_string' k signs v lo none (fun s z _ => hz s z) (fun _ z => nomatch z)
end G
end
section
set_option autoImplicit false
set_option linter.all false
set_option maxRecDepth 100000
namespace G
open Itp
def isMoveB (signs : List Nat) (v : Itp.D) : Bool := match v with
  | .tup [a, b, c, d] => isIntB a 0 3 && isSignB signs b && isIntB c 0 3 && isStrB signs d 0 (some 3)
  | _ => false
theorem len4 {α : Type} (xs : List α) (h : xs.length = 4) : ∃ a b c d, xs = [a, b, c, d] := by
  match xs, h with
  | [a, b, c, d], _ => exact ⟨a, b, c, d, rfl⟩
theorem len2 {α : Type} (xs : List α) (h : xs.length = 2) : ∃ a b, xs = [a, b] := by
  match xs, h with
  | [a, b], _ => exact ⟨a, b, rfl⟩
theorem len3 {α : Type} (xs : List α) (h : xs.length = 3) : ∃ a b c, xs = [a, b, c] := by
  match xs, h with
  | [a, b, c], _ => exact ⟨a, b, c, rfl⟩
theorem isWideB_eq (xs : List Itp.D) (n : Nat) : isWideB (.tup xs) n n = decide (xs.length = n) := by
  rw [Bool.eq_iff_iff]; simp [isWideB]; omega
theorem r_is_move (k : Nat) (signs : List Nat) (v : Itp.D) : run sub Tb (k + 2) i_is_move [.val (.str signs), .val v] = rB (isMoveB signs v) := by
  rw [u_is_move]
  by_cases hw : isWideB v 4 4 = true
  · cases v with
    | tup xs =>
      have h4 : xs.length = 4 := by
        have := isWideB_eq xs 4
        rw [show ((4 : Nat) : Int) = 4 from rfl, hw] at this
        simpa using this.symm
      obtain ⟨a, b, c, d, rfl⟩ := len4 xs h4
      cases h0 : isIntB a 0 3 <;> cases h1 : isSignB signs b <;> cases h2 : isIntB c 0 3 <;>
        simp [d_is_move, b_is_move, fitA, frzE, D.tru, retM, endF, ioOf, cmpD, cmpR, RV.r, R.ar, R.dat, ARs.rd, AR.rd, ARs.dat, biD, bi1, intD, lenD, seqD, lstD, ixD, atD, binD, stoM, setSlot, Ob.toD, tyD, callM, locsA, giveA, backA, natOf, r_is_wide, r_is_integer, r_is_sign, r_is_string, hw, isMoveB, h0, h1, h2]
    | _ => cases hw
  · have hw' : isWideB v 4 4 = false := by simpa using hw
    have : isMoveB signs v = false := by
      cases v with
      | tup xs =>
        unfold isMoveB
        split
        · rename_i e; cases e; simp [isWideB] at hw
        · rfl
      | _ => rfl
    simp [d_is_move, b_is_move, fitA, frzE, D.tru, retM, endF, ioOf, cmpD, cmpR, RV.r, R.ar, R.dat, ARs.rd, AR.rd, ARs.dat, biD, bi1, intD, lenD, seqD, lstD, ixD, atD, binD, stoM, setSlot, Ob.toD, tyD, callM, locsA, giveA, backA, r_is_wide, hw', this]
def isEndB (signs : List Nat) (v : Itp.D) : Bool := match v with
  | .tup [a, b] => isIntB a 0 3 && isStrB signs b 1 (some 3)
  | _ => false
theorem r_is_end (k : Nat) (signs : List Nat) (v : Itp.D) : run sub Tb (k + 2) i_is_end [.val (.str signs), .val v] = rB (isEndB signs v) := by
  rw [u_is_end]
  by_cases hw : isWideB v 2 2 = true
  · cases v with
    | tup xs =>
      have h4 : xs.length = 2 := by
        have := isWideB_eq xs 2
        rw [show ((2 : Nat) : Int) = 2 from rfl, hw] at this
        simpa using this.symm
      obtain ⟨a, b, rfl⟩ := len2 xs h4
      cases h0 : isIntB a 0 3 <;>
        simp [d_is_end, b_is_end, fitA, frzE, D.tru, retM, endF, ioOf, cmpD, cmpR, RV.r, R.ar, R.dat, ARs.rd, AR.rd, ARs.dat, biD, bi1, intD, lenD, seqD, lstD, ixD, atD, binD, stoM, setSlot, Ob.toD, tyD, callM, locsA, giveA, backA, natOf, r_is_wide, r_is_integer, r_is_string, hw, isEndB, h0]
    | _ => cases hw
  · have hw' : isWideB v 2 2 = false := by simpa using hw
    have : isEndB signs v = false := by
      cases v with
      | tup xs =>
        unfold isEndB
        split
        · rename_i e; cases e; simp [isWideB] at hw
        · rfl
      | _ => rfl
    simp [d_is_end, b_is_end, fitA, frzE, D.tru, retM, endF, ioOf, cmpD, cmpR, RV.r, R.ar, R.dat, ARs.rd, AR.rd, ARs.dat, biD, bi1, intD, lenD, seqD, lstD, ixD, atD, binD, stoM, setSlot, Ob.toD, tyD, callM, locsA, giveA, backA, r_is_wide, hw', this]
end G
end
section
set_option autoImplicit false
set_option linter.all false
set_option maxRecDepth 100000
namespace G
open Itp
def pre2 (v : Itp.D) : Itp.D := match v with
  | .tup (a :: b :: _) => .tup [a, b]
  | v => v
def pre1 (v : Itp.D) : Itp.D := match v with
  | .tup (a :: _) => .tup [a]
  | v => v
theorem isMoveB_form {signs : List Nat} {v : Itp.D} (h : isMoveB signs v = true) : ∃ (i j : Int) (c : Nat) (o : List Nat), v = .tup [.int i, .str [c], .int j, .str o] ∧ 0 ≤ i ∧ i ≤ 3 ∧ c ∈ signs ∧ 0 ≤ j ∧ j ≤ 3 ∧ o.length ≤ 3 ∧ ∀ x ∈ o, x ∈ signs := by
  unfold isMoveB at h
  split at h
  · rename_i a b c d
    simp only [Bool.and_eq_true] at h
    obtain ⟨⟨⟨h1, h2⟩, h3⟩, h4⟩ := h
    unfold isIntB at h1 h3
    unfold isSignB inB at h2
    unfold isStrB at h4
    split at h1 <;> try contradiction
    split at h2 <;> try contradiction
    split at h3 <;> try contradiction
    split at h4 <;> try contradiction
    simp [lenB] at h1 h2 h3 h4
    exact ⟨_, _, _, _, rfl, h1.1, h1.2, h2, h3.1, h3.2, by omega, h4.2⟩
  · contradiction
theorem isEndB_form {signs : List Nat} {v : Itp.D} (h : isEndB signs v = true) : ∃ (i : Int) (o : List Nat), v = .tup [.int i, .str o] ∧ 0 ≤ i ∧ i ≤ 3 ∧ 1 ≤ o.length ∧ o.length ≤ 3 ∧ ∀ x ∈ o, x ∈ signs := by
  unfold isEndB at h
  split at h
  · rename_i a b
    simp only [Bool.and_eq_true] at h
    obtain ⟨h1, h4⟩ := h
    unfold isIntB at h1
    unfold isStrB at h4
    split at h1 <;> try contradiction
    split at h4 <;> try contradiction
    simp [lenB] at h1 h4
    exact ⟨_, _, rfl, h1.1, h1.2, by omega, by omega, h4.2⟩
  · contradiction
theorem nbs_pre2 {signs : List Nat} {ms : List Itp.D} (h : ms.all (isMoveB signs) = true) : Nbs (ms.map pre2) := fun i a b ha hb => by
  rw [List.getElem?_map] at ha hb
  obtain ⟨x, hx, rfl⟩ := Option.map_eq_some_iff.mp ha
  obtain ⟨y, hy, rfl⟩ := Option.map_eq_some_iff.mp hb
  rw [List.all_eq_true] at h
  obtain ⟨_, _, _, _, rfl, _⟩ := isMoveB_form (h x (List.mem_of_getElem? hx))
  obtain ⟨_, _, _, _, rfl, _⟩ := isMoveB_form (h y (List.mem_of_getElem? hy))
  simp [pre2, cmpD, D.alks, D.alk]
theorem nbs_pre1 {signs : List Nat} {ms : List Itp.D} (h : ms.all (isEndB signs) = true) : Nbs (ms.map pre1) := fun i a b ha hb => by
  rw [List.getElem?_map] at ha hb
  obtain ⟨x, hx, rfl⟩ := Option.map_eq_some_iff.mp ha
  obtain ⟨y, hy, rfl⟩ := Option.map_eq_some_iff.mp hb
  rw [List.all_eq_true] at h
  obtain ⟨_, _, rfl, _⟩ := isEndB_form (h x (List.mem_of_getElem? hx))
  obtain ⟨_, _, rfl, _⟩ := isEndB_form (h y (List.mem_of_getElem? hy))
  simp [pre1, cmpD, D.alks, D.alk]
def isFmtB (v : Itp.D) : Bool := match v with
  | .tup [.str s, .tup ms, .tup es] => areSignsB (.str s) && (decide (ms.length ≤ 12) && (decide (es.length ≤ 4) && (ms.all (isMoveB s) && (risB (ms.map pre2) && (es.all (isEndB s) && risB (es.map pre1))))))
  | _ => false
theorem wide_form {v : Itp.D} {lo hi : Int} (h : isWideB v lo hi = true) : ∃ xs, v = .tup xs ∧ lo ≤ xs.length ∧ (xs.length : Int) ≤ hi := by
  cases v with
  | tup xs => simp [isWideB] at h; exact ⟨xs, rfl, h.1, h.2⟩
  | _ => cases h
theorem r_is_formatter (k : Nat) (v : Itp.D) : run sub Tb (k + 3) i_is_formatter [.val v] = rB (isFmtB v) := by
  rw [u_is_formatter]
  have hlim : lim = 16777216 := rfl
  by_cases hw : isWideB v 3 3 = true
  · obtain ⟨xs, rfl, h1, h2⟩ := wide_form hw
    obtain ⟨a, b, c, rfl⟩ := len3 xs (by omega)
    by_cases hs : areSignsB a = true
    · cases a with
      | str s =>
        by_cases hb : isWideB b 0 12 = true
        · by_cases hc : isWideB c 0 4 = true
          · obtain ⟨ms, rfl, b1, b2⟩ := wide_form hb
            obtain ⟨es, rfl, c1, c2⟩ := wide_form hc
            have l1 : ms.length ≤ 12 := by omega
            have l2 : es.length ≤ 4 := by omega
            have e1 := lc_map (cl := run sub Tb (k + 2)) (elt := .call i_is_move (.acons (.ix (.v 0) (.k (.int 0))) (.acons (.v 2) .anil))) (a := .ix (.v 0) (.k (.int 1))) (b := .anil) (ik := .over) (j := 2) (ρ := [some (.val (.tup [.str s, .tup ms, .tup es])), none, none]) (xs := ms) (g := fun x => .bl (isMoveB s x)) rfl
              (by simp [evIt, fitA, frzE, D.tru, retM, endF, ioOf, cmpD, cmpR, RV.r, R.ar, R.dat, ARs.rd, AR.rd, ARs.dat, biD, bi1, intD, lenD, seqD, lstD, ixD, atD, binD, stoM, setSlot, Ob.toD, tyD, natOf]) (fun x hx => by simp [fitA, frzE, D.tru, retM, endF, ioOf, cmpD, cmpR, RV.r, R.ar, R.dat, ARs.rd, AR.rd, ARs.dat, biD, bi1, intD, lenD, seqD, lstD, ixD, atD, binD, stoM, setSlot, Ob.toD, tyD, callM, locsA, giveA, backA, natOf, r_is_move]) (by omega)
            have e2 (ha : ms.all (isMoveB s) = true) := lc_map (cl := run sub Tb (k + 2)) (elt := .sl (.v 2) .anil (.k (.int 2))) (a := .ix (.v 0) (.k (.int 1))) (b := .anil) (ik := .over) (j := 2) (ρ := [some (.val (.tup [.str s, .tup ms, .tup es])), none, none]) (xs := ms) (g := pre2) rfl
              (by simp [evIt, fitA, frzE, D.tru, retM, endF, ioOf, cmpD, cmpR, RV.r, R.ar, R.dat, ARs.rd, AR.rd, ARs.dat, biD, bi1, intD, lenD, seqD, lstD, ixD, atD, binD, stoM, setSlot, Ob.toD, tyD, natOf]) (fun x hx => by
                rw [List.all_eq_true] at ha
                obtain ⟨_, _, _, _, rfl, _⟩ := isMoveB_form (ha x hx)
                simp [fitA, frzE, D.tru, retM, endF, ioOf, cmpD, cmpR, RV.r, R.ar, R.dat, ARs.rd, AR.rd, ARs.dat, biD, bi1, intD, lenD, seqD, lstD, ixD, atD, binD, stoM, setSlot, Ob.toD, tyD, evOf, intM, slD, cut, sIx, pre2]) (by omega)
            have e3 := lc_map (cl := run sub Tb (k + 2)) (elt := .call i_is_end (.acons (.ix (.v 0) (.k (.int 0))) (.acons (.v 1) .anil))) (a := .ix (.v 0) (.k (.int 2))) (b := .anil) (ik := .over) (j := 1) (ρ := [some (.val (.tup [.str s, .tup ms, .tup es])), none, none]) (xs := es) (g := fun x => .bl (isEndB s x)) rfl
              (by simp [evIt, fitA, frzE, D.tru, retM, endF, ioOf, cmpD, cmpR, RV.r, R.ar, R.dat, ARs.rd, AR.rd, ARs.dat, biD, bi1, intD, lenD, seqD, lstD, ixD, atD, binD, stoM, setSlot, Ob.toD, tyD, natOf]) (fun x hx => by simp [fitA, frzE, D.tru, retM, endF, ioOf, cmpD, cmpR, RV.r, R.ar, R.dat, ARs.rd, AR.rd, ARs.dat, biD, bi1, intD, lenD, seqD, lstD, ixD, atD, binD, stoM, setSlot, Ob.toD, tyD, callM, locsA, giveA, backA, natOf, r_is_end]) (by omega)
            have e4 (ha : es.all (isEndB s) = true) := lc_map (cl := run sub Tb (k + 2)) (elt := .sl (.v 1) .anil (.k (.int 1))) (a := .ix (.v 0) (.k (.int 2))) (b := .anil) (ik := .over) (j := 1) (ρ := [some (.val (.tup [.str s, .tup ms, .tup es])), none, none]) (xs := es) (g := pre1) rfl
              (by simp [evIt, fitA, frzE, D.tru, retM, endF, ioOf, cmpD, cmpR, RV.r, R.ar, R.dat, ARs.rd, AR.rd, ARs.dat, biD, bi1, intD, lenD, seqD, lstD, ixD, atD, binD, stoM, setSlot, Ob.toD, tyD, natOf]) (fun x hx => by
                rw [List.all_eq_true] at ha
                obtain ⟨_, _, rfl, _⟩ := isEndB_form (ha x hx)
                simp [fitA, frzE, D.tru, retM, endF, ioOf, cmpD, cmpR, RV.r, R.ar, R.dat, ARs.rd, AR.rd, ARs.dat, biD, bi1, intD, lenD, seqD, lstD, ixD, atD, binD, stoM, setSlot, Ob.toD, tyD, evOf, intM, slD, cut, sIx, pre1]) (by omega)
            have e5 (ha : ms.all (isMoveB s) = true) := r_is_rising (k + 1) (ms.map pre2) (by simp; omega) (nbs_pre2 ha)
            have e6 (ha : es.all (isEndB s) = true) := r_is_rising (k + 1) (es.map pre1) (by simp; omega) (nbs_pre1 ha)
            by_cases ha : ms.all (isMoveB s) = true
            · have e2 := e2 ha
              have e5 := e5 ha
              by_cases hr : risB (ms.map pre2) = true
              · by_cases hd : es.all (isEndB s) = true
                · have e4 := e4 hd
                  have e6 := e6 hd
                  simp [d_is_formatter, b_is_formatter, q_is_formatter_1, q_is_formatter_2, q_is_formatter_3, q_is_formatter_4, fitA, frzE, D.tru, retM, endF, ioOf, cmpD, cmpR, RV.r, R.ar, R.dat, ARs.rd, AR.rd, ARs.dat, biD, bi1, intD, lenD, seqD, lstD, ixD, atD, binD, stoM, setSlot, Ob.toD, tyD, callM, locsA, giveA, backA, natOf, r_is_wide, r_are_signs, hw, hs, hb, hc, e1, e2, e3, e4, e5, e6, allBl_map, ha, hr, hd, isFmtB, l1, l2]
                · have hd : es.all (isEndB s) = false := by simpa using hd
                  simp [d_is_formatter, b_is_formatter, q_is_formatter_1, q_is_formatter_2, q_is_formatter_3, q_is_formatter_4, fitA, frzE, D.tru, retM, endF, ioOf, cmpD, cmpR, RV.r, R.ar, R.dat, ARs.rd, AR.rd, ARs.dat, biD, bi1, intD, lenD, seqD, lstD, ixD, atD, binD, stoM, setSlot, Ob.toD, tyD, callM, locsA, giveA, backA, natOf, r_is_wide, r_are_signs, hw, hs, hb, hc, e1, e2, e3, e5, allBl_map, ha, hr, hd, isFmtB, l1, l2]
              · have hr : risB (ms.map pre2) = false := by simpa using hr
                simp [d_is_formatter, b_is_formatter, q_is_formatter_1, q_is_formatter_2, q_is_formatter_3, q_is_formatter_4, fitA, frzE, D.tru, retM, endF, ioOf, cmpD, cmpR, RV.r, R.ar, R.dat, ARs.rd, AR.rd, ARs.dat, biD, bi1, intD, lenD, seqD, lstD, ixD, atD, binD, stoM, setSlot, Ob.toD, tyD, callM, locsA, giveA, backA, natOf, r_is_wide, r_are_signs, hw, hs, hb, hc, e1, e2, e5, allBl_map, ha, hr, isFmtB, l1, l2]
            · have ha : ms.all (isMoveB s) = false := by simpa using ha
              simp [d_is_formatter, b_is_formatter, q_is_formatter_1, q_is_formatter_2, q_is_formatter_3, q_is_formatter_4, fitA, frzE, D.tru, retM, endF, ioOf, cmpD, cmpR, RV.r, R.ar, R.dat, ARs.rd, AR.rd, ARs.dat, biD, bi1, intD, lenD, seqD, lstD, ixD, atD, binD, stoM, setSlot, Ob.toD, tyD, callM, locsA, giveA, backA, natOf, r_is_wide, r_are_signs, hw, hs, hb, hc, e1, allBl_map, ha, isFmtB, l1, l2]
          · have hc' : isWideB c 0 4 = false := by simpa using hc
            have : isFmtB (.tup [.str s, b, c]) = false := by
              unfold isFmtB
              split
              · rename_i e; cases e; simp [isWideB] at hc; simp; omega
              · rfl
            simp [d_is_formatter, b_is_formatter, q_is_formatter_1, q_is_formatter_2, q_is_formatter_3, q_is_formatter_4, fitA, frzE, D.tru, retM, endF, ioOf, cmpD, cmpR, RV.r, R.ar, R.dat, ARs.rd, AR.rd, ARs.dat, biD, bi1, intD, lenD, seqD, lstD, ixD, atD, binD, stoM, setSlot, Ob.toD, tyD, callM, locsA, giveA, backA, natOf, r_is_wide, r_are_signs, hw, hs, hb, hc', this]
        · have hb' : isWideB b 0 12 = false := by simpa using hb
          have : isFmtB (.tup [.str s, b, c]) = false := by
            unfold isFmtB
            split
            · rename_i e; cases e; simp [isWideB] at hb; simp; omega
            · rfl
          simp [d_is_formatter, b_is_formatter, q_is_formatter_1, q_is_formatter_2, q_is_formatter_3, q_is_formatter_4, fitA, frzE, D.tru, retM, endF, ioOf, cmpD, cmpR, RV.r, R.ar, R.dat, ARs.rd, AR.rd, ARs.dat, biD, bi1, intD, lenD, seqD, lstD, ixD, atD, binD, stoM, setSlot, Ob.toD, tyD, callM, locsA, giveA, backA, natOf, r_is_wide, r_are_signs, hw, hs, hb', this]
      | _ => cases hs
    · have hs' : areSignsB a = false := by simpa using hs
      have : isFmtB (.tup [a, b, c]) = false := by
        unfold isFmtB
        split
        · rename_i e; cases e; rw [hs']; rfl
        · rfl
      simp [d_is_formatter, b_is_formatter, q_is_formatter_1, q_is_formatter_2, q_is_formatter_3, q_is_formatter_4, fitA, frzE, D.tru, retM, endF, ioOf, cmpD, cmpR, RV.r, R.ar, R.dat, ARs.rd, AR.rd, ARs.dat, biD, bi1, intD, lenD, seqD, lstD, ixD, atD, binD, stoM, setSlot, Ob.toD, tyD, callM, locsA, giveA, backA, natOf, r_is_wide, r_are_signs, hw, hs', this]
  · have hw' : isWideB v 3 3 = false := by simpa using hw
    have : isFmtB v = false := by
      unfold isFmtB
      split
      · simp [isWideB] at hw
      · rfl
    simp [d_is_formatter, b_is_formatter, q_is_formatter_1, q_is_formatter_2, q_is_formatter_3, q_is_formatter_4, fitA, frzE, D.tru, retM, endF, ioOf, cmpD, cmpR, RV.r, R.ar, R.dat, ARs.rd, AR.rd, ARs.dat, biD, bi1, intD, lenD, seqD, lstD, ixD, atD, binD, stoM, setSlot, Ob.toD, tyD, callM, locsA, giveA, backA, r_is_wide, hw', this]
end G
end
section
set_option autoImplicit false
set_option linter.all false
set_option maxRecDepth 100000
/-! Formatters as plain data; what comes of texts. -/
namespace G
open Itp
structure Mv where
  i : Nat
  c : Nat
  g : Nat
  o : List Nat
structure En where
  i : Nat
  o : List Nat
structure Fm where
  s : List Nat
  ms : List Mv
  es : List En
def mvD (m : Mv) : Itp.D := .tup [.int m.i, .str [m.c], .int m.g, .str m.o]
def enD (e : En) : Itp.D := .tup [.int e.i, .str e.o]
def fmD (F : Fm) : Itp.D := .tup [.str F.s, .tup (F.ms.map mvD), .tup (F.es.map enD)]
def FmOk (F : Fm) : Prop := isFmtB (fmD F) = true
theorem isMoveB_mv (signs : List Nat) (m : Mv) : isMoveB signs (mvD m) = (decide (m.i ≤ 3) && decide (m.c ∈ signs) && decide (m.g ≤ 3) && decide (m.o.length ≤ 3) && m.o.all fun c => decide (c ∈ signs)) := by
  simp only [mvD, isMoveB, isIntB, isSignB, inB, isStrB, lenB]
  have e1 : (m.i : Int) ≤ 3 ↔ m.i ≤ 3 := by omega
  have e2 : (m.g : Int) ≤ 3 ↔ m.g ≤ 3 := by omega
  have e3 : (m.o.length : Int) ≤ 3 ↔ m.o.length ≤ 3 := by omega
  simp [e1, e2, e3, Bool.and_assoc]
theorem isEndB_en (signs : List Nat) (m : En) : isEndB signs (enD m) = (decide (m.i ≤ 3) && decide (1 ≤ m.o.length) && decide (m.o.length ≤ 3) && m.o.all fun c => decide (c ∈ signs)) := by
  simp only [enD, isEndB, isIntB, isStrB, lenB]
  have e1 : (m.i : Int) ≤ 3 ↔ m.i ≤ 3 := by omega
  have e2 : (1 : Int) ≤ m.o.length ↔ 1 ≤ m.o.length := by omega
  have e3 : (m.o.length : Int) ≤ 3 ↔ m.o.length ≤ 3 := by omega
  simp [e1, e2, e3, Bool.and_assoc]
theorem mv_form {signs : List Nat} {v : Itp.D} (h : isMoveB signs v = true) : ∃ m, v = mvD m := by
  obtain ⟨i, j, c, o, rfl, h0, _, _, h1, _⟩ := isMoveB_form h
  exact ⟨⟨i.toNat, c, j.toNat, o⟩, by simp [mvD, Int.toNat_of_nonneg h0, Int.toNat_of_nonneg h1]⟩
theorem en_form {signs : List Nat} {v : Itp.D} (h : isEndB signs v = true) : ∃ m, v = enD m := by
  obtain ⟨i, o, rfl, h0, _⟩ := isEndB_form h
  exact ⟨⟨i.toNat, o⟩, by simp [enD, Int.toNat_of_nonneg h0]⟩
theorem map_form {α : Type} {f : α → Itp.D} : ∀ (xs : List Itp.D), (∀ x ∈ xs, ∃ m, x = f m) → ∃ ms : List α, xs = ms.map f
  | [], _ => ⟨[], rfl⟩
  | x :: xs, h => by
    obtain ⟨m, rfl⟩ := h x (by simp)
    obtain ⟨ms, rfl⟩ := map_form xs fun y hy => h y (by simp [hy])
    exact ⟨m :: ms, rfl⟩
/-- each formatter is such data -/
theorem fm_form {v : Itp.D} (h : isFmtB v = true) : ∃ F, v = fmD F ∧ FmOk F := by
  have h0 := h
  unfold isFmtB at h
  split at h
  · rename_i s ms es
    simp only [Bool.and_eq_true] at h
    obtain ⟨_, _, _, h1, _, h2, _⟩ := h
    rw [List.all_eq_true] at h1 h2
    obtain ⟨ms, rfl⟩ := map_form (f := mvD) ms fun x hx => mv_form (h1 x hx)
    obtain ⟨es, rfl⟩ := map_form (f := enD) es fun x hx => en_form (h2 x hx)
    exact ⟨⟨s, ms, es⟩, rfl, h0⟩
  · contradiction
/-- what is known of a formatter -/
structure FmOk' (F : Fm) : Prop where
  sg : areSignsB (.str F.s) = true
  nm : F.ms.length ≤ 12
  ne : F.es.length ≤ 4
  mv : ∀ m ∈ F.ms, m.i ≤ 3 ∧ m.c ∈ F.s ∧ m.g ≤ 3 ∧ m.o.length ≤ 3 ∧ ∀ c ∈ m.o, c ∈ F.s
  rm : risB ((F.ms.map mvD).map pre2) = true
  en : ∀ m ∈ F.es, m.i ≤ 3 ∧ 1 ≤ m.o.length ∧ m.o.length ≤ 3 ∧ ∀ c ∈ m.o, c ∈ F.s
  re : risB ((F.es.map enD).map pre1) = true
theorem fmOk_iff (F : Fm) : FmOk F ↔ FmOk' F := by
  unfold FmOk fmD isFmtB
  simp only [Bool.and_eq_true, List.all_eq_true, List.length_map, List.mem_map]
  constructor
  · rintro ⟨h1, h2, h3, h4, h5, h6, h7⟩
    refine ⟨h1, by simpa using h2, by simpa using h3, fun m hm => ?_, h5, fun m hm => ?_, h7⟩
    · have := h4 _ ⟨m, hm, rfl⟩
      rw [isMoveB_mv] at this
      simp at this
      exact ⟨this.1.1.1.1, this.1.1.1.2, this.1.1.2, this.1.2, this.2⟩
    · have := h6 _ ⟨m, hm, rfl⟩
      rw [isEndB_en] at this
      simp at this
      exact ⟨this.1.1.1, this.1.1.2, this.1.2, this.2⟩
  · rintro ⟨h1, h2, h3, h4, h5, h6, h7⟩
    refine ⟨h1, by simpa using h2, by simpa using h3, ?_, h5, ?_, h7⟩
    · rintro _ ⟨m, hm, rfl⟩
      rw [isMoveB_mv]
      have := h4 m hm
      simp [this]
      exact fun c hc => this.2.2.2.2 c hc
    · rintro _ ⟨m, hm, rfl⟩
      rw [isEndB_en]
      have := h6 m hm
      simp [this]
      exact this.2.2.2
/-- the goal and the output of the move with a state and a sign -/
def mkP (F : Fm) (st c : Nat) : Nat × List Nat := match F.ms.find? fun m => decide (m.i = st ∧ m.c = c) with
  | some m => (m.g, m.o)
  | none => (st, [])
theorem r_made_by (k : Nat) (F : Fm) (st c : Nat) : run sub Tb (k + 1) i_made_by [.val (fmD F), .val (.int st), .val (.str [c])] = rV (.tup [.int (mkP F st c).1, .str (mkP F st c).2]) := by
  rw [u_made_by]
  obtain ⟨ρ', ⟨v, rfl, hv⟩, e⟩ := forL_find (bt := bindT (.nm 3)) (b := evS sub (run sub Tb k) (.seq (.ite (.cmp .eq (.sl (.v 3) .anil (.k (.int 2))) (.tup (.acons (.v 1) (.acons (.v 2) .anil)))) (.seq (.ret (.sl (.v 3) (.k (.int 2)) .anil)) .nop) .nop) .nop))
    (fun ρ => ∃ v, ρ = [some (.val (fmD F)), some (.val (.int st)), some (.val (.str [c])), v] ∧ Soft v) (fun x => match x with
      | .tup [.int i, .str s, g, o] => if i = st ∧ s = [c] then .ret (.val (.tup [g, o])) else .next
      | _ => .next) (F.ms.map mvD) (fun x hx ρ ⟨v, e, hv⟩ => by
        subst e
        obtain ⟨m, _, rfl⟩ := List.mem_map.mp hx
        refine ⟨_, ⟨some (.val (mvD m)), rfl, .val _⟩, by rcases hv with rfl | ⟨d, rfl⟩ <;> rfl, ?_⟩
        by_cases h1 : (m.i : Int) = st <;> by_cases h2 : m.c = c <;> simp [fitA, frzE, D.tru, retM, endF, ioOf, cmpD, cmpR, RV.r, R.ar, R.dat, ARs.rd, AR.rd, ARs.dat, biD, bi1, intD, lenD, seqD, lstD, ixD, atD, binD, stoM, setSlot, Ob.toD, tyD, mvD, evOf, intM, slD, cut, sIx, eqD_q, h1, h2, lim]) _ ⟨none, rfl, .none⟩
  have hit : evIt .over (evE (run sub Tb k) (.ix (.v 0) (.k (.int 1)))) (evE (run sub Tb k) .anil) [some (.val (fmD F)), some (.val (.int st)), some (.val (.str [c])), none] = some (.ok (.items (F.ms.map mvD)) [some (.val (fmD F)), some (.val (.int st)), some (.val (.str [c])), none]) := by
    simp [evIt, fitA, frzE, D.tru, retM, endF, ioOf, cmpD, cmpR, RV.r, R.ar, R.dat, ARs.rd, AR.rd, ARs.dat, biD, bi1, intD, lenD, seqD, lstD, ixD, atD, binD, stoM, setSlot, Ob.toD, tyD, natOf, fmD]
  have key : ∀ ms : List Mv, firstRet (fun x => match x with
      | .tup [.int i, .str s, g, o] => if i = st ∧ s = [c] then .ret (.val (.tup [g, o])) else .next
      | _ => .next) (ms.map mvD) = match ms.find? fun m => decide (m.i = st ∧ m.c = c) with
      | some m => .ret (.val (.tup [.int m.g, .str m.o]))
      | none => .next := by
    intro ms
    induction ms with
    | nil => rfl
    | cons m ms ih =>
      rw [List.map, firstRet, List.find?_cons, ih]
      have e1 : (m.i : Int) = st ↔ m.i = st := by omega
      by_cases h1 : m.i = st <;> by_cases h2 : m.c = c <;> simp [mvD, h1, h2, e1]
  rw [key] at e
  have hf := for_ev hit e
  unfold mkP
  generalize F.ms.find? (fun m => decide (m.i = st ∧ m.c = c)) = q at hf
  cases q <;> rcases hv with rfl | ⟨d, rfl⟩ <;> simp [d_made_by, b_made_by, f_made_by_1, l_made_by_1, fitA, frzE, D.tru, retM, endF, ioOf, cmpD, cmpR, RV.r, R.ar, R.dat, ARs.rd, AR.rd, ARs.dat, biD, bi1, intD, lenD, seqD, lstD, ixD, atD, binD, stoM, setSlot, Ob.toD, tyD, hf, lim]
end G
end
section
set_option autoImplicit false
set_option linter.all false
set_option maxRecDepth 100000
namespace G
open Itp
def endP (F : Fm) (st : Nat) : List Nat := match F.es.find? fun e => decide (e.i = st) with
  | some e => e.o
  | none => []
theorem r_end_of (k : Nat) (F : Fm) (st : Nat) : run sub Tb (k + 1) i_end_of [.val (fmD F), .val (.int st)] = rV (.str (endP F st)) := by
  rw [u_end_of]
  obtain ⟨ρ', ⟨v, w, rfl, hv, hw⟩, e⟩ := forL_find (bt := bindT (.tup [2, 3])) (b := evS sub (run sub Tb k) (.seq (.ite (.cmp .eq (.v 2) (.v 1)) (.seq (.ret (.v 3)) .nop) .nop) .nop))
    (fun ρ => ∃ v w, ρ = [some (.val (fmD F)), some (.val (.int st)), v, w] ∧ Soft v ∧ Soft w) (fun x => match x with
      | .tup [.int i, o] => if i = st then .ret (.val o) else .next
      | _ => .next) (F.es.map enD) (fun x hx ρ ⟨v, w, e, hv, hw⟩ => by
        subst e
        obtain ⟨m, _, rfl⟩ := List.mem_map.mp hx
        refine ⟨_, ⟨some (.val (.int m.i)), some (.val (.str m.o)), rfl, .val _, .val _⟩, by rcases hv with rfl | ⟨d, rfl⟩ <;> rcases hw with rfl | ⟨d, rfl⟩ <;> rfl, ?_⟩
        by_cases h1 : (m.i : Int) = st <;> simp [fitA, frzE, D.tru, retM, endF, ioOf, cmpD, cmpR, RV.r, R.ar, R.dat, ARs.rd, AR.rd, ARs.dat, biD, bi1, intD, lenD, seqD, lstD, ixD, atD, binD, stoM, setSlot, Ob.toD, tyD, enD, eqD_q, h1]) _ ⟨none, none, rfl, .none, .none⟩
  have hit : evIt .over (evE (run sub Tb k) (.ix (.v 0) (.k (.int 2)))) (evE (run sub Tb k) .anil) [some (.val (fmD F)), some (.val (.int st)), none, none] = some (.ok (.items (F.es.map enD)) [some (.val (fmD F)), some (.val (.int st)), none, none]) := by
    simp [evIt, fitA, frzE, D.tru, retM, endF, ioOf, cmpD, cmpR, RV.r, R.ar, R.dat, ARs.rd, AR.rd, ARs.dat, biD, bi1, intD, lenD, seqD, lstD, ixD, atD, binD, stoM, setSlot, Ob.toD, tyD, natOf, fmD]
  have key : ∀ es : List En, firstRet (fun x => match x with
      | .tup [.int i, o] => if i = st then .ret (.val o) else .next
      | _ => .next) (es.map enD) = match es.find? fun e => decide (e.i = st) with
      | some e => .ret (.val (.str e.o))
      | none => .next := by
    intro es
    induction es with
    | nil => rfl
    | cons m ms ih =>
      rw [List.map, firstRet, List.find?_cons, ih]
      have e1 : (m.i : Int) = st ↔ m.i = st := by omega
      by_cases h1 : m.i = st <;> simp [enD, h1, e1]
  rw [key] at e
  have hf := for_ev hit e
  unfold endP
  generalize F.es.find? (fun e => decide (e.i = st)) = q at hf
  cases q <;> rcases hv with rfl | ⟨d, rfl⟩ <;> rcases hw with rfl | ⟨d, rfl⟩ <;> simp [d_end_of, b_end_of, f_end_of_1, l_end_of_1, fitA, frzE, D.tru, retM, endF, ioOf, cmpD, cmpR, RV.r, R.ar, R.dat, ARs.rd, AR.rd, ARs.dat, biD, bi1, intD, lenD, seqD, lstD, ixD, atD, binD, stoM, setSlot, Ob.toD, tyD, hf, lim]
def stP (F : Fm) (st c : Nat) : Nat × List Nat := if c = 124 then (st, [124]) else mkP F st c
theorem r_step_of (k : Nat) (F : Fm) (st c : Nat) : run sub Tb (k + 2) i_step_of [.val (fmD F), .val (.int st), .val (.str [c])] = rV (.tup [.int (stP F st c).1, .str (stP F st c).2]) := by
  rw [u_step_of]
  by_cases h : c = 124 <;> simp [d_step_of, b_step_of, fitA, frzE, D.tru, retM, endF, ioOf, cmpD, cmpR, RV.r, R.ar, R.dat, ARs.rd, AR.rd, ARs.dat, biD, bi1, intD, lenD, seqD, lstD, ixD, atD, binD, stoM, setSlot, Ob.toD, tyD, callM, locsA, giveA, backA, eqD_q, r_made_by, h, stP, lim]
def fmRun (F : Fm) : Nat → List Nat → Nat × List Nat
  | st, [] => (st, [])
  | st, c :: cs => ((fmRun F (stP F st c).1 cs).1, (stP F st c).2 ++ (fmRun F (stP F st c).1 cs).2)
/-- what comes of a text -/
def fmP (F : Fm) (cs : List Nat) : List Nat := (fmRun F 0 cs).2 ++ endP F (fmRun F 0 cs).1
theorem find?_mem {α : Type} {p : α → Bool} {xs : List α} {x : α} (h : xs.find? p = some x) : x ∈ xs := List.mem_of_find?_eq_some h
theorem FmOk.mk_len {F : Fm} (h : FmOk F) (st c : Nat) : (mkP F st c).2.length ≤ 3 := by
  unfold mkP
  split
  · rename_i m e
    exact ((fmOk_iff F).mp h |>.mv m (find?_mem e)).2.2.2.1
  · exact Nat.zero_le 3
theorem FmOk.st_len {F : Fm} (h : FmOk F) (st c : Nat) : (stP F st c).2.length ≤ 3 := by
  unfold stP
  split
  · exact Nat.le_of_ble_eq_true rfl
  · exact h.mk_len st c
theorem FmOk.end_len {F : Fm} (h : FmOk F) (st : Nat) : (endP F st).length ≤ 3 := by
  unfold endP
  split
  · rename_i m e
    exact ((fmOk_iff F).mp h |>.en m (find?_mem e)).2.2.1
  · exact Nat.zero_le 3
theorem FmOk.run_len {F : Fm} (h : FmOk F) : ∀ (cs : List Nat) (st : Nat), (fmRun F st cs).2.length ≤ 3 * cs.length
  | [], _ => Nat.zero_le _
  | c :: cs, st => by
    have := h.run_len cs (stP F st c).1
    have := h.st_len st c
    simp only [fmRun, List.length_append, List.length_cons]
    omega
theorem FmOk.fm_len {F : Fm} (h : FmOk F) (cs : List Nat) : (fmP F cs).length ≤ 3 * cs.length + 3 := by
  have := h.run_len cs 0
  have := h.end_len (fmRun F 0 cs).1
  simp only [fmP, List.length_append]
  omega
theorem r_format_of (k : Nat) (F : Fm) (h : FmOk F) (cs : List Nat) (hz : cs.length ≤ 1000000) : run sub Tb (k + 3) i_format_of [.val (fmD F), .val (.str cs)] = rV (.str (fmP F cs)) := by
  rw [u_format_of]
  have hlim : lim = 16777216 := rfl
  obtain ⟨ρ', ⟨cs', st, acc, v, w, e0, rfl, hv, hw, hl, hs, ha⟩, e⟩ := forL_inv (bt := bindT (.nm 2)) (b := evS sub (run sub Tb (k + 2)) (.seq (.asgT (.tup [3, 5]) (.call i_step_of (.acons (.v 0) (.acons (.v 3) (.acons (.v 2) .anil))))) (.seq (.asg 4 true (.bin .add (.v 4) (.v 5))) .nop)))
    (fun r ρ => ∃ (cs' : List Nat) (st : Nat) (acc : List Nat) (v w : Option SV), r = sgs cs' ∧ ρ = [some (.val (fmD F)), some (.val (.str cs)), v, some (.val (.int st)), some (.val (.str acc)), w] ∧ Soft v ∧ Soft w ∧ acc.length + 3 * cs'.length ≤ 3 * cs.length ∧ (fmRun F st cs').1 = (fmRun F 0 cs).1 ∧ acc ++ (fmRun F st cs').2 = (fmRun F 0 cs).2)
    (sgs cs) (fun x r ρ ⟨cs', st, acc, v, w, e0, eρ, hv, hw, hl, hs, ha⟩ => by
      subst eρ
      cases cs' with
      | nil => cases e0
      | cons c cs' =>
        cases e0
        rw [List.length_cons] at hl
        have hl2 := h.st_len st c
        have hb : acc.length + (stP F st c).2.length ≤ lim := by omega
        refine ⟨[some (.val (fmD F)), some (.val (.str cs)), some (.val (.str [c])), some (.val (.int st)), some (.val (.str acc)), w], by rcases hv with rfl | ⟨d, rfl⟩ <;> rfl,
          [some (.val (fmD F)), some (.val (.str cs)), some (.val (.str [c])), some (.val (.int (stP F st c).1)), some (.val (.str (acc ++ (stP F st c).2))), some (.val (.str (stP F st c).2))], .inl ?_,
          cs', _, _, _, _, rfl, rfl, .val _, .val _, by rw [List.length_append]; omega, by rw [← hs]; rfl, by rw [← ha, List.append_assoc]; rfl⟩
        rcases hw with rfl | ⟨d, rfl⟩ <;> simp [fitA, frzE, D.tru, retM, endF, ioOf, cmpD, cmpR, RV.r, R.ar, R.dat, ARs.rd, AR.rd, ARs.dat, biD, bi1, intD, lenD, seqD, lstD, ixD, atD, binD, stoM, setSlot, Ob.toD, tyD, callM, locsA, giveA, backA, r_step_of, bindT, setAll, hb])
    [some (.val (fmD F)), some (.val (.str cs)), none, some (.val (.int 0)), some (.val (.str [])), none] ⟨cs, 0, [], none, none, rfl, rfl, .none, .none, by simp, rfl, rfl⟩
  cases cs' with
  | cons c r => cases e0
  | nil =>
    have hf := for_ev (sub := sub) (cl := run sub Tb (k + 2)) (ik := .over) (x := .v 1) (y := .anil) (t := .nm 2) (ρ := [some (.val (fmD F)), some (.val (.str cs)), none, some (.val (.int 0)), some (.val (.str [])), none]) (by simp [evIt, fitA, frzE, D.tru, retM, endF, ioOf, cmpD, cmpR, RV.r, R.ar, R.dat, ARs.rd, AR.rd, ARs.dat, biD, bi1, intD, lenD, seqD, lstD, ixD, atD, binD, stoM, setSlot, Ob.toD, tyD]) e
    simp only [fmRun, List.append_nil] at hs ha
    have hb : acc.length + (endP F st).length ≤ lim := by
      have := h.end_len st
      simp at hl
      omega
    rcases hv with rfl | ⟨d, rfl⟩ <;> rcases hw with rfl | ⟨d, rfl⟩ <;> simp [d_format_of, b_format_of, f_format_of_1, l_format_of_1, fitA, frzE, D.tru, retM, endF, ioOf, cmpD, cmpR, RV.r, R.ar, R.dat, ARs.rd, AR.rd, ARs.dat, biD, bi1, intD, lenD, seqD, lstD, ixD, atD, binD, stoM, setSlot, Ob.toD, tyD, callM, locsA, giveA, backA, bindT, setAll, hf, r_end_of, hb, fmP, ← hs, ← ha]
end G
end
section
set_option autoImplicit false
set_option linter.all false
set_option maxRecDepth 100000
namespace G
open Itp
theorem r_need_formatter (k : Nat) (v : Itp.D) : run sub Tb (k + 4) i_need_formatter [.val v] = if isFmtB v then rV .non else rX e_InvalidFormatter := by
  rw [u_need_formatter]
  cases h : isFmtB v <;> simp [d_need_formatter, b_need_formatter, fitA, frzE, D.tru, retM, endF, ioOf, cmpD, cmpR, RV.r, R.ar, R.dat, ARs.rd, AR.rd, ARs.dat, biD, bi1, intD, lenD, seqD, lstD, ixD, atD, binD, stoM, setSlot, Ob.toD, tyD, callM, locsA, giveA, backA, r_is_formatter, h]
theorem r_need_text (k : Nat) (F : Fm) (v : Itp.D) (hz : ∀ s, v = .str s → s.length ≤ lim) : run sub Tb (k + 2) i_need_text [.val (fmD F), .val v] = if isStrB F.s v 0 none then rV .non else rX e_InvalidText := by
  rw [u_need_text]
  have e := r_is_text k F.s v 0 hz
  cases h : isStrB F.s v 0 none <;> simp [d_need_text, b_need_text, fitA, frzE, D.tru, retM, endF, ioOf, cmpD, cmpR, RV.r, R.ar, R.dat, ARs.rd, AR.rd, ARs.dat, biD, bi1, intD, lenD, seqD, lstD, ixD, atD, binD, stoM, setSlot, Ob.toD, tyD, callM, locsA, giveA, backA, natOf, fmD, e, h]
def isMarkB (F : Fm) (v : Itp.D) : Bool := match v with
  | .str s => decide (s.count 124 = 1) && (s.filter (· != 124)).all fun c => decide (c ∈ F.s)
  | _ => false
theorem r_is_marked (k : Nat) (F : Fm) (v : Itp.D) (hz : ∀ s, v = .str s → s.length ≤ lim) : run sub Tb (k + 2) i_is_marked [.val (fmD F), .val v] = rB (isMarkB F v) := by
  rw [u_is_marked]
  cases v with
  | str s =>
    have e := r_is_text k F.s (.str (s.filter (· != 124))) 0 (fun s' z => by
      cases z
      have := hz s rfl
      have := List.length_filter_le (· != 124) s
      omega)
    have e1 : ((s.count 124 : Nat) : Int) = 1 ↔ s.count 124 = 1 := by omega
    by_cases h : s.count 124 = 1
    · simp [d_is_marked, b_is_marked, fitA, frzE, D.tru, retM, endF, ioOf, cmpD, cmpR, RV.r, R.ar, R.dat, ARs.rd, AR.rd, ARs.dat, biD, bi1, intD, lenD, seqD, lstD, ixD, atD, binD, stoM, setSlot, Ob.toD, tyD, callM, locsA, giveA, backA, natOf, fmD, mtD, mt1, countD, strOf, sgn, opM, replM, replD, litS, eqD_q, h, e, isStrB, lenB, isMarkB]
    · simp [d_is_marked, b_is_marked, fitA, frzE, D.tru, retM, endF, ioOf, cmpD, cmpR, RV.r, R.ar, R.dat, ARs.rd, AR.rd, ARs.dat, biD, bi1, intD, lenD, seqD, lstD, ixD, atD, binD, stoM, setSlot, Ob.toD, tyD, callM, locsA, giveA, backA, natOf, fmD, mtD, mt1, countD, strOf, sgn, opM, eqD_q, h, isMarkB, e1]
  | _ => simp [d_is_marked, b_is_marked, fitA, frzE, D.tru, retM, endF, ioOf, cmpD, cmpR, RV.r, R.ar, R.dat, ARs.rd, AR.rd, ARs.dat, biD, bi1, intD, lenD, seqD, lstD, ixD, atD, binD, stoM, setSlot, Ob.toD, tyD, isMarkB]
theorem r_formatted_bad (k : Nat) (v w : Itp.D) (h : isFmtB v = false) : run sub Tb (k + 5) i_formatted [.val v, .val w] = rX e_InvalidFormatter := by
  rw [u_formatted]
  simp [d_formatted, b_formatted, fitA, frzE, D.tru, retM, endF, ioOf, cmpD, cmpR, RV.r, R.ar, R.dat, ARs.rd, AR.rd, ARs.dat, biD, bi1, intD, lenD, seqD, lstD, ixD, atD, binD, stoM, setSlot, Ob.toD, tyD, callM, locsA, giveA, backA, r_need_formatter, h]
theorem r_formatted_no (k : Nat) (F : Fm) (hF : FmOk F) (w : Itp.D) (hz : ∀ s, w = .str s → s.length ≤ lim) (h : isStrB F.s w 0 none = false) : run sub Tb (k + 5) i_formatted [.val (fmD F), .val w] = rX e_InvalidText := by
  rw [u_formatted]
  have hF' : isFmtB (fmD F) = true := hF
  have e := r_need_text (k + 2) F w hz
  rw [h] at e
  simp [d_formatted, b_formatted, fitA, frzE, D.tru, retM, endF, ioOf, cmpD, cmpR, RV.r, R.ar, R.dat, ARs.rd, AR.rd, ARs.dat, biD, bi1, intD, lenD, seqD, lstD, ixD, atD, binD, stoM, setSlot, Ob.toD, tyD, callM, locsA, giveA, backA, r_need_formatter, hF', e]
theorem r_formatted (k : Nat) (F : Fm) (hF : FmOk F) (cs : List Nat) (hz : cs.length ≤ 1000000) (h : ∀ c ∈ cs, c ∈ F.s) : run sub Tb (k + 5) i_formatted [.val (fmD F), .val (.str cs)] = rV (.str (fmP F cs)) := by
  rw [u_formatted]
  have hF' : isFmtB (fmD F) = true := hF
  have hlim : lim = 16777216 := rfl
  have e := r_need_text (k + 2) F (.str cs) (fun s z => by cases z; omega)
  have h' : isStrB F.s (.str cs) 0 none = true := by simpa [isStrB, lenB] using h
  rw [h'] at e
  simp [d_formatted, b_formatted, fitA, frzE, D.tru, retM, endF, ioOf, cmpD, cmpR, RV.r, R.ar, R.dat, ARs.rd, AR.rd, ARs.dat, biD, bi1, intD, lenD, seqD, lstD, ixD, atD, binD, stoM, setSlot, Ob.toD, tyD, callM, locsA, giveA, backA, r_need_formatter, hF', e, r_format_of, hF, hz]
theorem r_formatted_at_bad (k : Nat) (v w : Itp.D) (h : isFmtB v = false) : run sub Tb (k + 5) i_formatted_at [.val v, .val w] = rX e_InvalidFormatter := by
  rw [u_formatted_at]
  simp [d_formatted_at, b_formatted_at, fitA, frzE, D.tru, retM, endF, ioOf, cmpD, cmpR, RV.r, R.ar, R.dat, ARs.rd, AR.rd, ARs.dat, biD, bi1, intD, lenD, seqD, lstD, ixD, atD, binD, stoM, setSlot, Ob.toD, tyD, callM, locsA, giveA, backA, r_need_formatter, h]
theorem r_formatted_at_no (k : Nat) (F : Fm) (hF : FmOk F) (w : Itp.D) (hz : ∀ s, w = .str s → s.length ≤ lim) (h : isMarkB F w = false) : run sub Tb (k + 5) i_formatted_at [.val (fmD F), .val w] = rX e_InvalidMarked := by
  rw [u_formatted_at]
  have hF' : isFmtB (fmD F) = true := hF
  have e := r_is_marked (k + 2) F w hz
  rw [h] at e
  simp [d_formatted_at, b_formatted_at, fitA, frzE, D.tru, retM, endF, ioOf, cmpD, cmpR, RV.r, R.ar, R.dat, ARs.rd, AR.rd, ARs.dat, biD, bi1, intD, lenD, seqD, lstD, ixD, atD, binD, stoM, setSlot, Ob.toD, tyD, callM, locsA, giveA, backA, r_need_formatter, hF', e]
theorem r_formatted_at (k : Nat) (F : Fm) (hF : FmOk F) (cs : List Nat) (hz : cs.length ≤ 1000000) (h : isMarkB F (.str cs) = true) : run sub Tb (k + 5) i_formatted_at [.val (fmD F), .val (.str cs)] = rV (.str (fmP F cs)) := by
  rw [u_formatted_at]
  have hF' : isFmtB (fmD F) = true := hF
  have hlim : lim = 16777216 := rfl
  have e := r_is_marked (k + 2) F (.str cs) (fun s z => by cases z; omega)
  rw [h] at e
  simp [d_formatted_at, b_formatted_at, fitA, frzE, D.tru, retM, endF, ioOf, cmpD, cmpR, RV.r, R.ar, R.dat, ARs.rd, AR.rd, ARs.dat, biD, bi1, intD, lenD, seqD, lstD, ixD, atD, binD, stoM, setSlot, Ob.toD, tyD, callM, locsA, giveA, backA, r_need_formatter, hF', e, r_format_of, hF, hz]
end G
end
section
set_option autoImplicit false
set_option linter.all false
set_option maxRecDepth 100000
/-! The laws' draws. -/
namespace Itp
/-- a comprehension whose turns draw -/
theorem lc_draws {cl : Calls} {elt a b : Xp} {ik : ItK} {j : Nat} {ρ ρ1 : Env} {xs : List D} (J : Env → Prop) (R : D → Prop) (hi : evIt ik (evE cl a) (evE cl b) ρ = some (.ok (.items xs) ρ1)) (hJ : J ρ1) (hn : ∀ ρ, J ρ → ρ[j]? = some none)
    (turn : ∀ x ∈ xs, ∀ ρ, J ρ → ∃ ρ3 d, datM (evE cl elt) (ρ.set j (some (.val x))) = some (.ok d ρ3) ∧ R d ∧ J (ρ3.set j none)) (hz : xs.length ≤ lim) :
    ∃ ds ρ', evE cl (.lc elt (.nm j) ik a b (.k (.bl true)) [j]) ρ = some (.ok (.own (.lst ds)) ρ') ∧ ds.length = xs.length ∧ (∀ d ∈ ds, R d) ∧ J ρ' := by
  have w : ∀ ρ, J ρ → wipeE ρ [j] = ρ := fun ρ h => set_same (hn ρ h)
  have loop : ∀ (ys acc : List D) (ρ : Env), (∀ x ∈ ys, x ∈ xs) → J (wipeE ρ [j]) → acc.length + ys.length ≤ lim → ∃ ds ρ', lcL [j] (bindT (.nm j)) (tst (evE cl (.k (.bl true)))) (datM (evE cl elt)) acc ys ρ = some (.ok (acc ++ ds) ρ') ∧ ds.length = ys.length ∧ (∀ d ∈ ds, R d) ∧ J ρ' := by
    intro ys
    induction ys with
    | nil => intro acc ρ _ h _; exact ⟨[], wipeE ρ [j], by simp [lcL, wipeM], rfl, (fun d hd => nomatch hd), h⟩
    | cons y ys ih =>
      intro acc ρ hm h hl
      rw [List.length_cons] at hl
      obtain ⟨ρ3, d, e, r, J3⟩ := turn y (hm y (by simp)) _ h
      obtain ⟨ds, ρ', e', hl', hr, hJ'⟩ := ih (acc ++ [d]) ρ3 (fun x hx => hm x (by simp [hx])) J3 (by rw [List.length_append, List.length_singleton]; omega)
      have hlt : acc.length < lim := by omega
      have hb : bindT (.nm j) y (wipeE ρ [j]) = some (.ok () ((wipeE ρ [j]).set j (some (.val y)))) := by
        show setSlot j (.val y) _ = _
        unfold setSlot
        rw [hn _ h]
      refine ⟨d :: ds, ρ', ?_, by simp [hl'], fun x hx => ?_, hJ'⟩
      · rw [lcL]
        have ht : ∀ ρx, tst (evE cl (.k (.bl true))) ρx = some (.ok true ρx) := fun _ => rfl
        simp only [pl_bind, wipeM, hb, ht, if_true, e, hlt, e', List.append_assoc, List.singleton_append]
      · rcases List.mem_cons.mp hx with rfl | hx
        · exact r
        · exact hr x hx
  obtain ⟨ds, ρ', e, hl, hr, hJ'⟩ := loop xs [] (wipeE ρ1 [j]) (fun _ h => h) (by rw [w ρ1 hJ, w ρ1 hJ]; exact hJ) (by simpa using hz)
  refine ⟨ds, ρ', ?_, hl, hr, hJ'⟩
  rw [lc_eval hi e]
  have : restE ρ1 ρ' [j] = ρ' := by
    show (match ρ1[j]? with
      | some v => ρ'.set j v
      | none => ρ') = ρ'
    rw [hn _ hJ]
    exact set_same (hn _ hJ')
  rw [this]
  rfl
end Itp
namespace G
open Itp
def srcO (c s p n : Int) : Ob := .lst [.int c, .int s, .int p, .int n]
/-- a source of draws -/
def SrcOk (o : Ob) : Prop := ∃ c s p n : Int, o = srcO c s p n ∧ 0 ≤ s ∧ s < 4294967296 ∧ 0 < p ∧ p < 4294967296
theorem r_pick (k : Nat) (o : Ob) (ho : SrcOk o) (l : Int) (hl : 0 < l) (hb : l < 1073741824) : ∃ (r : Int) (o' : Ob), SrcOk o' ∧ 0 ≤ r ∧ r < l ∧ run sub Tb (k + 1) i__law_pick [.own true o, .val (.int l)] = some (.ret (.val (.int r)) [o']) := by
  obtain ⟨c, s, p, n, rfl, s0, s1, p0, p1⟩ := ho
  have h1 : l ≠ 0 := by omega
  have h2 : l.natAbs < 1073741824 := by omega
  by_cases h : 0 < c
  · refine ⟨c.fmod l, srcO (c.fdiv l) s p n, ⟨_, _, _, _, rfl, s0, s1, p0, p1⟩, Int.fmod_nonneg_of_pos _ hl, Int.fmod_lt_of_pos _ hl, ?_⟩
    rw [u__law_pick]
    simp [srcO, d__law_pick, b__law_pick, fitA, frzE, D.tru, retM, endF, ioOf, cmpD, cmpR, RV.r, R.ar, R.dat, ARs.rd, AR.rd, ARs.dat, biD, bi1, intD, lenD, seqD, lstD, ixD, atD, binD, stoM, setSlot, Ob.toD, tyD, natOf, setixM, h, h1, h2]
  · have hp : p ≠ 0 := by omega
    have e1 : smallI 48271 = true := by decide
    have e2 : smallI 7919 = true := by decide
    have e3 : ∀ x : Int, smallI (x.fmod p) = true := fun x => by
      have a1 := Int.fmod_nonneg_of_pos x p0
      have a2 := Int.fmod_lt_of_pos x p0
      unfold smallI
      simp
      omega
    refine ⟨((((s * 48271 + 7919 * (n + 1)).fmod p * (s * 48271 + 7919 * (n + 1)).fmod p + (n + 1)).fmod 2147483423).fdiv 7).fmod l, srcO c ((s * 48271 + 7919 * (n + 1)).fmod p) p (n + 1), ⟨_, _, _, _, rfl, Int.fmod_nonneg_of_pos _ p0, by have := Int.fmod_lt_of_pos (s * 48271 + 7919 * (n + 1)) p0; omega, p0, p1⟩, Int.fmod_nonneg_of_pos _ hl, Int.fmod_lt_of_pos _ hl, ?_⟩
    rw [u__law_pick]
    simp [srcO, d__law_pick, b__law_pick, fitA, frzE, D.tru, retM, endF, ioOf, cmpD, cmpR, RV.r, R.ar, R.dat, ARs.rd, AR.rd, ARs.dat, biD, bi1, intD, lenD, seqD, lstD, ixD, atD, binD, stoM, setSlot, Ob.toD, tyD, natOf, setixM, h, h1, h2, hp, e1, e2, e3]
theorem r_chosen (k : Nat) (o : Ob) (ho : SrcOk o) (xs : List Itp.D) (hx : xs ≠ []) (hz : xs.length < 1073741824) : ∃ (x : Itp.D) (o' : Ob), SrcOk o' ∧ x ∈ xs ∧ run sub Tb (k + 2) i__law_chosen [.own true o, .val (.lst xs)] = some (.ret (.val x) [o']) := by
  have hl : 0 < xs.length := by cases xs <;> simp_all
  obtain ⟨r, o', ho', r0, r1, e⟩ := r_pick k o ho xs.length (by omega) (by omega)
  have hi : r.toNat < xs.length := by omega
  refine ⟨xs[r.toNat], o', ho', List.getElem_mem hi, ?_⟩
  rw [u__law_chosen]
  have hlt : r < xs.length := r1
  simp [d__law_chosen, b__law_chosen, fitA, frzE, D.tru, retM, endF, ioOf, cmpD, cmpR, RV.r, R.ar, R.dat, ARs.rd, AR.rd, ARs.dat, biD, bi1, intD, lenD, seqD, lstD, ixD, atD, binD, stoM, setSlot, Ob.toD, tyD, callM, locsA, giveA, backA, natOf, e, r0, hlt, hi]
theorem r_chosen_s (k : Nat) (o : Ob) (ho : SrcOk o) (s : List Nat) (hx : s ≠ []) (hz : s.length < 1073741824) : ∃ (c : Nat) (o' : Ob), SrcOk o' ∧ c ∈ s ∧ run sub Tb (k + 2) i__law_chosen [.own true o, .val (.lst (sgs s))] = some (.ret (.val (.str [c])) [o']) := by
  obtain ⟨x, o', h1, h2, h3⟩ := r_chosen k o ho (sgs s) (by cases s <;> simp_all) (by simpa using hz)
  obtain ⟨c, hc, rfl⟩ := List.mem_map.mp h2
  exact ⟨c, o', h1, hc, h3⟩
theorem r_source (k : Nat) (ns : List Int) (i : Nat) (hi : i < 64) (hl : ns.length ≤ 63) : ∃ o, SrcOk o ∧ run sub Tb (k + 1) i__law_source [.val (.ro (ns.map Itp.D.int)), .val (.int i)] = some (.ret (.own o) []) := by
  have main : ∀ (cell : Int), ∃ o, SrcOk o ∧ ((i < ns.length → ns[i]? = some cell) → (¬ i < ns.length → cell = 0) → run sub Tb (k + 1) i__law_source [.val (.ro (ns.map Itp.D.int)), .val (.int i)] = some (.ret (.own o) [])) := by
    intro cell
    have p8 : ∀ j : Int, 0 ≤ j → j < 8 → ∃ p : Int, ([.int 2147483647, .int 2147483629, .int 2147483587, .int 2147483579, .int 2147483563, .int 2147483549, .int 2147483543, .int 2147483497] : List Itp.D)[j.toNat]? = some (.int p) ∧ 0 < p ∧ p < 4294967296 := by
      intro j h0 h8
      obtain ⟨n, rfl⟩ := Int.eq_ofNat_of_zero_le h0
      have : n = 0 ∨ n = 1 ∨ n = 2 ∨ n = 3 ∨ n = 4 ∨ n = 5 ∨ n = 6 ∨ n = 7 := by omega
      rcases this with rfl | rfl | rfl | rfl | rfl | rfl | rfl | rfl <;> exact ⟨_, rfl, by decide, by decide⟩
    have m0 := Int.fmod_nonneg_of_pos (i : Int) (b := 8) (by decide)
    have m1 := Int.fmod_lt_of_pos (i : Int) (b := 8) (by decide)
    obtain ⟨p, hp, p0, p1⟩ := p8 ((i : Int).fmod 8) m0 m1
    have sm : ∀ x : Int, smallI x = true ↔ -(2 ^ 64) < x ∧ x < 2 ^ 64 := fun x => by simp [smallI]
    have s1 : smallI (48271 + 2 * (i : Int)) = true := (sm _).mpr (by omega)
    have s2 : smallI 2 = true := (sm _).mpr (by omega)
    have s3 : ∀ x : Int, smallI (x.fmod 2147483489) = true := fun x => (sm _).mpr (by
      have := Int.fmod_nonneg_of_pos x (b := 2147483489) (by decide)
      have := Int.fmod_lt_of_pos x (b := 2147483489) (by decide)
      omega)
    have t0 := Int.fmod_nonneg_of_pos ((((cell.fmod 2147483489 + 1) * (48271 + 2 * (i : Int))).fmod 2147483489) * (((cell.fmod 2147483489 + 1) * (48271 + 2 * (i : Int))).fmod 2147483489)) (b := 2147483477) (by decide)
    have t1 := Int.fmod_lt_of_pos ((((cell.fmod 2147483489 + 1) * (48271 + 2 * (i : Int))).fmod 2147483489) * (((cell.fmod 2147483489 + 1) * (48271 + 2 * (i : Int))).fmod 2147483489)) (b := 2147483477) (by decide)
    have a1 : ((i : Int).fmod 8).toNat < 8 := by omega
    obtain ⟨_, hq⟩ := List.getElem?_eq_some_iff.mp hp
    by_cases hc : (1000000000000000000 : Int) ≤ cell
    · refine ⟨srcO cell (((((cell.fmod 2147483489 + 1) * (48271 + 2 * (i : Int))).fmod 2147483489) * (((cell.fmod 2147483489 + 1) * (48271 + 2 * (i : Int))).fmod 2147483489)).fmod 2147483477 + i + 1) p 0, ⟨_, _, _, _, rfl, by omega, by omega, p0, p1⟩, fun h1 h2 => ?_⟩
      rw [u__law_source]
      by_cases hn : i < ns.length
      · have hn' : (i : Int) < ns.length := by omega
        have e := h1 hn
        simp [srcO, d__law_source, b__law_source, fitA, frzE, D.tru, retM, endF, ioOf, cmpD, cmpR, RV.r, R.ar, R.dat, ARs.rd, AR.rd, ARs.dat, biD, bi1, intD, lenD, seqD, lstD, ixD, atD, binD, stoM, setSlot, Ob.toD, tyD, natOf, hn', e, hc, s1, s2, s3, m0, m1, hq, a1]
      · have := h2 hn
        omega
    · refine ⟨srcO 0 (((((cell.fmod 2147483489 + 1) * (48271 + 2 * (i : Int))).fmod 2147483489) * (((cell.fmod 2147483489 + 1) * (48271 + 2 * (i : Int))).fmod 2147483489)).fmod 2147483477 + i + 1) p 0, ⟨_, _, _, _, rfl, by omega, by omega, p0, p1⟩, fun h1 h2 => ?_⟩
      rw [u__law_source]
      by_cases hn : i < ns.length
      · have hn' : (i : Int) < ns.length := by omega
        have e := h1 hn
        simp [srcO, d__law_source, b__law_source, fitA, frzE, D.tru, retM, endF, ioOf, cmpD, cmpR, RV.r, R.ar, R.dat, ARs.rd, AR.rd, ARs.dat, biD, bi1, intD, lenD, seqD, lstD, ixD, atD, binD, stoM, setSlot, Ob.toD, tyD, natOf, hn', e, hc, s1, s2, s3, m0, m1, hq, a1]
      · have hn' : ¬ (i : Int) < ns.length := by omega
        have := h2 hn
        subst this
        simp [srcO, d__law_source, b__law_source, fitA, frzE, D.tru, retM, endF, ioOf, cmpD, cmpR, RV.r, R.ar, R.dat, ARs.rd, AR.rd, ARs.dat, biD, bi1, intD, lenD, seqD, lstD, ixD, atD, binD, stoM, setSlot, Ob.toD, tyD, natOf, hn', s1, s2, s3, m0, m1, hq, a1]
  by_cases hn : i < ns.length
  · obtain ⟨o, ho, e⟩ := main ns[i]
    exact ⟨o, ho, e (fun _ => List.getElem?_eq_getElem hn) (fun z => absurd hn z)⟩
  · obtain ⟨o, ho, e⟩ := main 0
    exact ⟨o, ho, e (fun z => absurd z hn) (fun _ => rfl)⟩
end G
end
section
set_option autoImplicit false
set_option linter.all false
set_option maxRecDepth 100000
namespace Itp
theorem strsOf_sgs : ∀ t : List Nat, strsOf (sgs t) = some (t.map fun c => [c])
  | [] => rfl
  | c :: t => by simp [strsOf, strsOf_sgs t]
theorem joinS_sgs : ∀ t : List Nat, joinS [] (t.map fun c => [c]) = t
  | [] => rfl
  | [c] => rfl
  | c :: d :: t => by
    have := joinS_sgs (d :: t)
    simp only [List.map] at this ⊢
    rw [joinS, this]
    rfl
theorem join_sgs (t : List Nat) (h : t.length ≤ lim) : mtD .join (.str []) [.lst (sgs t)] = some (.val (.str t)) := by
  simp [mtD, mt1, joinD, strOf, lstD, strsOf_sgs, joinS_sgs]
  have : (List.map (List.length ∘ fun c : Nat => [c]) t).sum = t.length := by
    induction t with
    | nil => rfl
    | cons c t ih =>
      rw [List.length_cons] at h
      simp [ih (by omega)]
      omega
  rw [this]
  exact h
theorem sgs_form : ∀ (ds : List D) (P : Nat → Prop), (∀ d ∈ ds, ∃ c, d = .str [c] ∧ P c) → ∃ t, ds = sgs t ∧ (∀ c ∈ t, P c)
  | [], P, _ => ⟨[], rfl, (fun c hc => nomatch hc)⟩
  | d :: ds, P, h => by
    obtain ⟨c, rfl, hc⟩ := h d (by simp)
    obtain ⟨t, rfl, ht⟩ := sgs_form ds P fun x hx => h x (by simp [hx])
    exact ⟨c :: t, rfl, fun x hx => by
      rcases List.mem_cons.mp hx with rfl | hx
      · exact hc
      · exact ht x hx⟩
@[simp] theorem sl_str (s : List Nat) (lo hi : Option Int) : slD (.str s) lo hi = some (.val (.str (cut s lo hi))) := rfl
theorem cut_to {α : Type} (s : List α) (m : Nat) : cut s none (some (m : Int)) = s.take m := by
  unfold cut sIx
  have : ¬ (m : Int) < 0 := by omega
  simp [this]
theorem cut_from {α : Type} (s : List α) (m : Nat) : cut s (some (m : Int)) none = s.drop m := by
  unfold cut sIx
  have : ¬ (m : Int) < 0 := by omega
  simp [this]
  by_cases h : m ≤ s.length
  · rw [Nat.min_eq_left h]
    exact List.take_of_length_le (by simp)
  · rw [Nat.min_eq_right (by omega)]
    simp
    try omega
@[simp] theorem rangeD_len (lo hi : Int) : (rangeD lo hi).length = (hi - lo).toNat := by simp [rangeD]
end Itp
namespace G
open Itp
theorem okR {i : Int} (h0 : -1000000 ≤ i) (h1 : i ≤ 1000000) : okRange i = true := by unfold okRange; simp; omega
/-- "".join([_law_chosen(source, list(signs)) for turn in range(..)]), the comprehension -/
theorem draws_s (k : Nat) (elt a b : Xp) (s : List Nat) (hs : s ≠ []) (hz : s.length < 1073741824) (j : Nat) (ρ ρ1 : Env) (n : Int) (hn : n ≤ 1000000) (J : Env → Prop) (hi : evIt .rng1 (evE (run sub Tb (k + 2)) a) (evE (run sub Tb (k + 2)) b) ρ = some (.ok (.items (rangeD 0 n)) ρ1)) (hJ : J ρ1) (hj : ∀ ρ, J ρ → ρ[j]? = some none)
    (turn : ∀ x ρ, J ρ → ∃ ρ3 c, datM (evE (run sub Tb (k + 2)) elt) (ρ.set j (some (.val x))) = some (.ok (.str [c]) ρ3) ∧ c ∈ s ∧ J (ρ3.set j none)) :
    ∃ t ρ', evE (run sub Tb (k + 2)) (.lc elt (.nm j) .rng1 a b (.k (.bl true)) [j]) ρ = some (.ok (.own (.lst (sgs t))) ρ') ∧ (t.length : Int) ≤ max 0 n ∧ (∀ c ∈ t, c ∈ s) ∧ J ρ' := by
  obtain ⟨ds, ρ', e, hl, hr, hJ'⟩ := lc_draws (elt := elt) (j := j) J (fun d => ∃ c, d = .str [c] ∧ c ∈ s) hi hJ hj (fun x _ ρ h => by
    obtain ⟨ρ3, c, e, hc, h3⟩ := turn x ρ h
    exact ⟨ρ3, _, e, ⟨c, rfl, hc⟩, h3⟩) (by rw [rangeD_len]; have : lim = 16777216 := rfl; omega)
  obtain ⟨t, rfl, ht⟩ := sgs_form ds (fun c => c ∈ s) hr
  refine ⟨t, ρ', e, ?_, ht, hJ'⟩
  rw [sgs_len, rangeD_len] at hl
  omega
theorem r_output (k : Nat) (o : Ob) (ho : SrcOk o) (s : List Nat) (c : Nat) (hc : c ∈ s) (hz : s.length ≤ 1000) (m : Nat) (hm0 : 1 ≤ m) (hm : m ≤ 1000) :
    ∃ (out : List Nat) (o' : Ob), SrcOk o' ∧ out.length ≤ m ∧ (∀ x ∈ out, x ∈ s) ∧ run sub Tb (k + 3) i__law_output [.own true o, .val (.str s), .val (.str [c]), .val (.int m)] = some (.ret (.val (.str out)) [o']) := by
  have hs : s ≠ [] := by rintro rfl; cases hc
  have hlim : lim = 16777216 := rfl
  obtain ⟨r, o1, ho1, r0, r1, e1⟩ := r_pick (k + 1) o ho 10 (by omega) (by omega)
  obtain ⟨d, o2, ho2, hd, e2⟩ := r_chosen_s k o1 ho1 s hs (by omega)
  rw [u__law_output]
  by_cases h5 : r < 5
  · exact ⟨[c], o2, ho2, by simpa using hm0, by simpa using hc, by simp [d__law_output, b__law_output, fitA, frzE, D.tru, retM, endF, ioOf, cmpD, cmpR, RV.r, R.ar, R.dat, ARs.rd, AR.rd, ARs.dat, biD, bi1, intD, lenD, seqD, lstD, ixD, atD, binD, stoM, setSlot, Ob.toD, tyD, callM, locsA, giveA, backA, e1, e2, evP, consP, stoP, h5]⟩
  · by_cases h7 : r < 7
    · refine ⟨cut [d, c] none (some (m : Int)), o2, ho2, ?_, ?_, by simp [d__law_output, b__law_output, fitA, frzE, D.tru, retM, endF, ioOf, cmpD, cmpR, RV.r, R.ar, R.dat, ARs.rd, AR.rd, ARs.dat, biD, bi1, intD, lenD, seqD, lstD, ixD, atD, binD, stoM, setSlot, Ob.toD, tyD, callM, locsA, giveA, backA, e1, e2, evP, consP, stoP, h5, h7, evOf, intM]⟩
      · rw [cut_to, List.length_take]; omega
      · rw [cut_to]
        intro x hx
        have := List.mem_of_mem_take hx
        simp at this
        rcases this with rfl | rfl <;> assumption
    · by_cases h8 : r = 7
      · refine ⟨cut [c, d] none (some (m : Int)), o2, ho2, ?_, ?_, by simp [d__law_output, b__law_output, fitA, frzE, D.tru, retM, endF, ioOf, cmpD, cmpR, RV.r, R.ar, R.dat, ARs.rd, AR.rd, ARs.dat, biD, bi1, intD, lenD, seqD, lstD, ixD, atD, binD, stoM, setSlot, Ob.toD, tyD, callM, locsA, giveA, backA, e1, e2, evP, consP, stoP, h8, evOf, intM, eqD_q]⟩
        · rw [cut_to, List.length_take]; omega
        · rw [cut_to]
          intro x hx
          have := List.mem_of_mem_take hx
          simp at this
          rcases this with rfl | rfl <;> assumption
      · by_cases h9 : r = 8
        · exact ⟨[], o2, ho2, by simp, by simp, by simp [d__law_output, b__law_output, fitA, frzE, D.tru, retM, endF, ioOf, cmpD, cmpR, RV.r, R.ar, R.dat, ARs.rd, AR.rd, ARs.dat, biD, bi1, intD, lenD, seqD, lstD, ixD, atD, binD, stoM, setSlot, Ob.toD, tyD, callM, locsA, giveA, backA, e1, e2, evP, consP, stoP, h9, eqD_q]⟩
        · obtain ⟨n, o3, ho3, n0, n1, e3⟩ := r_pick (k + 1) o2 ho2 ((m : Int) + 1) (by omega) (by omega)
          obtain ⟨t, ρ', e4, hl, ht, o4, ho4, rfl⟩ := draws_s k (.call i__law_chosen (.acons (.v 0) (.acons (.bi .list (.acons (.v 1) .anil)) .anil))) (.call i__law_pick (.acons (.v 0) (.acons (.bin .add (.v 3) (.k (.int 1))) .anil))) .anil s hs (by omega) 6
            [some (.own true o2), some (.val (.str s)), some (.val (.str [c])), some (.val (.int m)), some (.val (.int r)), some (.val (.str [d])), none]
            [some (.own true o3), some (.val (.str s)), some (.val (.str [c])), some (.val (.int m)), some (.val (.int r)), some (.val (.str [d])), none] n (by omega)
            (fun ρ => ∃ o, SrcOk o ∧ ρ = [some (.own true o), some (.val (.str s)), some (.val (.str [c])), some (.val (.int m)), some (.val (.int r)), some (.val (.str [d])), none])
            (by simp [evIt, fitA, frzE, D.tru, retM, endF, ioOf, cmpD, cmpR, RV.r, R.ar, R.dat, ARs.rd, AR.rd, ARs.dat, biD, bi1, intD, lenD, seqD, lstD, ixD, atD, binD, stoM, setSlot, Ob.toD, tyD, callM, locsA, giveA, backA, e3, rng1D, okR (i := n) (by omega) (by omega)]) ⟨o3, ho3, rfl⟩ (fun ρ ⟨o, _, e⟩ => by subst e; rfl) (fun x ρ ⟨o, ho, e⟩ => by
              subst e
              obtain ⟨d', o', ho', hd', e'⟩ := r_chosen_s k o ho s hs (by omega)
              exact ⟨[some (.own true o'), some (.val (.str s)), some (.val (.str [c])), some (.val (.int m)), some (.val (.int r)), some (.val (.str [d])), some (.val x)], d', by simp [fitA, frzE, D.tru, retM, endF, ioOf, cmpD, cmpR, RV.r, R.ar, R.dat, ARs.rd, AR.rd, ARs.dat, biD, bi1, intD, lenD, seqD, lstD, ixD, atD, binD, stoM, setSlot, Ob.toD, tyD, callM, locsA, giveA, backA, e'], hd', o', ho', rfl⟩)
          refine ⟨t, o4, ho4, by omega, ht, ?_⟩
          simp [d__law_output, b__law_output, q__law_output_1, fitA, frzE, D.tru, retM, endF, ioOf, cmpD, cmpR, RV.r, R.ar, R.dat, ARs.rd, AR.rd, ARs.dat, biD, bi1, intD, lenD, seqD, lstD, ixD, atD, binD, stoM, setSlot, Ob.toD, tyD, callM, locsA, giveA, backA, e1, e2, evP, consP, stoP, h5, h7, h8, h9, eqD_q, e4, opM, join_sgs t (by omega)]
theorem r_text (k : Nat) (o : Ob) (ho : SrcOk o) (s : List Nat) (hs : s ≠ []) (hz : s.length ≤ 1000) (m : Nat) (hm : m ≤ 1000) :
    ∃ (t : List Nat) (o' : Ob), SrcOk o' ∧ t.length ≤ m ∧ (∀ x ∈ t, x ∈ s) ∧ run sub Tb (k + 3) i__law_text [.own true o, .val (.str s), .val (.int m)] = some (.ret (.val (.str t)) [o']) := by
  have hlim : lim = 16777216 := rfl
  rw [u__law_text]
  obtain ⟨n, o3, ho3, n0, n1, e3⟩ := r_pick (k + 1) o ho ((m : Int) + 1) (by omega) (by omega)
  obtain ⟨t, ρ', e4, hl, ht, o4, ho4, rfl⟩ := draws_s k (.call i__law_chosen (.acons (.v 0) (.acons (.bi .list (.acons (.v 1) .anil)) .anil))) (.call i__law_pick (.acons (.v 0) (.acons (.bin .add (.v 2) (.k (.int 1))) .anil))) .anil s hs (by omega) 3
    [some (.own true o), some (.val (.str s)), some (.val (.int m)), none] [some (.own true o3), some (.val (.str s)), some (.val (.int m)), none] n (by omega)
    (fun ρ => ∃ o, SrcOk o ∧ ρ = [some (.own true o), some (.val (.str s)), some (.val (.int m)), none])
    (by simp [evIt, fitA, frzE, D.tru, retM, endF, ioOf, cmpD, cmpR, RV.r, R.ar, R.dat, ARs.rd, AR.rd, ARs.dat, biD, bi1, intD, lenD, seqD, lstD, ixD, atD, binD, stoM, setSlot, Ob.toD, tyD, callM, locsA, giveA, backA, e3, rng1D, okR (i := n) (by omega) (by omega)]) ⟨o3, ho3, rfl⟩ (fun ρ ⟨o, _, e⟩ => by subst e; rfl) (fun x ρ ⟨o, ho, e⟩ => by
      subst e
      obtain ⟨d', o', ho', hd', e'⟩ := r_chosen_s k o ho s hs (by omega)
      exact ⟨[some (.own true o'), some (.val (.str s)), some (.val (.int m)), some (.val x)], d', by simp [fitA, frzE, D.tru, retM, endF, ioOf, cmpD, cmpR, RV.r, R.ar, R.dat, ARs.rd, AR.rd, ARs.dat, biD, bi1, intD, lenD, seqD, lstD, ixD, atD, binD, stoM, setSlot, Ob.toD, tyD, callM, locsA, giveA, backA, e'], hd', o', ho', rfl⟩)
  refine ⟨t, o4, ho4, by omega, ht, ?_⟩
  simp [d__law_text, b__law_text, q__law_text_1, fitA, frzE, D.tru, retM, endF, ioOf, cmpD, cmpR, RV.r, R.ar, R.dat, ARs.rd, AR.rd, ARs.dat, biD, bi1, intD, lenD, seqD, lstD, ixD, atD, binD, stoM, setSlot, Ob.toD, tyD, callM, locsA, giveA, backA, e4, opM, join_sgs t (by omega)]
end G
end
section
set_option autoImplicit false
set_option linter.all false
set_option maxRecDepth 100000
namespace G
open Itp
theorem risB_pw {α : Type} (f : α → Itp.D) (R : α → α → Prop) (h : ∀ a b, R a b → ltB (f a) (f b) = true) : ∀ xs : List α, xs.Pairwise R → risB (xs.map f) = true
  | [], _ => rfl
  | [a], _ => rfl
  | a :: b :: r, hp => by
    have h2 := risB_pw f R h (b :: r) (List.pairwise_cons.mp hp).2
    have h1 := h a b ((List.pairwise_cons.mp hp).1 b (by simp))
    show (ltB (f a) (f b) && risB ((b :: r).map f)) = true
    rw [h1, h2]
    rfl
theorem pw_risB {α : Type} (f : α → Itp.D) (R : α → α → Prop) (tr : ∀ a b c, R a b → R b c → R a c) (h : ∀ a b, ltB (f a) (f b) = true → R a b) : ∀ xs : List α, risB (xs.map f) = true → xs.Pairwise R
  | [], _ => List.Pairwise.nil
  | [a], _ => by simp
  | a :: b :: r, hp => by
    have hp' : (ltB (f a) (f b) && risB ((b :: r).map f)) = true := hp
    rw [Bool.and_eq_true] at hp'
    have h2 := pw_risB f R tr h (b :: r) hp'.2
    have h1 := h a b hp'.1
    refine List.pairwise_cons.mpr ⟨fun c hc => ?_, h2⟩
    rcases List.mem_cons.mp hc with rfl | hc
    · exact h1
    · exact tr a b c h1 ((List.pairwise_cons.mp h2).1 c hc)
def kLt (m m' : Mv) : Prop := m.i < m'.i ∨ m.i = m'.i ∧ m.c < m'.c
theorem kLt_tr (a b c : Mv) (h1 : kLt a b) (h2 : kLt b c) : kLt a c := by unfold kLt at *; omega
@[simp] theorem lt_one (c d : Nat) : ([c] < [d]) ↔ c < d := by
  constructor
  · intro h
    cases h with
    | rel h => exact h
    | cons h => cases h
  · intro h
    exact List.Lex.rel h
theorem ltB_mv (m m' : Mv) : ltB (pre2 (mvD m)) (pre2 (mvD m')) = true ↔ kLt m m' := by
  have e1 : (m.i : Int) = m'.i ↔ m.i = m'.i := by omega
  have e2 : (m.i : Int) < m'.i ↔ m.i < m'.i := by omega
  by_cases h : m.i = m'.i <;> by_cases h2 : m.c = m'.c <;> simp [mvD, pre2, ltB, cmpD, D.alks, D.alk, D.ltqs, D.ltq, kLt, e1, e2, h, h2]
theorem ltB_en (m m' : En) : ltB (pre1 (enD m)) (pre1 (enD m')) = true ↔ m.i < m'.i := by
  have e1 : (m.i : Int) = m'.i ↔ m.i = m'.i := by omega
  have e2 : (m.i : Int) < m'.i ↔ m.i < m'.i := by omega
  by_cases h : m.i = m'.i <;> simp [enD, pre1, ltB, cmpD, D.alks, D.alk, D.ltqs, D.ltq, e1, e2, h]
theorem rm_iff (ms : List Mv) : risB ((ms.map mvD).map pre2) = true ↔ ms.Pairwise kLt := by
  rw [List.map_map]
  exact ⟨pw_risB _ _ kLt_tr (fun a b => (ltB_mv a b).mp) ms, risB_pw _ _ (fun a b => (ltB_mv a b).mpr) ms⟩
theorem re_iff (es : List En) : risB ((es.map enD).map pre1) = true ↔ es.Pairwise fun e e' => e.i < e'.i := by
  rw [List.map_map]
  exact ⟨pw_risB _ (fun e e' : En => e.i < e'.i) (fun a b c h1 h2 => Nat.lt_trans h1 h2) (fun a b => (ltB_en a b).mp) es, risB_pw _ _ (fun a b => (ltB_en a b).mpr) es⟩
theorem ltB_sg (c d : Nat) : ltB (.str [c]) (.str [d]) = true ↔ c < d := by simp [ltB, cmpD]
theorem rs_iff (s : List Nat) : risB (sgs s) = true ↔ s.Pairwise (· < ·) :=
  ⟨pw_risB (fun c : Nat => Itp.D.str [c]) (fun a b : Nat => a < b) (fun a b c h1 h2 => Nat.lt_trans h1 h2) (fun a b => (ltB_sg a b).mp) s, risB_pw (fun c : Nat => Itp.D.str [c]) (fun a b : Nat => a < b) (fun a b => (ltB_sg a b).mpr) s⟩
theorem natD_range (n : Nat) : rangeD 0 (n : Int) = (List.range' 0 n).map fun m => .int ((m : Nat) : Int) := by
  unfold rangeD
  simp [List.range_eq_range']
theorem natD_range1 (n : Nat) : rangeD 0 (1 + (n : Int)) = (List.range' 0 (1 + n)).map fun m => .int ((m : Nat) : Int) := by
  have := natD_range (1 + n)
  rw [show ((1 + n : Nat) : Int) = 1 + (n : Int) by omega] at this
  exact this
/-- some signs -/
structure SgOk (s : List Nat) : Prop where
  ok : areSignsB (.str s) = true
theorem SgOk.ne {s : List Nat} (h : SgOk s) : s ≠ [] := by
  rintro rfl
  exact absurd h.ok (by decide)
theorem SgOk.len {s : List Nat} (h : SgOk s) : s.length ≤ 3 := by
  have := h.ok
  simp [areSignsB] at this
  omega
theorem SgOk.pw {s : List Nat} (h : SgOk s) : s.Pairwise (· < ·) := by
  have := h.ok
  simp [areSignsB] at this
  exact (rs_iff s).mp this.2
end G
end
section
set_option autoImplicit false
set_option linter.all false
set_option maxRecDepth 100000
namespace G
open Itp
theorem drawn_inner (k : Nat) (s : List Nat) (hs : SgOk s) (n m w : Nat) (hm0 : 1 ≤ m) (hm : m ≤ 3) (hw : w ≤ 3) : ∀ (i : Nat) (es : List En) (ρ : Env) (o : Ob) (ms : List Mv) (v8 : Option SV), i ≤ 3 → ρ = [some (.own true o), some (.val (.str s)), some (.val (.int n)), some (.val (.int m)), some (.val (.int i)), some (.val (.int (1 + (w : Int)))), some (.own false (.lst (ms.map mvD))), some (.own false (.lst (es.map enD))), v8] → Soft v8 → SrcOk o →
      (∀ m ∈ ms, m.i < i ∧ m.c ∈ s ∧ m.g ≤ 3 ∧ m.o.length ≤ 3 ∧ ∀ c ∈ m.o, c ∈ s) → ms.Pairwise kLt → ms.length ≤ 3 * i →
      ∃ (o' : Ob) (ms' : List Mv) (v8' : Option SV), SrcOk o' ∧ Soft v8' ∧ (∀ m ∈ ms', m.i < i + 1 ∧ m.c ∈ s ∧ m.g ≤ 3 ∧ m.o.length ≤ 3 ∧ ∀ c ∈ m.o, c ∈ s) ∧ ms'.Pairwise kLt ∧ ms'.length ≤ 3 * (i + 1) ∧
        evS sub (run sub Tb (k + 3)) f__law_drawn_2 ρ = some (.ok .next [some (.own true o'), some (.val (.str s)), some (.val (.int n)), some (.val (.int m)), some (.val (.int i)), some (.val (.int (1 + (w : Int)))), some (.own false (.lst (ms'.map mvD))), some (.own false (.lst (es.map enD))), v8']) := by
    have hlim : lim = 16777216 := rfl
    have hsl := hs.len
    intro i es ρ o ms v8 hi hρ hv8 ho hms hpw hlen
    subst hρ
    obtain ⟨ρ', ⟨r, o', ms', v8', e0, rfl, ho', hv', _, h1, h2, h3, h4⟩, e⟩ := forL_inv (bt := bindT (.nm 8)) (b := evS sub (run sub Tb (k + 3)) l__law_drawn_2)
      (fun rest ρ => ∃ (r : List Nat) (o : Ob) (ms : List Mv) (v8 : Option SV), rest = sgs r ∧ ρ = [some (.own true o), some (.val (.str s)), some (.val (.int n)), some (.val (.int m)), some (.val (.int i)), some (.val (.int (1 + (w : Int)))), some (.own false (.lst (ms.map mvD))), some (.own false (.lst (es.map enD))), v8] ∧ SrcOk o ∧ Soft v8 ∧ (∃ d, s = d ++ r) ∧
        (∀ m ∈ ms, m.i < i + 1 ∧ m.c ∈ s ∧ m.g ≤ 3 ∧ m.o.length ≤ 3 ∧ ∀ c ∈ m.o, c ∈ s) ∧ ms.Pairwise kLt ∧ (∀ m ∈ ms, m.i < i ∨ m.i = i ∧ ∀ c ∈ r, m.c < c) ∧ ms.length + r.length ≤ 3 * (i + 1))
      (sgs s) (fun x rest ρ ⟨r, o, ms, v8, e0, eρ, ho, hv, ⟨d, hd⟩, h1, h2, h3, h4⟩ => by
        subst eρ
        cases r with
        | nil => cases e0
        | cons c r =>
          cases e0
          rw [List.length_cons] at h4
          have hcs : c ∈ s := by rw [hd]; simp
          have hcr : ∀ c' ∈ r, c < c' := by
            have := hs.pw
            rw [hd] at this
            exact (List.pairwise_cons.mp (List.pairwise_append.mp this).2.1).1
          refine ⟨[some (.own true o), some (.val (.str s)), some (.val (.int n)), some (.val (.int m)), some (.val (.int i)), some (.val (.int (1 + (w : Int)))), some (.own false (.lst (ms.map mvD))), some (.own false (.lst (es.map enD))), some (.val (.str [c]))], by rcases hv with rfl | ⟨d, rfl⟩ <;> rfl, ?_⟩
          obtain ⟨q, o2, ho2, q0, q1, e2⟩ := r_pick (k + 2) o ho 5 (by omega) (by omega)
          by_cases hq : 0 < q
          · obtain ⟨g, o3, ho3, g0, g1, e3⟩ := r_pick (k + 2) o2 ho2 (1 + (w : Int)) (by omega) (by omega)
            obtain ⟨out, o4, ho4, hl, hout, e4⟩ := r_output k o3 ho3 s c hcs (by omega) m hm0 (by omega)
            obtain ⟨g, rfl⟩ := Int.eq_ofNat_of_zero_le g0
            have hlt : (ms.map mvD).length < lim := by simp; omega
            have hlt' : ms.length < lim := by omega
            refine ⟨[some (.own true o4), some (.val (.str s)), some (.val (.int n)), some (.val (.int m)), some (.val (.int i)), some (.val (.int (1 + (w : Int)))), some (.own false (.lst ((ms ++ [Mv.mk i c g out]).map mvD))), some (.own false (.lst (es.map enD))), some (.val (.str [c]))], .inl ?_,
              r, o4, ms ++ [Mv.mk i c g out], _, rfl, rfl, ho4, .val _, ⟨d ++ [c], by rw [hd]; simp⟩, ?_, ?_, ?_, ?_⟩
            · simp [l__law_drawn_2, fitA, frzE, D.tru, retM, endF, ioOf, cmpD, cmpR, RV.r, R.ar, R.dat, ARs.rd, AR.rd, ARs.dat, biD, bi1, intD, lenD, seqD, lstD, ixD, atD, binD, stoM, setSlot, Ob.toD, tyD, callM, locsA, giveA, backA, e2, e3, e4, hq, mmX, mmM, mmD, hlt', mvD]
            · intro z hz
              rcases List.mem_append.mp hz with hz | hz
              · exact h1 z hz
              · simp at hz; subst hz; exact ⟨by show i < i + 1; omega, hcs, by show g ≤ 3; omega, by show out.length ≤ 3; omega, hout⟩
            · refine List.pairwise_append.mpr ⟨h2, by simp, fun a ha b hb => ?_⟩
              simp at hb; subst hb
              rcases h3 a ha with h | ⟨h, h'⟩
              · exact .inl h
              · exact .inr ⟨h, h' c (by simp)⟩
            · intro z hz
              rcases List.mem_append.mp hz with hz | hz
              · rcases h3 z hz with h | ⟨h, h'⟩
                · exact .inl h
                · exact .inr ⟨h, fun c' hc' => h' c' (by simp [hc'])⟩
              · simp at hz; subst hz; exact .inr ⟨rfl, hcr⟩
            · simp; omega
          · refine ⟨[some (.own true o2), some (.val (.str s)), some (.val (.int n)), some (.val (.int m)), some (.val (.int i)), some (.val (.int (1 + (w : Int)))), some (.own false (.lst (ms.map mvD))), some (.own false (.lst (es.map enD))), some (.val (.str [c]))], .inl ?_,
              r, o2, ms, _, rfl, rfl, ho2, .val _, ⟨d ++ [c], by rw [hd]; simp⟩, h1, h2, ?_, by omega⟩
            · simp [l__law_drawn_2, fitA, frzE, D.tru, retM, endF, ioOf, cmpD, cmpR, RV.r, R.ar, R.dat, ARs.rd, AR.rd, ARs.dat, biD, bi1, intD, lenD, seqD, lstD, ixD, atD, binD, stoM, setSlot, Ob.toD, tyD, callM, locsA, giveA, backA, e2, hq]
            · intro z hz
              rcases h3 z hz with h | ⟨h, h'⟩
              · exact .inl h
              · exact .inr ⟨h, fun c' hc' => h' c' (by simp [hc'])⟩)
      [some (.own true o), some (.val (.str s)), some (.val (.int n)), some (.val (.int m)), some (.val (.int i)), some (.val (.int (1 + (w : Int)))), some (.own false (.lst (ms.map mvD))), some (.own false (.lst (es.map enD))), v8]
      ⟨s, o, ms, v8, rfl, rfl, ho, hv8, ⟨[], rfl⟩, fun m hm => by have := hms m hm; exact ⟨by omega, this.2⟩, hpw, fun m hm => .inl (hms m hm).1, by omega⟩
    exact ⟨o', ms', v8', ho', hv', h1, h2, by omega, for_ev (by simp [evIt, fitA, frzE, D.tru, retM, endF, ioOf, cmpD, cmpR, RV.r, R.ar, R.dat, ARs.rd, AR.rd, ARs.dat, biD, bi1, intD, lenD, seqD, lstD, ixD, atD, binD, stoM, setSlot, Ob.toD, tyD]) e⟩
end G
end
section
set_option autoImplicit false
set_option linter.all false
set_option maxRecDepth 100000
namespace G
open Itp
theorem drawn_a (cl : Calls) (o o1 : Ob) (s : List Nat) (n m w : Nat) (e1 : cl i__law_pick [.own true o, .val (.int n)] = some (.ret (.val (.int w)) [o1])) : evS sub cl (.par [(5, true), (6, false), (7, false)] (.acons (.bin .add (.k (.int 1)) (.call i__law_pick (.acons (.v 0) (.acons (.v 2) .anil)))) (.acons (.lst .anil) (.acons (.lst .anil) .anil)))) [some (.own true o), some (.val (.str s)), some (.val (.int n)), some (.val (.int m)), none, none, none, none, none] =
   some (.ok .next [some (.own true o1), some (.val (.str s)), some (.val (.int n)), some (.val (.int m)), none, some (.val (.int (1 + (w : Int)))), some (.own false (.lst [])), some (.own false (.lst [])), none]) := by
  simp [fitA, frzE, D.tru, retM, endF, ioOf, cmpD, cmpR, RV.r, R.ar, R.dat, ARs.rd, AR.rd, ARs.dat, biD, bi1, intD, lenD, seqD, lstD, ixD, atD, binD, stoM, setSlot, Ob.toD, tyD, callM, locsA, giveA, backA, e1, evP, consP, stoP, fmD]
theorem drawn_b (cl : Calls) (o o1 : Ob) (s : List Nat) (n m w : Nat) (ms : List Mv) (es : List En) (v4 v8 : Option SV) (h4 : Soft v4) (h8 : Soft v8) : endF [true, false, false, false] (evS sub cl (.seq (.ret (.tup (.acons (.v 1) (.acons (.bi .tuple (.acons (.v 6) .anil)) (.acons (.bi .tuple (.acons (.v 7) .anil)) .anil))))) .nop) [some (.own true o), some (.val (.str s)), some (.val (.int n)), some (.val (.int m)), v4, some (.val (.int (1 + (w : Int)))), some (.own false (.lst (ms.map mvD))), some (.own false (.lst (es.map enD))), v8]) =
   some (.ret (.val (fmD ⟨s, ms, es⟩)) [o]) := by
  rcases h4 with rfl | ⟨d, rfl⟩ <;> rcases h8 with rfl | ⟨d, rfl⟩ <;> simp [fitA, frzE, D.tru, retM, endF, ioOf, cmpD, cmpR, RV.r, R.ar, R.dat, ARs.rd, AR.rd, ARs.dat, biD, bi1, intD, lenD, seqD, lstD, ixD, atD, binD, stoM, setSlot, Ob.toD, tyD, callM, locsA, giveA, backA, evP, consP, stoP, fmD]
theorem r_drawn (k : Nat) (o : Ob) (ho : SrcOk o) (s : List Nat) (hs : SgOk s) (n m : Nat) (hn0 : 1 ≤ n) (hn : n ≤ 4) (hm0 : 1 ≤ m) (hm : m ≤ 3) :
    ∃ (F : Fm) (o' : Ob), SrcOk o' ∧ FmOk F ∧ F.s = s ∧ run sub Tb (k + 4) i__law_drawn [.own true o, .val (.str s), .val (.int n), .val (.int m)] = some (.ret (.val (fmD F)) [o']) := by
  have hlim : lim = 16777216 := rfl
  have hsl := hs.len
  rw [u__law_drawn]
  obtain ⟨w, o1, ho1, w0, w1, e1⟩ := r_pick (k + 2) o ho n (by omega) (by omega)
  obtain ⟨w, rfl⟩ := Int.eq_ofNat_of_zero_le w0
  obtain ⟨ρ', ⟨i, j, o', ms, es, v4, v8, e0, hij, rfl, ho', hv4, hv8, hms, hpw, hlen, hes, hpe, hle⟩, e⟩ := forL_inv (bt := bindT (.nm 4)) (b := evS sub (run sub Tb (k + 3)) l__law_drawn_1)
    (fun rest ρ => ∃ (i j : Nat) (o : Ob) (ms : List Mv) (es : List En) (v4 v8 : Option SV), rest = (List.range' i j).map (fun m => Itp.D.int ((m : Nat) : Int)) ∧ i + j = 1 + w ∧ ρ = [some (.own true o), some (.val (.str s)), some (.val (.int n)), some (.val (.int m)), v4, some (.val (.int (1 + (w : Int)))), some (.own false (.lst (ms.map mvD))), some (.own false (.lst (es.map enD))), v8] ∧ SrcOk o ∧ Soft v4 ∧ Soft v8 ∧
      (∀ m ∈ ms, m.i < i ∧ m.c ∈ s ∧ m.g ≤ 3 ∧ m.o.length ≤ 3 ∧ ∀ c ∈ m.o, c ∈ s) ∧ ms.Pairwise kLt ∧ ms.length ≤ 3 * i ∧ (∀ e ∈ es, e.i < i ∧ 1 ≤ e.o.length ∧ e.o.length ≤ 3 ∧ ∀ c ∈ e.o, c ∈ s) ∧ es.Pairwise (fun e e' => e.i < e'.i) ∧ es.length ≤ i)
    ((List.range' 0 (1 + w)).map fun m => Itp.D.int ((m : Nat) : Int)) (fun x rest ρ ⟨i, j, o, ms, es, v4, v8, e0, hij, eρ, ho, hv4, hv8, hms, hpw, hlen, hes, hpe, hle⟩ => by
      subst eρ
      cases j with
      | zero => cases e0
      | succ j =>
        rw [List.range'_succ] at e0
        cases e0
        refine ⟨[some (.own true o), some (.val (.str s)), some (.val (.int n)), some (.val (.int m)), some (.val (.int i)), some (.val (.int (1 + (w : Int)))), some (.own false (.lst (ms.map mvD))), some (.own false (.lst (es.map enD))), v8], by rcases hv4 with rfl | ⟨d, rfl⟩ <;> rfl, ?_⟩
        obtain ⟨o2, ms2, v8', ho2, hv8', hms2, hpw2, hlen2, e2⟩ := drawn_inner k s hs n m w hm0 hm (by omega) i es _ o ms v8 (by omega) rfl hv8 ho hms hpw hlen
        obtain ⟨q, o3, ho3, q0, q1, e3⟩ := r_pick (k + 2) o2 ho2 7 (by omega) (by omega)
        by_cases hq : q = 0
        · obtain ⟨c, o4, ho4, hc, e4⟩ := r_chosen_s (k + 1) o3 ho3 s hs.ne (by omega)
          have hlt' : es.length < lim := by omega
          refine ⟨[some (.own true o4), some (.val (.str s)), some (.val (.int n)), some (.val (.int m)), some (.val (.int i)), some (.val (.int (1 + (w : Int)))), some (.own false (.lst (ms2.map mvD))), some (.own false (.lst ((es ++ [En.mk i [c]]).map enD))), v8'], .inl ?_,
            i + 1, j, o4, ms2, es ++ [En.mk i [c]], _, v8', rfl, by omega, rfl, ho4, .val _, hv8', hms2, hpw2, hlen2, ?_, ?_, ?_⟩
          · simp [l__law_drawn_1, fitA, frzE, D.tru, retM, endF, ioOf, cmpD, cmpR, RV.r, R.ar, R.dat, ARs.rd, AR.rd, ARs.dat, biD, bi1, intD, lenD, seqD, lstD, ixD, atD, binD, stoM, setSlot, Ob.toD, tyD, callM, locsA, giveA, backA, e2, e3, e4, hq, eqD_q, mmX, mmM, mmD, hlt', enD]
          · intro z hz
            rcases List.mem_append.mp hz with hz | hz
            · have := hes z hz; exact ⟨by omega, this.2⟩
            · simp at hz; subst hz; exact ⟨by show i < i + 1; omega, by simp, by simp, by simpa using hc⟩
          · refine List.pairwise_append.mpr ⟨hpe, by simp, fun a ha b hb => ?_⟩
            simp at hb; subst hb
            exact (hes a ha).1
          · simp; omega
        · refine ⟨[some (.own true o3), some (.val (.str s)), some (.val (.int n)), some (.val (.int m)), some (.val (.int i)), some (.val (.int (1 + (w : Int)))), some (.own false (.lst (ms2.map mvD))), some (.own false (.lst (es.map enD))), v8'], .inl ?_,
            i + 1, j, o3, ms2, es, _, v8', rfl, by omega, rfl, ho3, .val _, hv8', hms2, hpw2, hlen2, fun e he => by have := hes e he; exact ⟨by omega, this.2⟩, hpe, by omega⟩
          simp [l__law_drawn_1, fitA, frzE, D.tru, retM, endF, ioOf, cmpD, cmpR, RV.r, R.ar, R.dat, ARs.rd, AR.rd, ARs.dat, biD, bi1, intD, lenD, seqD, lstD, ixD, atD, binD, stoM, setSlot, Ob.toD, tyD, callM, locsA, giveA, backA, e2, e3, hq, eqD_q])
    [some (.own true o1), some (.val (.str s)), some (.val (.int n)), some (.val (.int m)), none, some (.val (.int (1 + (w : Int)))), some (.own false (.lst [])), some (.own false (.lst [])), none]
    ⟨0, 1 + w, o1, [], [], none, none, rfl, by omega, rfl, ho1, .none, .none, (fun _ h => nomatch h), .nil, by simp, (fun _ h => nomatch h), .nil, by simp⟩
  cases j with
  | succ j => rw [List.range'_succ] at e0; cases e0
  | zero =>
    have hit : evIt .rng1 (evE (run sub Tb (k + 3)) (.v 5)) (evE (run sub Tb (k + 3)) .anil) [some (.own true o1), some (.val (.str s)), some (.val (.int n)), some (.val (.int m)), none, some (.val (.int (1 + (w : Int)))), some (.own false (.lst [])), some (.own false (.lst [])), none] = some (.ok (.items ((List.range' 0 (1 + w)).map fun m => .int ((m : Nat) : Int))) [some (.own true o1), some (.val (.str s)), some (.val (.int n)), some (.val (.int m)), none, some (.val (.int (1 + (w : Int)))), some (.own false (.lst [])), some (.own false (.lst [])), none]) := by
      rw [← natD_range1]; exact ev_rng1 (by simp; rfl) rfl (okR (by omega) (by omega))
    have hf : evS sub (run sub Tb (k + 3)) f__law_drawn_1 _ = _ := for_ev hit e
    refine ⟨⟨s, ms, es⟩, o', ho', (fmOk_iff _).mpr ⟨hs.ok, by show ms.length ≤ 12; omega, by show es.length ≤ 4; omega, fun m hm => by have := hms m hm; exact ⟨by omega, this.2⟩, (rm_iff ms).mpr hpw, fun m hm => by have := hes m hm; exact ⟨by omega, this.2⟩, (re_iff es).mpr hpe⟩, rfl, ?_⟩
    have h1 := drawn_a (run sub Tb (k + 3)) o o1 s n m w e1
    have h2 := drawn_b (run sub Tb (k + 3)) o' o' s n m w ms es v4 v8 hv4 hv8
    show endF [true, false, false, false] (evS sub (run sub Tb (k + 3)) b__law_drawn [some (.own true o), some (.val (.str s)), some (.val (.int n)), some (.val (.int m)), none, none, none, none, none]) = _
    unfold b__law_drawn
    rw [seq_next h1, seq_next hf]
    exact h2
end G
end
section
set_option autoImplicit false
set_option linter.all false
set_option maxRecDepth 100000
namespace G
open Itp
def kn (i : Int) (g : Int) (t : List Nat) : Itp.D := .tup [.int i, .str [49], .int g, .str t]
def knM (z : Int) : List Itp.D := if z = 1 then [kn 0 1 [49], kn 1 1 [45, 49]] else if z = 2 then [kn 0 1 [49], kn 1 2 [49], kn 2 1 [45, 49]] else [kn 0 1 [49], kn 1 2 [49], kn 2 3 [49], kn 3 1 [45, 49]]
def knR (z : Int) : List Itp.D := if z = 1 then [kn 0 0 [49, 45]] else if z = 2 then [kn 0 1 [49], kn 1 0 [49, 45]] else [kn 0 1 [49], kn 1 2 [49], kn 2 0 [49, 45]]
theorem known_loop (cl : Calls) (o : Ob) (kd : Itp.D) (z : Int) (hz : z = 1 ∨ z = 2 ∨ z = 3) : evS sub cl f__law_known_1 [some (.own true o), some (.own false (.lst [])), none, some (.val kd), some (.val (.int z)), none] = some (.ok .next [some (.own true o), some (.own false (.lst (knM z))), some (.val (.int z)), some (.val kd), some (.val (.int z)), none]) := by
  have q2 : okRange 2 = true := by decide
  have q3 : okRange 3 = true := by decide
  have q4 : okRange 4 = true := by decide
  have r2 : rangeD 0 2 = [.int 0, .int 1] := rfl
  have r3 : rangeD 0 3 = [.int 0, .int 1, .int 2] := rfl
  have r4 : rangeD 0 4 = [.int 0, .int 1, .int 2, .int 3] := rfl
  have l1 : 1 < lim := by decide
  have l2 : 2 < lim := by decide
  have l3 : 3 < lim := by decide
  rcases hz with rfl | rfl | rfl
  · simp [f__law_known_1, ps_for, evIt, fitA, frzE, D.tru, retM, endF, ioOf, cmpD, cmpR, RV.r, R.ar, R.dat, ARs.rd, AR.rd, ARs.dat, biD, bi1, intD, lenD, seqD, lstD, ixD, atD, binD, stoM, setSlot, Ob.toD, tyD, rng1D, q2, r2, forL, bindT, l__law_known_1, mmX, mmM, mmD, l1, l2, l3, knM, kn]
  · simp [f__law_known_1, ps_for, evIt, fitA, frzE, D.tru, retM, endF, ioOf, cmpD, cmpR, RV.r, R.ar, R.dat, ARs.rd, AR.rd, ARs.dat, biD, bi1, intD, lenD, seqD, lstD, ixD, atD, binD, stoM, setSlot, Ob.toD, tyD, rng1D, q3, r3, forL, bindT, l__law_known_1, mmX, mmM, mmD, l1, l2, l3, knM, kn]
  · simp [f__law_known_1, ps_for, evIt, fitA, frzE, D.tru, retM, endF, ioOf, cmpD, cmpR, RV.r, R.ar, R.dat, ARs.rd, AR.rd, ARs.dat, biD, bi1, intD, lenD, seqD, lstD, ixD, atD, binD, stoM, setSlot, Ob.toD, tyD, rng1D, q4, r4, forL, bindT, l__law_known_1, mmX, mmM, mmD, l1, l2, l3, knM, kn]
theorem known_rows (cl : Calls) (v0 v1 v2 v3 : Option SV) (z : Int) (hz : z = 1 ∨ z = 2 ∨ z = 3) : evE cl q__law_known_1 [v0, v1, v2, v3, some (.val (.int z)), none] = some (.ok (.own (.lst (knR z))) [v0, v1, v2, v3, some (.val (.int z)), none]) := by
  have q1 : okRange 1 = true := by decide
  have q2 : okRange 2 = true := by decide
  have q3 : okRange 3 = true := by decide
  have r1 : rangeD 0 1 = [.int 0] := rfl
  have r2 : rangeD 0 2 = [.int 0, .int 1] := rfl
  have r3 : rangeD 0 3 = [.int 0, .int 1, .int 2] := rfl
  have l1 : 1 < lim := by decide
  have l2 : 2 < lim := by decide
  rcases hz with rfl | rfl | rfl
  · simp [q__law_known_1, pl_lc, lcX, lcM, lcL, wipeM, wipeE, restE, evIt, fitA, frzE, D.tru, retM, endF, ioOf, cmpD, cmpR, RV.r, R.ar, R.dat, ARs.rd, AR.rd, ARs.dat, biD, bi1, intD, lenD, seqD, lstD, ixD, atD, binD, stoM, setSlot, Ob.toD, tyD, rng1D, q1, r1, bindT, l1, l2, knR, kn]
  · simp [q__law_known_1, pl_lc, lcX, lcM, lcL, wipeM, wipeE, restE, evIt, fitA, frzE, D.tru, retM, endF, ioOf, cmpD, cmpR, RV.r, R.ar, R.dat, ARs.rd, AR.rd, ARs.dat, biD, bi1, intD, lenD, seqD, lstD, ixD, atD, binD, stoM, setSlot, Ob.toD, tyD, rng1D, q2, r2, bindT, l1, l2, knR, kn]
  · simp [q__law_known_1, pl_lc, lcX, lcM, lcL, wipeM, wipeE, restE, evIt, fitA, frzE, D.tru, retM, endF, ioOf, cmpD, cmpR, RV.r, R.ar, R.dat, ARs.rd, AR.rd, ARs.dat, biD, bi1, intD, lenD, seqD, lstD, ixD, atD, binD, stoM, setSlot, Ob.toD, tyD, rng1D, q3, r3, bindT, l1, l2, knR, kn]
theorem fm_known (v : Itp.D) (h : isFmtB v = true) : ∃ F, v = fmD F ∧ FmOk F := fm_form h
theorem r_known (k : Nat) (o : Ob) (ho : SrcOk o) : ∃ (F : Fm) (o' : Ob), SrcOk o' ∧ FmOk F ∧ run sub Tb (k + 2) i__law_known [.own true o] = some (.ret (.val (fmD F)) [o']) := by
  obtain ⟨kd, o1, ho1, k0, k1, e1⟩ := r_pick k o ho 6 (by omega) (by omega)
  obtain ⟨z, o2, ho2, z0, z1, e2⟩ := r_pick k o1 ho1 3 (by omega) (by omega)
  have main : ∃ v, isFmtB v = true ∧ run sub Tb (k + 2) i__law_known [.own true o] = some (.ret (.val v) [o2]) := by
    have hz : 1 + z = 1 ∨ 1 + z = 2 ∨ 1 + z = 3 := by omega
    generalize hy : 1 + z = y at hz
    have hl := known_loop (run sub Tb (k + 1)) o2 (.int kd) y hz
    have hr := fun v0 v1 v2 v3 => known_rows (run sub Tb (k + 1)) v0 v1 v2 v3 y hz
    rw [u__law_known]
    have hk : kd = 0 ∨ kd = 1 ∨ kd = 2 ∨ kd = 3 ∨ kd = 4 ∨ kd = 5 := by omega
    rcases hk with rfl | rfl | rfl | rfl | rfl | rfl
    · refine ⟨.tup [.str [45, 49], .tup (knM y), .tup []], by rcases hz with rfl | rfl | rfl <;> decide, ?_⟩
      simp [d__law_known, b__law_known, fitA, frzE, D.tru, retM, endF, ioOf, cmpD, cmpR, RV.r, R.ar, R.dat, ARs.rd, AR.rd, ARs.dat, biD, bi1, intD, lenD, seqD, lstD, ixD, atD, binD, stoM, setSlot, Ob.toD, tyD, callM, locsA, giveA, backA, e1, e2, hy, bindT, setAll, hl, eqD_q]
    · refine ⟨.tup [.str [45, 49], .tup (knR y), .tup []], by rcases hz with rfl | rfl | rfl <;> decide, ?_⟩
      simp [d__law_known, b__law_known, fitA, frzE, D.tru, retM, endF, ioOf, cmpD, cmpR, RV.r, R.ar, R.dat, ARs.rd, AR.rd, ARs.dat, biD, bi1, intD, lenD, seqD, lstD, ixD, atD, binD, stoM, setSlot, Ob.toD, tyD, callM, locsA, giveA, backA, e1, e2, hy, bindT, setAll, hl, hr, eqD_q]
    · refine ⟨.tup [.str [49], .tup [kn 0 1 [49], kn 1 0 [49, 49]], .tup []], by decide, ?_⟩
      simp [d__law_known, b__law_known, fitA, frzE, D.tru, retM, endF, ioOf, cmpD, cmpR, RV.r, R.ar, R.dat, ARs.rd, AR.rd, ARs.dat, biD, bi1, intD, lenD, seqD, lstD, ixD, atD, binD, stoM, setSlot, Ob.toD, tyD, callM, locsA, giveA, backA, e1, e2, hy, bindT, setAll, hl, eqD_q, kn]
    · refine ⟨.tup [.str [97, 98], .tup [.tup [.int 0, .str [97], .int 1, .str [97]], .tup [.int 0, .str [98], .int 1, .str [98]], .tup [.int 1, .str [97], .int 2, .str [97]], .tup [.int 1, .str [98], .int 2, .str [98]]], .tup []], by decide, ?_⟩
      simp [d__law_known, b__law_known, fitA, frzE, D.tru, retM, endF, ioOf, cmpD, cmpR, RV.r, R.ar, R.dat, ARs.rd, AR.rd, ARs.dat, biD, bi1, intD, lenD, seqD, lstD, ixD, atD, binD, stoM, setSlot, Ob.toD, tyD, callM, locsA, giveA, backA, e1, e2, hy, bindT, setAll, hl, eqD_q]
    · refine ⟨.tup [.str [97, 98], .tup [.tup [.int 0, .str [97], .int 0, .str [97]], .tup [.int 0, .str [98], .int 1, .str [97]], .tup [.int 1, .str [97], .int 1, .str [98]], .tup [.int 1, .str [98], .int 0, .str [98]]], .tup []], by decide, ?_⟩
      simp [d__law_known, b__law_known, fitA, frzE, D.tru, retM, endF, ioOf, cmpD, cmpR, RV.r, R.ar, R.dat, ARs.rd, AR.rd, ARs.dat, biD, bi1, intD, lenD, seqD, lstD, ixD, atD, binD, stoM, setSlot, Ob.toD, tyD, callM, locsA, giveA, backA, e1, e2, hy, bindT, setAll, hl, eqD_q]
    · refine ⟨.tup [.str [97, 98], .tup [.tup [.int 0, .str [97], .int 1, .str []], .tup [.int 0, .str [98], .int 0, .str [98]], .tup [.int 1, .str [97], .int 1, .str [97]], .tup [.int 1, .str [98], .int 0, .str [97, 98]]], .tup [.tup [.int 1, .str [97]]]], by decide, ?_⟩
      simp [d__law_known, b__law_known, fitA, frzE, D.tru, retM, endF, ioOf, cmpD, cmpR, RV.r, R.ar, R.dat, ARs.rd, AR.rd, ARs.dat, biD, bi1, intD, lenD, seqD, lstD, ixD, atD, binD, stoM, setSlot, Ob.toD, tyD, callM, locsA, giveA, backA, e1, e2, hy, bindT, setAll, hl, eqD_q]
  obtain ⟨v, hv, e⟩ := main
  obtain ⟨F, rfl, hF⟩ := fm_form hv
  exact ⟨F, o2, ho2, hF, e⟩
theorem r_formatter (k : Nat) (o : Ob) (ho : SrcOk o) (n m : Nat) (hn0 : 1 ≤ n) (hn : n ≤ 4) (hm0 : 1 ≤ m) (hm : m ≤ 3) :
    ∃ (F : Fm) (o' : Ob), SrcOk o' ∧ FmOk F ∧ run sub Tb (k + 5) i__law_formatter [.own true o, .val (.int n), .val (.int m)] = some (.ret (.val (fmD F)) [o']) := by
  obtain ⟨q, o1, ho1, q0, q1, e1⟩ := r_pick (k + 3) o ho 3 (by omega) (by omega)
  rw [u__law_formatter]
  by_cases hq : q = 0
  · obtain ⟨F, o2, ho2, hF, e2⟩ := r_known (k + 2) o1 ho1
    exact ⟨F, o2, ho2, hF, by simp [d__law_formatter, b__law_formatter, fitA, frzE, D.tru, retM, endF, ioOf, cmpD, cmpR, RV.r, R.ar, R.dat, ARs.rd, AR.rd, ARs.dat, biD, bi1, intD, lenD, seqD, lstD, ixD, atD, binD, stoM, setSlot, Ob.toD, tyD, callM, locsA, giveA, backA, e1, e2, hq, eqD_q]⟩
  · obtain ⟨x, o2, ho2, hx, e2⟩ := r_chosen (k + 2) o1 ho1 [.str [45, 49], .str [97, 98], .str [49], .str [47, 50, 97], .str [122]] (by simp) (by simp)
    have : ∃ s, x = .str s ∧ SgOk s := by
      simp at hx
      rcases hx with rfl | rfl | rfl | rfl | rfl <;> exact ⟨_, rfl, ⟨by decide⟩⟩
    obtain ⟨s, rfl, hs⟩ := this
    obtain ⟨F, o3, ho3, hF, _, e3⟩ := r_drawn k o2 ho2 s hs n m hn0 hn hm0 hm
    exact ⟨F, o3, ho3, hF, by simp [d__law_formatter, b__law_formatter, fitA, frzE, D.tru, retM, endF, ioOf, cmpD, cmpR, RV.r, R.ar, R.dat, ARs.rd, AR.rd, ARs.dat, biD, bi1, intD, lenD, seqD, lstD, ixD, atD, binD, stoM, setSlot, Ob.toD, tyD, callM, locsA, giveA, backA, e1, e2, e3, hq, eqD_q]⟩
end G
end
section
set_option autoImplicit false
set_option linter.all false
set_option maxRecDepth 100000
/-! The laws' own run of a formatter. -/
namespace G
open Itp
theorem r_law_move (k : Nat) (F : Fm) (st c : Nat) : run sub Tb (k + 1) i__law_move [.val (fmD F), .val (.int st), .val (.str [c])] = rV (.tup [.int (mkP F st c).1, .str (mkP F st c).2]) := by
  rw [u__law_move]
  obtain ⟨ρ', ⟨v3, v4, v5, v6, rfl, h3, h4, h5, h6⟩, e⟩ := forL_find (bt := bindT (.tup [3, 4, 5, 6])) (b := evS sub (run sub Tb k) l__law_move_1)
    (fun ρ => ∃ v3 v4 v5 v6, ρ = [some (.val (fmD F)), some (.val (.int st)), some (.val (.str [c])), v3, v4, v5, v6] ∧ Soft v3 ∧ Soft v4 ∧ Soft v5 ∧ Soft v6) (fun x => match x with
      | .tup [.int i, .str s, g, o] => if i = st ∧ s = [c] then .ret (.val (.tup [g, o])) else .next
      | _ => .next) (F.ms.map mvD) (fun x hx ρ ⟨v3, v4, v5, v6, e, h3, h4, h5, h6⟩ => by
        subst e
        obtain ⟨m, _, rfl⟩ := List.mem_map.mp hx
        refine ⟨_, ⟨some (.val (.int m.i)), some (.val (.str [m.c])), some (.val (.int m.g)), some (.val (.str m.o)), rfl, .val _, .val _, .val _, .val _⟩, by rcases h3 with rfl | ⟨d, rfl⟩ <;> rcases h4 with rfl | ⟨d, rfl⟩ <;> rcases h5 with rfl | ⟨d, rfl⟩ <;> rcases h6 with rfl | ⟨d, rfl⟩ <;> rfl, ?_⟩
        by_cases h1 : (m.i : Int) = st <;> by_cases h2 : m.c = c <;> simp [l__law_move_1, fitA, frzE, D.tru, retM, endF, ioOf, cmpD, cmpR, RV.r, R.ar, R.dat, ARs.rd, AR.rd, ARs.dat, biD, bi1, intD, lenD, seqD, lstD, ixD, atD, binD, stoM, setSlot, Ob.toD, tyD, mvD, eqD_q, h1, h2]) _ ⟨none, none, none, none, rfl, .none, .none, .none, .none⟩
  have hit : evIt .over (evE (run sub Tb k) (.ix (.v 0) (.k (.int 1)))) (evE (run sub Tb k) .anil) [some (.val (fmD F)), some (.val (.int st)), some (.val (.str [c])), none, none, none, none] = some (.ok (.items (F.ms.map mvD)) [some (.val (fmD F)), some (.val (.int st)), some (.val (.str [c])), none, none, none, none]) := by
    simp [evIt, fitA, frzE, D.tru, retM, endF, ioOf, cmpD, cmpR, RV.r, R.ar, R.dat, ARs.rd, AR.rd, ARs.dat, biD, bi1, intD, lenD, seqD, lstD, ixD, atD, binD, stoM, setSlot, Ob.toD, tyD, natOf, fmD]
  have key : ∀ ms : List Mv, firstRet (fun x => match x with
      | .tup [.int i, .str s, g, o] => if i = st ∧ s = [c] then .ret (.val (.tup [g, o])) else .next
      | _ => .next) (ms.map mvD) = match ms.find? fun m => decide (m.i = st ∧ m.c = c) with
      | some m => .ret (.val (.tup [.int m.g, .str m.o]))
      | none => .next := by
    intro ms
    induction ms with
    | nil => rfl
    | cons m ms ih =>
      rw [List.map, firstRet, List.find?_cons, ih]
      have e1 : (m.i : Int) = st ↔ m.i = st := by omega
      by_cases h1 : m.i = st <;> by_cases h2 : m.c = c <;> simp [mvD, h1, h2, e1]
  rw [key] at e
  have hf : evS sub (run sub Tb k) f__law_move_1 _ = _ := for_ev hit e
  unfold mkP
  generalize F.ms.find? (fun m => decide (m.i = st ∧ m.c = c)) = q at hf
  cases q with
  | none =>
    have hr : evS sub (run sub Tb k) (.seq (.ret (.tup (.acons (.v 1) (.acons (.k (.str [])) .anil)))) .nop) [some (.val (fmD F)), some (.val (.int st)), some (.val (.str [c])), v3, v4, v5, v6] = some (.ok (.ret (.val (.tup [.int st, .str []]))) (frzE [some (.val (fmD F)), some (.val (.int st)), some (.val (.str [c])), v3, v4, v5, v6])) := by
      simp [fitA, frzE, D.tru, retM, endF, ioOf, cmpD, cmpR, RV.r, R.ar, R.dat, ARs.rd, AR.rd, ARs.dat, biD, bi1, intD, lenD, seqD, lstD, ixD, atD, binD, stoM, setSlot, Ob.toD, tyD]
    show endF [false, false, false] (evS sub (run sub Tb k) b__law_move [some (.val (fmD F)), some (.val (.int st)), some (.val (.str [c])), none, none, none, none]) = _
    unfold b__law_move
    rw [seq_next hf, hr]
    rfl
  | some m =>
    show endF [false, false, false] (evS sub (run sub Tb k) b__law_move [some (.val (fmD F)), some (.val (.int st)), some (.val (.str [c])), none, none, none, none]) = _
    unfold b__law_move
    rw [ps_seq, pl_bind, hf]
    rfl
theorem cat_ends (st : Nat) : ∀ es : List En, es.Pairwise (fun e e' => e.i < e'.i) → (((es.filter fun e => decide (e.i = st)).map En.o).flatten) = match es.find? fun e => decide (e.i = st) with
      | some e => e.o
      | none => []
  | [], _ => rfl
  | e :: es, h => by
    obtain ⟨h1, h2⟩ := List.pairwise_cons.mp h
    rw [List.find?_cons, List.filter_cons]
    by_cases hi : e.i = st
    · have : es.filter (fun e => decide (e.i = st)) = [] := by
        rw [List.filter_eq_nil_iff]
        intro x hx
        have := h1 x hx
        simp
        omega
      simp [hi, this]
    · simp [hi, cat_ends st es h2]
theorem strsOf_map {α : Type} (f : α → List Nat) : ∀ xs : List α, strsOf (xs.map fun x => .str (f x)) = some (xs.map f)
  | [] => rfl
  | x :: xs => by simp [strsOf, strsOf_map f xs]
theorem joinS_flat : ∀ ss : List (List Nat), joinS [] ss = ss.flatten
  | [] => rfl
  | [s] => by simp [joinS]
  | s :: t :: r => by
    rw [joinS, joinS_flat (t :: r)]
    simp
theorem flat_len {α : Type} : ∀ ss : List (List α), ss.flatten.length = (ss.map List.length).sum
  | [] => rfl
  | s :: r => by simp [flat_len r]
theorem r_law_end (k : Nat) (F : Fm) (hF : FmOk F) (st : Nat) : run sub Tb (k + 1) i__law_end [.val (fmD F), .val (.int st)] = rV (.str (endP F st)) := by
  rw [u__law_end]
  have hlim : lim = 16777216 := rfl
  have ok := (fmOk_iff F).mp hF
  have e := lc_fm (cl := run sub Tb k) (elt := .v 3) (a := .ix (.v 0) (.k (.int 2))) (b := .anil) (cond := .cmp .eq (.v 2) (.v 1)) (t := .tup [2, 3]) (ik := .over) (own := [2, 3]) (ρ := [some (.val (fmD F)), some (.val (.int st)), none, none]) (xs := F.es.map enD)
    (g := fun x => match x with
      | .tup [.int i, o] => if i = st then some o else none
      | _ => none) rfl rfl (by simp [evIt, fitA, frzE, D.tru, retM, endF, ioOf, cmpD, cmpR, RV.r, R.ar, R.dat, ARs.rd, AR.rd, ARs.dat, biD, bi1, intD, lenD, seqD, lstD, ixD, atD, binD, stoM, setSlot, Ob.toD, tyD, natOf, fmD]) (fun x hx => by
        obtain ⟨m, _, rfl⟩ := List.mem_map.mp hx
        refine ⟨[some (.val (fmD F)), some (.val (.int st)), some (.val (.int m.i)), some (.val (.str m.o))], rfl, rfl, ?_⟩
        by_cases h1 : (m.i : Int) = st
        · exact .inr ⟨.str m.o, by simp [fitA, frzE, D.tru, retM, endF, ioOf, cmpD, cmpR, RV.r, R.ar, R.dat, ARs.rd, AR.rd, ARs.dat, biD, bi1, intD, lenD, seqD, lstD, ixD, atD, binD, stoM, setSlot, Ob.toD, tyD, eqD_q, h1], by simp [fitA, frzE, D.tru, retM, endF, ioOf, cmpD, cmpR, RV.r, R.ar, R.dat, ARs.rd, AR.rd, ARs.dat, biD, bi1, intD, lenD, seqD, lstD, ixD, atD, binD, stoM, setSlot, Ob.toD, tyD], by simp [enD, h1]⟩
        · exact .inl ⟨by simp [fitA, frzE, D.tru, retM, endF, ioOf, cmpD, cmpR, RV.r, R.ar, R.dat, ARs.rd, AR.rd, ARs.dat, biD, bi1, intD, lenD, seqD, lstD, ixD, atD, binD, stoM, setSlot, Ob.toD, tyD, eqD_q, h1], by simp [enD, h1]⟩) (by have := ok.ne; simp; omega)
  have key : ∀ es : List En, (es.map enD).filterMap (fun x => match x with
      | .tup [.int i, o] => if i = st then some o else none
      | _ => none) = (es.filter fun e => decide (e.i = st)).map fun e => Itp.D.str e.o := by
    intro es
    induction es with
    | nil => rfl
    | cons m es ih =>
      have e1 : (m.i : Int) = st ↔ m.i = st := by omega
      by_cases h : m.i = st
      · simp [enD, h] at ih ⊢
        exact ih
      · simp [enD, h, e1] at ih ⊢
        exact ih
  rw [key] at e
  have hc := cat_ends st F.es ((re_iff _).mp ok.re)
  have hl : (endP F st).length ≤ 3 := hF.end_len st
  have e2 : endP F st = ((F.es.filter fun e => decide (e.i = st)).map En.o).flatten := hc.symm
  have hj : mtD .join (.str []) [.lst ((F.es.filter fun e => decide (e.i = st)).map fun e => Itp.D.str e.o)] = some (.val (.str (endP F st))) := by
    rw [e2] at hl ⊢
    rw [flat_len] at hl
    simp only [mtD, mt1, joinD, strOf, lstD, strsOf_map, joinS_flat, Option.bind]
    rw [if_pos (by simp only [List.length_nil, Nat.mul_zero, Nat.add_zero]; omega)]
  have e' : evE (run sub Tb k) q__law_end_1 [some (.val (fmD F)), some (.val (.int st)), none, none] = _ := e
  simp only [d__law_end, b__law_end, pf_call, fitA, fitA, frzE, D.tru, retM, endF, ioOf, cmpD, cmpR, RV.r, R.ar, R.dat, ARs.rd, AR.rd, ARs.dat, biD, bi1, intD, lenD, seqD, lstD, ixD, atD, binD, stoM, setSlot, Ob.toD, tyD, opM, ps_seq, ps_ret, pl_bind, pl_mt, pl_k, pl_pure, pl_acons, pl_anil, pc_cons, List.map, List.length, List.replicate, List.append, e', hj, if_true, pc_rd, pc_rdv, Option.map, Option.bind, List.cons_append, List.nil_append, Nat.sub_self, pl_of_some, ps_nop]
theorem r_law_form (k : Nat) (F : Fm) (h : FmOk F) (cs : List Nat) (hz : cs.length ≤ 1000000) : run sub Tb (k + 2) i__law_form [.val (fmD F), .val (.str cs)] = rV (.str (fmP F cs)) := by
  rw [u__law_form]
  have hlim : lim = 16777216 := rfl
  obtain ⟨ρ', ⟨cs', st, acc, v, w, e0, rfl, hv, hw, hl, hs, ha⟩, e⟩ := forL_inv (bt := bindT (.nm 2)) (b := evS sub (run sub Tb (k + 1)) l__law_form_1)
    (fun r ρ => ∃ (cs' : List Nat) (st : Nat) (acc : List Nat) (v w : Option SV), r = sgs cs' ∧ ρ = [some (.val (fmD F)), some (.val (.str cs)), v, some (.val (.int st)), some (.val (.str acc)), w] ∧ Soft v ∧ Soft w ∧ acc.length + 3 * cs'.length ≤ 3 * cs.length ∧ (fmRun F st cs').1 = (fmRun F 0 cs).1 ∧ acc ++ (fmRun F st cs').2 = (fmRun F 0 cs).2)
    (sgs cs) (fun x r ρ ⟨cs', st, acc, v, w, e0, eρ, hv, hw, hl, hs, ha⟩ => by
      subst eρ
      cases cs' with
      | nil => cases e0
      | cons c cs' =>
        cases e0
        rw [List.length_cons] at hl
        have hl2 := h.st_len st c
        have hb : acc.length + (stP F st c).2.length ≤ lim := by omega
        refine ⟨[some (.val (fmD F)), some (.val (.str cs)), some (.val (.str [c])), some (.val (.int st)), some (.val (.str acc)), w], by rcases hv with rfl | ⟨d, rfl⟩ <;> rfl,
          [some (.val (fmD F)), some (.val (.str cs)), some (.val (.str [c])), some (.val (.int (stP F st c).1)), some (.val (.str (acc ++ (stP F st c).2))), some (.val (.str (stP F st c).2))], .inl ?_,
          cs', _, _, _, _, rfl, rfl, .val _, .val _, by rw [List.length_append]; omega, by rw [← hs]; rfl, by rw [← ha, List.append_assoc]; rfl⟩
        by_cases hc : c = 124
        · subst hc
          simp only [stP, if_true] at hb ⊢
          have hb' : acc.length + 1 ≤ lim := hb
          rcases hw with rfl | ⟨d, rfl⟩ <;> simp [l__law_form_1, fitA, frzE, D.tru, retM, endF, ioOf, cmpD, cmpR, RV.r, R.ar, R.dat, ARs.rd, AR.rd, ARs.dat, biD, bi1, intD, lenD, seqD, lstD, ixD, atD, binD, stoM, setSlot, Ob.toD, tyD, callM, locsA, giveA, backA, eqD_q, hb']
        · simp only [stP, hc, if_false] at hb ⊢
          rcases hw with rfl | ⟨d, rfl⟩ <;> simp [l__law_form_1, fitA, frzE, D.tru, retM, endF, ioOf, cmpD, cmpR, RV.r, R.ar, R.dat, ARs.rd, AR.rd, ARs.dat, biD, bi1, intD, lenD, seqD, lstD, ixD, atD, binD, stoM, setSlot, Ob.toD, tyD, callM, locsA, giveA, backA, r_law_move, bindT, setAll, eqD_q, hb, hc])
    [some (.val (fmD F)), some (.val (.str cs)), none, some (.val (.int 0)), some (.val (.str [])), none] ⟨cs, 0, [], none, none, rfl, rfl, .none, .none, by simp, rfl, rfl⟩
  cases cs' with
  | cons c r => cases e0
  | nil =>
    have hf : evS sub (run sub Tb (k + 1)) f__law_form_1 _ = _ := for_ev (ρ := [some (.val (fmD F)), some (.val (.str cs)), none, some (.val (.int 0)), some (.val (.str [])), none]) (by simp [evIt, fitA, frzE, D.tru, retM, endF, ioOf, cmpD, cmpR, RV.r, R.ar, R.dat, ARs.rd, AR.rd, ARs.dat, biD, bi1, intD, lenD, seqD, lstD, ixD, atD, binD, stoM, setSlot, Ob.toD, tyD]) e
    simp only [fmRun, List.append_nil] at hs ha
    have hb : acc.length + (endP F st).length ≤ lim := by
      have := h.end_len st
      simp at hl
      omega
    rcases hv with rfl | ⟨d, rfl⟩ <;> rcases hw with rfl | ⟨d, rfl⟩ <;> simp [d__law_form, b__law_form, fitA, frzE, D.tru, retM, endF, ioOf, cmpD, cmpR, RV.r, R.ar, R.dat, ARs.rd, AR.rd, ARs.dat, biD, bi1, intD, lenD, seqD, lstD, ixD, atD, binD, stoM, setSlot, Ob.toD, tyD, callM, locsA, giveA, backA, bindT, setAll, hf, r_law_end, h, hb, fmP, ← hs, ← ha]
end G
end
section
set_option autoImplicit false
set_option linter.all false
set_option maxRecDepth 100000
/-! The plain law of k11. -/
namespace G
open Itp
theorem sb00 : sub e_InvalidFormatter e_InvalidFormatter = true := by decide
theorem sb10 : sub e_InvalidText e_InvalidFormatter = false := by decide
theorem sb11 : sub e_InvalidText e_InvalidText = true := by decide
theorem sb20 : sub e_InvalidMarked e_InvalidFormatter = false := by decide
theorem sb21 : sub e_InvalidMarked e_InvalidText = false := by decide
theorem sb22 : sub e_InvalidMarked e_InvalidMarked = true := by decide
def tF : Itp.D := .str [102, 111, 114, 109, 97, 116, 116, 101, 114, 33]
def tT : Itp.D := .str [116, 101, 120, 116, 33]
def tM : Itp.D := .str [109, 97, 114, 107, 101, 100, 33]
theorem out_ret (cl : Calls) (c v w d : Itp.D) (h : evE cl (.ife (.cmp .eq (.v 0) (.k (.int 0))) (.call i_formatted (.acons (.v 1) (.acons (.v 2) .anil))) (.call i_formatted_at (.acons (.v 1) (.acons (.v 2) .anil)))) [some (.val c), some (.val v), some (.val w)] = some (.ok (.val d) [some (.val c), some (.val v), some (.val w)])) : callF sub cl d__law_outcome_v2 [.val c, .val v, .val w] = rV d := by
  simp [d__law_outcome_v2, b__law_outcome_v2, fitA, frzE, endF, ioOf, tryM, -pl_ife, h, retM]
theorem out_ex (cl : Calls) (c v w d : Itp.D) (e : Nat) (h : evE cl (.ife (.cmp .eq (.v 0) (.k (.int 0))) (.call i_formatted (.acons (.v 1) (.acons (.v 2) .anil))) (.call i_formatted_at (.acons (.v 1) (.acons (.v 2) .anil)))) [some (.val c), some (.val v), some (.val w)] = some (.ex ⟨e, none⟩ [some (.val c), some (.val v), some (.val w)])) (hd : e = e_InvalidFormatter ∧ d = tF ∨ e = e_InvalidText ∧ d = tT ∨ e = e_InvalidMarked ∧ d = tM) : callF sub cl d__law_outcome_v2 [.val c, .val v, .val w] = rV d := by
  rcases hd with ⟨rfl, rfl⟩ | ⟨rfl, rfl⟩ | ⟨rfl, rfl⟩ <;> simp [d__law_outcome_v2, b__law_outcome_v2, fitA, frzE, endF, ioOf, tryM, -pl_ife, h, retM, hdM, suM, sb00, sb10, sb11, sb20, sb21, sb22, tF, tT, tM]
theorem out0_bad (k : Nat) (v w : Itp.D) (h : isFmtB v = false) : run sub Tb (k + 6) i__law_outcome_v2 [.val (.int 0), .val v, .val w] = rV tF := by
  rw [u__law_outcome_v2]
  exact out_ex _ _ _ _ _ _ (by simp [fitA, frzE, D.tru, retM, endF, ioOf, cmpD, cmpR, RV.r, R.ar, R.dat, ARs.rd, AR.rd, ARs.dat, biD, bi1, intD, lenD, seqD, lstD, ixD, atD, binD, stoM, setSlot, Ob.toD, tyD, callM, locsA, giveA, backA, eqD_q, r_formatted_bad, h]) (.inl ⟨rfl, rfl⟩)
theorem out0_no (k : Nat) (F : Fm) (hF : FmOk F) (w : Itp.D) (hz : ∀ s, w = .str s → s.length ≤ lim) (h : isStrB F.s w 0 none = false) : run sub Tb (k + 6) i__law_outcome_v2 [.val (.int 0), .val (fmD F), .val w] = rV tT := by
  rw [u__law_outcome_v2]
  exact out_ex _ _ _ _ _ _ (by simp [fitA, frzE, D.tru, retM, endF, ioOf, cmpD, cmpR, RV.r, R.ar, R.dat, ARs.rd, AR.rd, ARs.dat, biD, bi1, intD, lenD, seqD, lstD, ixD, atD, binD, stoM, setSlot, Ob.toD, tyD, callM, locsA, giveA, backA, eqD_q, r_formatted_no k F hF w hz h]) (.inr (.inl ⟨rfl, rfl⟩))
theorem out0 (k : Nat) (F : Fm) (hF : FmOk F) (cs : List Nat) (hz : cs.length ≤ 1000000) (h : ∀ c ∈ cs, c ∈ F.s) : run sub Tb (k + 6) i__law_outcome_v2 [.val (.int 0), .val (fmD F), .val (.str cs)] = rV (.str (fmP F cs)) := by
  rw [u__law_outcome_v2]
  exact out_ret _ _ _ _ _ (by simp [fitA, frzE, D.tru, retM, endF, ioOf, cmpD, cmpR, RV.r, R.ar, R.dat, ARs.rd, AR.rd, ARs.dat, biD, bi1, intD, lenD, seqD, lstD, ixD, atD, binD, stoM, setSlot, Ob.toD, tyD, callM, locsA, giveA, backA, eqD_q, r_formatted k F hF cs hz h])
theorem out1_bad (k : Nat) (v w : Itp.D) (h : isFmtB v = false) : run sub Tb (k + 6) i__law_outcome_v2 [.val (.int 1), .val v, .val w] = rV tF := by
  rw [u__law_outcome_v2]
  exact out_ex _ _ _ _ _ _ (by simp [fitA, frzE, D.tru, retM, endF, ioOf, cmpD, cmpR, RV.r, R.ar, R.dat, ARs.rd, AR.rd, ARs.dat, biD, bi1, intD, lenD, seqD, lstD, ixD, atD, binD, stoM, setSlot, Ob.toD, tyD, callM, locsA, giveA, backA, eqD_q, r_formatted_at_bad, h]) (.inl ⟨rfl, rfl⟩)
theorem out1_no (k : Nat) (F : Fm) (hF : FmOk F) (w : Itp.D) (hz : ∀ s, w = .str s → s.length ≤ lim) (h : isMarkB F w = false) : run sub Tb (k + 6) i__law_outcome_v2 [.val (.int 1), .val (fmD F), .val w] = rV tM := by
  rw [u__law_outcome_v2]
  exact out_ex _ _ _ _ _ _ (by simp [fitA, frzE, D.tru, retM, endF, ioOf, cmpD, cmpR, RV.r, R.ar, R.dat, ARs.rd, AR.rd, ARs.dat, biD, bi1, intD, lenD, seqD, lstD, ixD, atD, binD, stoM, setSlot, Ob.toD, tyD, callM, locsA, giveA, backA, eqD_q, r_formatted_at_no k F hF w hz h]) (.inr (.inr ⟨rfl, rfl⟩))
theorem out1 (k : Nat) (F : Fm) (hF : FmOk F) (cs : List Nat) (hz : cs.length ≤ 1000000) (h : isMarkB F (.str cs) = true) : run sub Tb (k + 6) i__law_outcome_v2 [.val (.int 1), .val (fmD F), .val (.str cs)] = rV (.str (fmP F cs)) := by
  rw [u__law_outcome_v2]
  exact out_ret _ _ _ _ _ (by simp [fitA, frzE, D.tru, retM, endF, ioOf, cmpD, cmpR, RV.r, R.ar, R.dat, ARs.rd, AR.rd, ARs.dat, biD, bi1, intD, lenD, seqD, lstD, ixD, atD, binD, stoM, setSlot, Ob.toD, tyD, callM, locsA, giveA, backA, eqD_q, r_formatted_at k F hF cs hz h])
theorem FmOk.sgs {F : Fm} (h : FmOk F) : SgOk F.s := ⟨((fmOk_iff F).mp h).sg⟩
theorem SgOk.mem {s : List Nat} (h : SgOk s) : ∀ c ∈ s, c ∈ z_SIGNS := by
  have := h.ok
  simp [areSignsB] at this
  exact this.1.2
theorem SgOk.nom {s : List Nat} (h : SgOk s) (c : Nat) (hc : z_SIGNS.contains c = false) : c ∉ s := fun hm => by
  have := h.mem c hm
  rw [← List.contains_iff_mem] at this
  rw [hc] at this
  cases this
/-- a mark put into a text -/
def mkd (t : List Nat) (a : Nat) : List Nat := t.take a ++ 124 :: t.drop a
theorem cnt0 {s : List Nat} {c : Nat} (h : c ∉ s) : s.count c = 0 := List.count_eq_zero.mpr h
theorem mkd_ok (F : Fm) (hF : FmOk F) (t : List Nat) (a : Nat) (h : ∀ c ∈ t, c ∈ F.s) : isMarkB F (.str (mkd t a)) = true := by
  have hn := hF.sgs.nom 124 (by decide)
  have h1 : 124 ∉ t.take a := fun z => hn (h _ (List.mem_of_mem_take z))
  have h2 : 124 ∉ t.drop a := fun z => hn (h _ (List.mem_of_mem_drop z))
  have f : ∀ l : List Nat, 124 ∉ l → l.filter (· != 124) = l := fun l hl => by
    rw [List.filter_eq_self]
    intro x hx
    simp
    rintro rfl
    exact hl hx
  simp only [isMarkB, mkd, List.count_append, List.count_cons_self, cnt0 h1, cnt0 h2, List.filter_append, f _ h1]
  have : List.filter (fun x => x != 124) (124 :: List.drop a t) = t.drop a := by
    rw [List.filter_cons]
    simp only [bne_self_eq_false, Bool.false_eq_true, if_false]
    exact f _ h2
  rw [this, List.take_append_drop]
  simp
  exact h
theorem mkd_no (F : Fm) (hF : FmOk F) (t : List Nat) (a : Nat) : isStrB F.s (.str (mkd t a)) 0 none = false := by
  have hn := hF.sgs.nom 124 (by decide)
  simp [isStrB, lenB, mkd]
  exact fun _ z => absurd z hn
theorem text_no (F : Fm) (hF : FmOk F) (t : List Nat) (h : ∀ c ∈ t, c ∈ F.s) : isMarkB F (.str t) = false := by
  have hn := hF.sgs.nom 124 (by decide)
  have h1 : 124 ∉ t := fun z => hn (h _ z)
  simp [isMarkB, cnt0 h1]
theorem mkd2_no (F : Fm) (t : List Nat) (a : Nat) : isMarkB F (.str (mkd t a ++ [124])) = false := by
  simp only [isMarkB, mkd, List.count_append, List.count_cons_self]
  have : ¬ (List.count 124 (List.take a t) + (List.count 124 (List.drop a t) + 1) + (List.count 124 [] + 1) = 1) := by omega
  simp [this]
end G
end
section
set_option autoImplicit false
set_option linter.all false
set_option maxRecDepth 100000
namespace G
open Itp
theorem turn (k : Nat) (sc : Itp.D) (i : Int) (F : Fm) (hF : FmOk F) (v5 v6 v7 v8 : Option SV) (h6 : Soft v6) (h7 : Soft v7) (h8 : Soft v8) (x : Itp.D) (o : Ob) (ho : SrcOk o) :
    ∃ (o' : Ob) (w6 w7 w8 : Itp.D), SrcOk o' ∧ evS sub (run sub Tb (k + 8)) l_law_v2_3 [some (.val sc), some (.val (.int i)), some (.own false o), some (.val (fmD F)), some (.val x), v5, v6, v7, v8] =
      some (.ok .next [some (.val sc), some (.val (.int i)), some (.own false o'), some (.val (fmD F)), some (.val x), v5, some (.val w6), some (.val w7), some (.val w8)]) := by
  have hlim : lim = 16777216 := rfl
  have hsl := hF.sgs.len
  obtain ⟨r, o1, ho1, r0, r1, e1⟩ := r_pick (k + 7) o ho 2 (by omega) (by omega)
  have main : ∃ (t : List Nat) (o2 : Ob), SrcOk o2 ∧ t.length ≤ 60 ∧ (∀ c ∈ t, c ∈ F.s) ∧ evS sub (run sub Tb (k + 8)) (.asg 6 true (.call i__law_text (.acons (.v 2) (.acons (.ix (.v 3) (.k (.int 0))) (.acons (.ix (.lst (.acons (.k (.int 6)) (.acons (.k (.int 60)) .anil))) (.call i__law_pick (.acons (.v 2) (.acons (.k (.int 2)) .anil)))) .anil)))))
      [some (.val sc), some (.val (.int i)), some (.own false o), some (.val (fmD F)), some (.val x), v5, v6, v7, v8] = some (.ok .next [some (.val sc), some (.val (.int i)), some (.own false o2), some (.val (fmD F)), some (.val x), v5, some (.val (.str t)), v7, v8]) := by
    have : r = 0 ∨ r = 1 := by omega
    rcases this with rfl | rfl
    · obtain ⟨t, o2, ho2, hl, ht, e3⟩ := r_text (k + 5) o1 ho1 F.s hF.sgs.ne (by omega) 6 (by omega)
      refine ⟨t, o2, ho2, by omega, ht, ?_⟩
      rcases h6 with rfl | ⟨d, rfl⟩ <;> simp [fitA, frzE, D.tru, retM, endF, ioOf, cmpD, cmpR, RV.r, R.ar, R.dat, ARs.rd, AR.rd, ARs.dat, biD, bi1, intD, lenD, seqD, lstD, ixD, atD, binD, stoM, setSlot, Ob.toD, tyD, callM, locsA, giveA, backA, natOf, fmD, e1] <;> simp [fitA, frzE, D.tru, retM, endF, ioOf, cmpD, cmpR, RV.r, R.ar, R.dat, ARs.rd, AR.rd, ARs.dat, biD, bi1, intD, lenD, seqD, lstD, ixD, atD, binD, stoM, setSlot, Ob.toD, tyD, callM, locsA, giveA, backA, natOf] at e3 <;> simp [fitA, frzE, D.tru, retM, endF, ioOf, cmpD, cmpR, RV.r, R.ar, R.dat, ARs.rd, AR.rd, ARs.dat, biD, bi1, intD, lenD, seqD, lstD, ixD, atD, binD, stoM, setSlot, Ob.toD, tyD, callM, locsA, giveA, backA, natOf, e3]
    · obtain ⟨t, o2, ho2, hl, ht, e3⟩ := r_text (k + 5) o1 ho1 F.s hF.sgs.ne (by omega) 60 (by omega)
      refine ⟨t, o2, ho2, by omega, ht, ?_⟩
      rcases h6 with rfl | ⟨d, rfl⟩ <;> simp [fitA, frzE, D.tru, retM, endF, ioOf, cmpD, cmpR, RV.r, R.ar, R.dat, ARs.rd, AR.rd, ARs.dat, biD, bi1, intD, lenD, seqD, lstD, ixD, atD, binD, stoM, setSlot, Ob.toD, tyD, callM, locsA, giveA, backA, natOf, fmD, e1] <;> simp [fitA, frzE, D.tru, retM, endF, ioOf, cmpD, cmpR, RV.r, R.ar, R.dat, ARs.rd, AR.rd, ARs.dat, biD, bi1, intD, lenD, seqD, lstD, ixD, atD, binD, stoM, setSlot, Ob.toD, tyD, callM, locsA, giveA, backA, natOf] at e3 <;> simp [fitA, frzE, D.tru, retM, endF, ioOf, cmpD, cmpR, RV.r, R.ar, R.dat, ARs.rd, AR.rd, ARs.dat, biD, bi1, intD, lenD, seqD, lstD, ixD, atD, binD, stoM, setSlot, Ob.toD, tyD, callM, locsA, giveA, backA, natOf, e3]
  obtain ⟨t, o2, ho2, hl, ht, st1⟩ := main
  obtain ⟨a, o3, ho3, a0, a1, e4⟩ := r_pick (k + 7) o2 ho2 ((t.length : Int) + 1) (by omega) (by omega)
  obtain ⟨a, rfl⟩ := Int.eq_ofNat_of_zero_le a0
  refine ⟨o3, .str t, .int a, .str (mkd t a), ho3, ?_⟩
  have st2 : evS sub (run sub Tb (k + 8)) (.asg 7 true (.call i__law_pick (.acons (.v 2) (.acons (.bin .add (.bi .len (.acons (.v 6) .anil)) (.k (.int 1))) .anil))))
      [some (.val sc), some (.val (.int i)), some (.own false o2), some (.val (fmD F)), some (.val x), v5, some (.val (.str t)), v7, v8] = some (.ok .next [some (.val sc), some (.val (.int i)), some (.own false o3), some (.val (fmD F)), some (.val x), v5, some (.val (.str t)), some (.val (.int a)), v8]) := by
    rcases h7 with rfl | ⟨d, rfl⟩ <;> simp [fitA, frzE, D.tru, retM, endF, ioOf, cmpD, cmpR, RV.r, R.ar, R.dat, ARs.rd, AR.rd, ARs.dat, biD, bi1, intD, lenD, seqD, lstD, ixD, atD, binD, stoM, setSlot, Ob.toD, tyD, callM, locsA, giveA, backA, e4]
  have hc : (List.take a t ++ [124]) ++ List.drop a t = mkd t a := by simp [mkd]
  have hla : (mkd t a).length ≤ 61 := by simp [mkd]; omega
  have st3 : evS sub (run sub Tb (k + 8)) (.asg 8 true (.bin .add (.bin .add (.sl (.v 6) .anil (.v 7)) (.k (.str [124]))) (.sl (.v 6) (.v 7) .anil)))
      [some (.val sc), some (.val (.int i)), some (.own false o3), some (.val (fmD F)), some (.val x), v5, some (.val (.str t)), some (.val (.int a)), v8] = some (.ok .next [some (.val sc), some (.val (.int i)), some (.own false o3), some (.val (fmD F)), some (.val x), v5, some (.val (.str t)), some (.val (.int a)), some (.val (.str (mkd t a)))]) := by
    have q1 : min a t.length + 1 ≤ lim := by omega
    have q2 : min a t.length + 1 + (t.length - a) ≤ lim := by omega
    rcases h8 with rfl | ⟨d, rfl⟩ <;> simp [fitA, frzE, D.tru, retM, endF, ioOf, cmpD, cmpR, RV.r, R.ar, R.dat, ARs.rd, AR.rd, ARs.dat, biD, bi1, intD, lenD, seqD, lstD, ixD, atD, binD, stoM, setSlot, Ob.toD, tyD, evOf, intM, cut_to, cut_from, q1, q2, mkd]
  generalize hM : mkd t a = M at st3 hla
  have n1 := hF.fm_len t
  have n2 := hF.fm_len M
  have z1 : ∀ s, Itp.D.str t = .str s → s.length ≤ lim := fun s z => by cases z; omega
  have z2 : ∀ s, Itp.D.str M = .str s → s.length ≤ lim := fun s z => by cases z; omega
  have z3 : ∀ s, Itp.D.str (M ++ [124]) = .str s → s.length ≤ lim := fun s z => by cases z; simp; omega
  have g1 := out0 (k + 2) F hF t (by omega) ht
  have g2 := r_law_form (k + 6) F hF t (by omega)
  have g3 := out1 (k + 2) F hF M (by omega) (by rw [← hM]; exact mkd_ok F hF t a ht)
  have g4 := r_law_form (k + 6) F hF M (by omega)
  have g5 := out0_no (k + 2) F hF (.str M) z2 (by rw [← hM]; exact mkd_no F hF t a)
  have g6 := out1_no (k + 2) F hF (.str t) z1 (text_no F hF t ht)
  have g7 := out1_no (k + 2) F hF (.str (M ++ [124])) z3 (by rw [← hM]; exact mkd2_no F t a)
  have q3 : M.length + 1 ≤ lim := by omega
  unfold l_law_v2_3
  rw [seq_next st1, seq_next st2, seq_next st3]
  simp [fitA, frzE, D.tru, retM, endF, ioOf, cmpD, cmpR, RV.r, R.ar, R.dat, ARs.rd, AR.rd, ARs.dat, biD, bi1, intD, lenD, seqD, lstD, ixD, atD, binD, stoM, setSlot, Ob.toD, tyD, callM, locsA, giveA, backA, g1, g2, g3, g4, g5, g6, g7, eqD_q, tT, tM, q3]
end G
end
section
set_option autoImplicit false
set_option linter.all false
set_option maxRecDepth 100000
namespace G
open Itp
def odds (F : Fm) : List Itp.D := [.non, .int 5, .lst [.str F.s], .tup [.str F.s], .str [90], .str (F.s ++ [32]), .bl true]
theorem odd_no (F : Fm) (hF : FmOk F) (x : Itp.D) (hx : x ∈ odds F) : isStrB F.s x 0 none = false ∧ isMarkB F x = false ∧ ∀ s, x = .str s → s.length ≤ lim := by
  have h90 := hF.sgs.nom 90 (by decide)
  have h32 := hF.sgs.nom 32 (by decide)
  have h124 := hF.sgs.nom 124 (by decide)
  have hl := hF.sgs.len
  have hlim : lim = 16777216 := rfl
  simp only [odds, List.mem_cons, List.not_mem_nil, or_false] at hx
  rcases hx with rfl | rfl | rfl | rfl | rfl | rfl | rfl
  · exact ⟨rfl, rfl, fun _ z => nomatch z⟩
  · exact ⟨rfl, rfl, fun _ z => nomatch z⟩
  · exact ⟨rfl, rfl, fun _ z => nomatch z⟩
  · exact ⟨rfl, rfl, fun _ z => nomatch z⟩
  · exact ⟨by simp [isStrB, lenB, h90], by simp [isMarkB], fun _ z => by cases z; simp⟩
  · refine ⟨?_, ?_, fun _ z => by cases z; simp; omega⟩
    · have : (F.s ++ [32]).all (fun c => decide (c ∈ F.s)) = false := by
        rw [List.all_append]
        simp [h32]
      simp [isStrB, lenB, this, h32]
    · simp [isMarkB, List.count_append, cnt0 h124]
  · exact ⟨rfl, rfl, fun _ z => nomatch z⟩
theorem odd_turn (k : Nat) (sc : Itp.D) (i : Int) (F : Fm) (hF : FmOk F) (o : Ob) (v4 v6 v7 v8 : Option SV) (x : Itp.D) (hx : x ∈ odds F) :
    evS sub (run sub Tb (k + 8)) l_law_v2_2 [some (.val sc), some (.val (.int i)), some (.own false o), some (.val (fmD F)), v4, some (.val x), v6, v7, v8] =
      some (.ok .next [some (.val sc), some (.val (.int i)), some (.own false o), some (.val (fmD F)), v4, some (.val x), v6, v7, v8]) := by
  obtain ⟨h1, h2, h3⟩ := odd_no F hF x hx
  have g1 := out0_no (k + 2) F hF x h3 h1
  have g2 := out1_no (k + 2) F hF x h3 h2
  have g3 := out0_bad (k + 2) (.lst [fmD F]) x rfl
  have g4 := out1_bad (k + 2) .non x rfl
  simp [l_law_v2_2, fitA, frzE, D.tru, retM, endF, ioOf, cmpD, cmpR, RV.r, R.ar, R.dat, ARs.rd, AR.rd, ARs.dat, biD, bi1, intD, lenD, seqD, lstD, ixD, atD, binD, stoM, setSlot, Ob.toD, tyD, callM, locsA, giveA, backA, g1, g2, g3, g4, eqD_q, tT, tM, tF]
theorem law_turn (k : Nat) (ns : List Int) (hl : ns.length ≤ 63) (i : Nat) (hi : i < 24) (v2 v3 v4 v5 v6 v7 v8 : Option SV) (h2 : v2 = none ∨ ∃ o, v2 = some (.own false o)) (h3 : Soft v3) (h4 : Soft v4) (h5 : Soft v5) (h6 : Soft v6) (h7 : Soft v7) (h8 : Soft v8) :
    ∃ (o : Ob) (w3 w4 w5 w6 w7 w8 : Option SV), Soft w3 ∧ Soft w4 ∧ Soft w5 ∧ Soft w6 ∧ Soft w7 ∧ Soft w8 ∧ evS sub (run sub Tb (k + 8)) l_law_v2_1 [some (.val (.ro (ns.map Itp.D.int))), some (.val (.int i)), v2, v3, v4, v5, v6, v7, v8] =
      some (.ok .next [some (.val (.ro (ns.map Itp.D.int))), some (.val (.int i)), some (.own false o), w3, w4, w5, w6, w7, w8]) := by
  obtain ⟨o1, ho1, e1⟩ := r_source (k + 7) ns i (by omega) hl
  obtain ⟨F, o2, ho2, hF, e2⟩ := r_formatter (k + 3) o1 ho1 4 3 (by omega) (by omega) (by omega) (by omega)
  have st1 : evS sub (run sub Tb (k + 8)) (.asg 2 false (.call i__law_source (.acons (.v 0) (.acons (.v 1) .anil)))) [some (.val (.ro (ns.map Itp.D.int))), some (.val (.int i)), v2, v3, v4, v5, v6, v7, v8] = some (.ok .next [some (.val (.ro (ns.map Itp.D.int))), some (.val (.int i)), some (.own false o1), v3, v4, v5, v6, v7, v8]) := by
    rcases h2 with rfl | ⟨d, rfl⟩ <;> simp [fitA, frzE, D.tru, retM, endF, ioOf, cmpD, cmpR, RV.r, R.ar, R.dat, ARs.rd, AR.rd, ARs.dat, biD, bi1, intD, lenD, seqD, lstD, ixD, atD, binD, stoM, setSlot, Ob.toD, tyD, callM, locsA, giveA, backA, e1]
  have st2 : evS sub (run sub Tb (k + 8)) (.asg 3 true (.call i__law_formatter (.acons (.v 2) (.acons (.k (.int 4)) (.acons (.k (.int 3)) .anil))))) [some (.val (.ro (ns.map Itp.D.int))), some (.val (.int i)), some (.own false o1), v3, v4, v5, v6, v7, v8] = some (.ok .next [some (.val (.ro (ns.map Itp.D.int))), some (.val (.int i)), some (.own false o2), some (.val (fmD F)), v4, v5, v6, v7, v8]) := by
    simp at e2
    rcases h3 with rfl | ⟨d, rfl⟩ <;> simp [fitA, frzE, D.tru, retM, endF, ioOf, cmpD, cmpR, RV.r, R.ar, R.dat, ARs.rd, AR.rd, ARs.dat, biD, bi1, intD, lenD, seqD, lstD, ixD, atD, binD, stoM, setSlot, Ob.toD, tyD, callM, locsA, giveA, backA, e2]
  obtain ⟨ρ', ⟨o3, w4, w6, w7, w8, rfl, ho3, k4, k6, k7, k8⟩, e3⟩ := forL_inv (bt := bindT (.nm 4)) (b := evS sub (run sub Tb (k + 8)) l_law_v2_3)
    (fun _ ρ => ∃ (o : Ob) (w4 w6 w7 w8 : Option SV), ρ = [some (.val (.ro (ns.map Itp.D.int))), some (.val (.int i)), some (.own false o), some (.val (fmD F)), w4, v5, w6, w7, w8] ∧ SrcOk o ∧ Soft w4 ∧ Soft w6 ∧ Soft w7 ∧ Soft w8)
    (rangeD 0 8) (fun x r ρ ⟨o, w4, w6, w7, w8, eρ, ho, k4, k6, k7, k8⟩ => by
      subst eρ
      obtain ⟨o', u6, u7, u8, ho', e⟩ := turn k (.ro (ns.map Itp.D.int)) i F hF v5 w6 w7 w8 k6 k7 k8 x o ho
      exact ⟨[some (.val (.ro (ns.map Itp.D.int))), some (.val (.int i)), some (.own false o), some (.val (fmD F)), some (.val x), v5, w6, w7, w8], by rcases k4 with rfl | ⟨d, rfl⟩ <;> rfl, _, .inl e, o', _, _, _, _, rfl, ho', .val _, .val _, .val _, .val _⟩)
    [some (.val (.ro (ns.map Itp.D.int))), some (.val (.int i)), some (.own false o2), some (.val (fmD F)), v4, v5, v6, v7, v8] ⟨o2, v4, v6, v7, v8, rfl, ho2, h4, h6, h7, h8⟩
  have st3 : evS sub (run sub Tb (k + 8)) f_law_v2_3 _ = _ := for_ev (ρ := [some (.val (.ro (ns.map Itp.D.int))), some (.val (.int i)), some (.own false o2), some (.val (fmD F)), v4, v5, v6, v7, v8]) (ev_rng1 (z := 8) (by simp; rfl) rfl (by decide)) e3
  have k5 := h5
  obtain ⟨ρ', ⟨⟨w5, rfl, k5⟩, _⟩, e4⟩ := forL_inv (bt := bindT (.nm 5)) (b := evS sub (run sub Tb (k + 8)) l_law_v2_2)
    (fun r ρ => (∃ (w5 : Option SV), ρ = [some (.val (.ro (ns.map Itp.D.int))), some (.val (.int i)), some (.own false o3), some (.val (fmD F)), w4, w5, w6, w7, w8] ∧ Soft w5) ∧ ∀ x ∈ r, x ∈ odds F)
    (odds F) (fun x r ρ ⟨⟨w5, eρ, k5⟩, hr⟩ => by
      subst eρ
      exact ⟨[some (.val (.ro (ns.map Itp.D.int))), some (.val (.int i)), some (.own false o3), some (.val (fmD F)), w4, some (.val x), w6, w7, w8], by rcases k5 with rfl | ⟨d, rfl⟩ <;> rfl, _, .inl (odd_turn k _ i F hF o3 w4 w6 w7 w8 x (hr x (by simp))), ⟨_, rfl, .val _⟩, fun y hy => hr y (by simp [hy])⟩)
    [some (.val (.ro (ns.map Itp.D.int))), some (.val (.int i)), some (.own false o3), some (.val (fmD F)), w4, v5, w6, w7, w8] ⟨⟨v5, rfl, h5⟩, fun _ h => h⟩
  have hlim : lim = 16777216 := rfl
  have hsl := hF.sgs.len
  have q1 : F.s.length + 1 ≤ lim := by omega
  have st4 : evS sub (run sub Tb (k + 8)) f_law_v2_2 _ = _ := for_ev (ρ := [some (.val (.ro (ns.map Itp.D.int))), some (.val (.int i)), some (.own false o3), some (.val (fmD F)), w4, v5, w6, w7, w8]) (xs := odds F) (by simp [evIt, fitA, frzE, D.tru, retM, endF, ioOf, cmpD, cmpR, RV.r, R.ar, R.dat, ARs.rd, AR.rd, ARs.dat, biD, bi1, intD, lenD, seqD, lstD, ixD, atD, binD, stoM, setSlot, Ob.toD, tyD, natOf, fmD, q1, odds]) e4
  refine ⟨o3, some (.val (fmD F)), w4, w5, w6, w7, w8, .val _, k4, k5, k6, k7, k8, ?_⟩
  unfold l_law_v2_1
  rw [seq_next st1, seq_next st2, seq_next st3, seq_next st4]
  rfl
theorem law_true (ns : List Int) (hl : ns.length ≤ 63) : run sub Tb 10 i_law_v2 [.val (.ro (ns.map Itp.D.int))] = rB true := by
  rw [u_law_v2]
  have hm : ∃ m : Nat, m ≤ 24 ∧ (if (if (ns.length : Int) < 24 then (ns.length : Int) else 24) > 6 then (if (ns.length : Int) < 24 then (ns.length : Int) else 24) else 6) = (m : Int) := by
    split <;> split
    · exact ⟨ns.length, by omega, rfl⟩
    · exact ⟨6, by omega, rfl⟩
    · exact ⟨24, by omega, rfl⟩
    · exact ⟨6, by omega, rfl⟩
  obtain ⟨m, hm, e0⟩ := hm
  obtain ⟨ρ', ⟨i, j, v1, v2, v3, v4, v5, v6, v7, v8, _, _, rfl, h1, h2, h3, h4, h5, h6, h7, h8⟩, e⟩ := forL_inv (bt := bindT (.nm 1)) (b := evS sub (run sub Tb 9) l_law_v2_1)
    (fun r ρ => ∃ (i j : Nat) (v1 v2 v3 v4 v5 v6 v7 v8 : Option SV), r = (List.range' i j).map (fun m => Itp.D.int ((m : Nat) : Int)) ∧ i + j = m ∧ ρ = [some (.val (.ro (ns.map Itp.D.int))), v1, v2, v3, v4, v5, v6, v7, v8] ∧ Soft v1 ∧ (v2 = none ∨ ∃ o, v2 = some (.own false o)) ∧ Soft v3 ∧ Soft v4 ∧ Soft v5 ∧ Soft v6 ∧ Soft v7 ∧ Soft v8)
    ((List.range' 0 m).map fun m => Itp.D.int ((m : Nat) : Int)) (fun x r ρ ⟨i, j, v1, v2, v3, v4, v5, v6, v7, v8, er, hij, eρ, h1, h2, h3, h4, h5, h6, h7, h8⟩ => by
      subst eρ
      cases j with
      | zero => cases er
      | succ j =>
        rw [List.range'_succ] at er
        cases er
        obtain ⟨o, w3, w4, w5, w6, w7, w8, k3, k4, k5, k6, k7, k8, e⟩ := law_turn 1 ns hl i (by omega) v2 v3 v4 v5 v6 v7 v8 h2 h3 h4 h5 h6 h7 h8
        exact ⟨[some (.val (.ro (ns.map Itp.D.int))), some (.val (.int i)), v2, v3, v4, v5, v6, v7, v8], by rcases h1 with rfl | ⟨d, rfl⟩ <;> rfl, _, .inl e, i + 1, j, _, _, _, _, _, _, _, _, rfl, by omega, rfl, .val _, .inr ⟨o, rfl⟩, k3, k4, k5, k6, k7, k8⟩)
    [some (.val (.ro (ns.map Itp.D.int))), none, none, none, none, none, none, none, none] ⟨0, m, none, none, none, none, none, none, none, none, rfl, by omega, rfl, .none, .inl rfl, .none, .none, .none, .none, .none, .none⟩
  have hit : evIt .rng1 (evE (run sub Tb 9) (.bi .max (.acons (.k (.int 6)) (.acons (.bi .min (.acons (.k (.int 24)) (.acons (.bi .len (.acons (.v 0) .anil)) .anil))) .anil)))) (evE (run sub Tb 9) .anil) [some (.val (.ro (ns.map Itp.D.int))), none, none, none, none, none, none, none, none] = some (.ok (.items ((List.range' 0 m).map fun m => Itp.D.int ((m : Nat) : Int))) [some (.val (.ro (ns.map Itp.D.int))), none, none, none, none, none, none, none, none]) := by
    rw [← natD_range]
    refine ev_rng1 (r := .val (.int m)) ?_ rfl (okR (by omega) (by omega))
    simp [fitA, frzE, D.tru, retM, endF, ioOf, cmpD, cmpR, RV.r, R.ar, R.dat, ARs.rd, AR.rd, ARs.dat, biD, bi1, intD, lenD, seqD, lstD, ixD, atD, binD, stoM, setSlot, Ob.toD, tyD, bi2, max2D, min2D]
    exact e0
  have st : evS sub (run sub Tb 9) f_law_v2_1 _ = _ := for_ev hit e
  show endF [false] (evS sub (run sub Tb 9) b_law_v2 [some (.val (.ro (ns.map Itp.D.int))), none, none, none, none, none, none, none, none]) = _
  unfold b_law_v2
  rw [seq_next st]
  rfl
end G
end
open Itp PySem PySem.W PyProof.Rows L2 G
local macro_rules
  | `(tactic| refine $f:ident $a1 $a2 $a3 $a4 $a5 $a6 $a7 $a8 ?$h $as*) => do
    if f.getId.eraseMacroScopes == `PySem.W.holds_open then `(tactic| refine Itp.holds_tok $a1 $a2 $a3 $a4 $a5 $a6 $a7 $a8 ?$h $as*) else Lean.Macro.throwUnsupported
  | `(tactic| refine $f:ident $a1 $a2 $a3 $a4 $a5 ?_) => do
    if f.getId.eraseMacroScopes == `HeadRun.left_oneK then `(tactic| refine Itp.left_tok $a1 $a2 $a3 $a4 $a5 ?_) else Lean.Macro.throwUnsupported
set_option maxRecDepth 100000 in
set_option maxHeartbeats 0 in
theorem PySem.Challenge.cw_asonetypes_k11_what_comes_of_texts_holds : PySem.Challenge.rw_asonetypes_k11_what_comes_of_texts.Holds := by
  w_on; o_law; k_headL; (case hw => w_witness2)
  k_fill
  refine walk_tok (l := PySem.Challenge.rw_asonetypes_k11_what_comes_of_texts) (m := 63) (k := 10) rfl (by decide) rfl ⟨rfl, by decide, by decide⟩ (fun w h Y => PySem.W.kIn_of Y) ?F
  case F =>
    intro w mg fa h KX G hmg
    refine' Itp.step (df_mk (n := Itp.tokN) (nm := nms) (x := "is_integer") (d := d_is_integer) (st := s_is_integer) KX G fs_is_integer rfl rfl c_is_integer (fun us hl => match us, hl with | [_, _, _], _ => rfl) ?a_1 ?l_1 ?c_1 ?k_1) (fun h0 => ?next_1)
    (case a_1 => k_is); (case l_1 => k_is); (case c_1 => k_is); (case k_1 => k_is)
    refine' Itp.step (df_mk (n := Itp.tokN) (nm := nms) (x := "is_wide") (d := d_is_wide) (st := s_is_wide) KX G fs_is_wide rfl rfl c_is_wide (fun us hl => match us, hl with | [_, _, _], _ => rfl) ?a_2 ?l_2 ?c_2 ?k_2) (fun h1 => ?next_2)
    (case a_2 => k_is); (case l_2 => k_is); (case c_2 => k_is); (case k_2 => k_is)
    refine' Itp.step (df_mk (n := Itp.tokN) (nm := nms) (x := "is_rising") (d := d_is_rising) (st := s_is_rising) KX G fs_is_rising rfl rfl c_is_rising (fun us hl => match us, hl with | [_], _ => rfl) ?a_3 ?l_3 ?c_3 ?k_3) (fun h2 => ?next_3)
    (case a_3 => k_is); (case l_3 => k_is); (case c_3 => k_is); (case k_3 => k_is)
    refine' Itp.step (df_mk (n := Itp.tokN) (nm := nms) (x := "are_signs") (d := d_are_signs) (st := s_are_signs) KX G fs_are_signs rfl rfl c_are_signs (fun us hl => match us, hl with | [_], _ => rfl) ?a_4 ?l_4 ?c_4 ?k_4) (fun h3 => ?next_4)
    (case a_4 => k_is); (case l_4 => k_is); (case c_4 => k_is); (case k_4 => k_is)
    refine' Itp.step (df_mk (n := Itp.tokN) (nm := nms) (x := "is_sign") (d := d_is_sign) (st := s_is_sign) KX G fs_is_sign rfl rfl c_is_sign (fun us hl => match us, hl with | [_, _], _ => rfl) ?a_5 ?l_5 ?c_5 ?k_5) (fun h4 => ?next_5)
    (case a_5 => k_is); (case l_5 => k_is); (case c_5 => k_is); (case k_5 => k_is)
    refine' Itp.step (df_mk (n := Itp.tokN) (nm := nms) (x := "is_string") (d := d_is_string) (st := s_is_string) KX G fs_is_string rfl rfl c_is_string (fun us hl => match us, hl with | [_, _, _, _], _ => rfl) ?a_6 ?l_6 ?c_6 ?k_6) (fun h5 => ?next_6)
    (case a_6 => k_is); (case l_6 => k_is); (case c_6 => k_is); (case k_6 => k_is)
    refine' Itp.step (df_mk (n := Itp.tokN) (nm := nms) (x := "is_move") (d := d_is_move) (st := s_is_move) KX G fs_is_move rfl rfl c_is_move (fun us hl => match us, hl with | [_, _], _ => rfl) ?a_7 ?l_7 ?c_7 ?k_7) (fun h6 => ?next_7)
    (case a_7 => k_is); (case l_7 => k_is); (case c_7 => k_is); (case k_7 => k_is)
    refine' Itp.step (df_mk (n := Itp.tokN) (nm := nms) (x := "is_end") (d := d_is_end) (st := s_is_end) KX G fs_is_end rfl rfl c_is_end (fun us hl => match us, hl with | [_, _], _ => rfl) ?a_8 ?l_8 ?c_8 ?k_8) (fun h7 => ?next_8)
    (case a_8 => k_is); (case l_8 => k_is); (case c_8 => k_is); (case k_8 => k_is)
    refine' Itp.step (df_mk (n := Itp.tokN) (nm := nms) (x := "is_formatter") (d := d_is_formatter) (st := s_is_formatter) KX G fs_is_formatter rfl rfl c_is_formatter (fun us hl => match us, hl with | [_], _ => rfl) ?a_9 ?l_9 ?c_9 ?k_9) (fun h8 => ?next_9)
    (case a_9 => k_is); (case l_9 => k_is); (case c_9 => k_is); (case k_9 => k_is)
    refine' Itp.step (df_mk (n := Itp.tokN) (nm := nms) (x := "is_marked") (d := d_is_marked) (st := s_is_marked) KX G fs_is_marked rfl rfl c_is_marked (fun us hl => match us, hl with | [_, _], _ => rfl) ?a_10 ?l_10 ?c_10 ?k_10) (fun h9 => ?next_10)
    (case a_10 => k_is); (case l_10 => k_is); (case c_10 => k_is); (case k_10 => k_is)
    refine' Itp.step (df_mk (n := Itp.tokN) (nm := nms) (x := "need_formatter") (d := d_need_formatter) (st := s_need_formatter) KX G fs_need_formatter rfl rfl c_need_formatter (fun us hl => match us, hl with | [_], _ => rfl) ?a_11 ?l_11 ?c_11 ?k_11) (fun h10 => ?next_11)
    (case a_11 => k_is); (case l_11 => k_is); (case c_11 => k_is); (case k_11 => k_is)
    refine' Itp.step (df_mk (n := Itp.tokN) (nm := nms) (x := "need_text") (d := d_need_text) (st := s_need_text) KX G fs_need_text rfl rfl c_need_text (fun us hl => match us, hl with | [_, _], _ => rfl) ?a_12 ?l_12 ?c_12 ?k_12) (fun h11 => ?next_12)
    (case a_12 => k_is); (case l_12 => k_is); (case c_12 => k_is); (case k_12 => k_is)
    refine' Itp.step (df_mk (n := Itp.tokN) (nm := nms) (x := "made_by") (d := d_made_by) (st := s_made_by) KX G fs_made_by rfl rfl c_made_by (fun us hl => match us, hl with | [_, _, _], _ => rfl) ?a_13 ?l_13 ?c_13 ?k_13) (fun h12 => ?next_13)
    (case a_13 => k_is); (case l_13 => k_is); (case c_13 => k_is); (case k_13 => k_is)
    refine' Itp.step (df_mk (n := Itp.tokN) (nm := nms) (x := "end_of") (d := d_end_of) (st := s_end_of) KX G fs_end_of rfl rfl c_end_of (fun us hl => match us, hl with | [_, _], _ => rfl) ?a_14 ?l_14 ?c_14 ?k_14) (fun h13 => ?next_14)
    (case a_14 => k_is); (case l_14 => k_is); (case c_14 => k_is); (case k_14 => k_is)
    refine' Itp.step (df_mk (n := Itp.tokN) (nm := nms) (x := "step_of") (d := d_step_of) (st := s_step_of) KX G fs_step_of rfl rfl c_step_of (fun us hl => match us, hl with | [_, _, _], _ => rfl) ?a_15 ?l_15 ?c_15 ?k_15) (fun h14 => ?next_15)
    (case a_15 => k_is); (case l_15 => k_is); (case c_15 => k_is); (case k_15 => k_is)
    refine' Itp.step (df_mk (n := Itp.tokN) (nm := nms) (x := "format_of") (d := d_format_of) (st := s_format_of) KX G fs_format_of rfl rfl c_format_of (fun us hl => match us, hl with | [_, _], _ => rfl) ?a_16 ?l_16 ?c_16 ?k_16) (fun h15 => ?next_16)
    (case a_16 => k_is); (case l_16 => k_is); (case c_16 => k_is); (case k_16 => k_is)
    refine' Itp.step (df_mk (n := Itp.tokN) (nm := nms) (x := "formatted") (d := d_formatted) (st := s_formatted) KX G fs_formatted rfl rfl c_formatted (fun us hl => match us, hl with | [_, _], _ => rfl) ?a_17 ?l_17 ?c_17 ?k_17) (fun h16 => ?next_17)
    (case a_17 => k_is); (case l_17 => k_is); (case c_17 => k_is); (case k_17 => k_is)
    refine' Itp.step (df_mk (n := Itp.tokN) (nm := nms) (x := "formatted_at") (d := d_formatted_at) (st := s_formatted_at) KX G fs_formatted_at rfl rfl c_formatted_at (fun us hl => match us, hl with | [_, _], _ => rfl) ?a_18 ?l_18 ?c_18 ?k_18) (fun h17 => ?next_18)
    (case a_18 => k_is); (case l_18 => k_is); (case c_18 => k_is); (case k_18 => k_is)
    refine' Itp.step (df_mk (n := Itp.tokN) (nm := nms) (x := "_law_source") (d := d__law_source) (st := s__law_source) KX G fs__law_source rfl rfl c__law_source (fun us hl => match us, hl with | [_, _], _ => rfl) ?a_19 ?l_19 ?c_19 ?k_19) (fun h18 => ?next_19)
    (case a_19 => k_is); (case l_19 => k_is); (case c_19 => k_is); (case k_19 => k_is)
    refine' Itp.step (df_mk (n := Itp.tokN) (nm := nms) (x := "_law_pick") (d := d__law_pick) (st := s__law_pick) KX G fs__law_pick rfl rfl c__law_pick (fun us hl => match us, hl with | [_, _], _ => rfl) ?a_20 ?l_20 ?c_20 ?k_20) (fun h19 => ?next_20)
    (case a_20 => k_is); (case l_20 => k_is); (case c_20 => k_is); (case k_20 => k_is)
    refine' Itp.step (df_mk (n := Itp.tokN) (nm := nms) (x := "_law_chosen") (d := d__law_chosen) (st := s__law_chosen) KX G fs__law_chosen rfl rfl c__law_chosen (fun us hl => match us, hl with | [_, _], _ => rfl) ?a_21 ?l_21 ?c_21 ?k_21) (fun h20 => ?next_21)
    (case a_21 => k_is); (case l_21 => k_is); (case c_21 => k_is); (case k_21 => k_is)
    refine' Itp.step (df_mk (n := Itp.tokN) (nm := nms) (x := "_law_output") (d := d__law_output) (st := s__law_output) KX G fs__law_output rfl rfl c__law_output (fun us hl => match us, hl with | [_, _, _, _], _ => rfl) ?a_22 ?l_22 ?c_22 ?k_22) (fun h21 => ?next_22)
    (case a_22 => k_is); (case l_22 => k_is); (case c_22 => k_is); (case k_22 => k_is)
    refine' Itp.step (df_mk (n := Itp.tokN) (nm := nms) (x := "_law_drawn") (d := d__law_drawn) (st := s__law_drawn) KX G fs__law_drawn rfl rfl c__law_drawn (fun us hl => match us, hl with | [_, _, _, _], _ => rfl) ?a_23 ?l_23 ?c_23 ?k_23) (fun h22 => ?next_23)
    (case a_23 => k_is); (case l_23 => k_is); (case c_23 => k_is); (case k_23 => k_is)
    refine' Itp.step (df_mk (n := Itp.tokN) (nm := nms) (x := "_law_known") (d := d__law_known) (st := s__law_known) KX G fs__law_known rfl rfl c__law_known (fun us hl => match us, hl with | [_], _ => rfl) ?a_24 ?l_24 ?c_24 ?k_24) (fun h23 => ?next_24)
    (case a_24 => k_is); (case l_24 => k_is); (case c_24 => k_is); (case k_24 => k_is)
    refine' Itp.step (df_mk (n := Itp.tokN) (nm := nms) (x := "_law_formatter") (d := d__law_formatter) (st := s__law_formatter) KX G fs__law_formatter rfl rfl c__law_formatter (fun us hl => match us, hl with | [_, _, _], _ => rfl) ?a_25 ?l_25 ?c_25 ?k_25) (fun h24 => ?next_25)
    (case a_25 => k_is); (case l_25 => k_is); (case c_25 => k_is); (case k_25 => k_is)
    refine' Itp.step (df_mk (n := Itp.tokN) (nm := nms) (x := "_law_text") (d := d__law_text) (st := s__law_text) KX G fs__law_text rfl rfl c__law_text (fun us hl => match us, hl with | [_, _, _], _ => rfl) ?a_26 ?l_26 ?c_26 ?k_26) (fun h25 => ?next_26)
    (case a_26 => k_is); (case l_26 => k_is); (case c_26 => k_is); (case k_26 => k_is)
    refine' Itp.step (df_mk (n := Itp.tokN) (nm := nms) (x := "_law_move") (d := d__law_move) (st := s__law_move) KX G fs__law_move rfl rfl c__law_move (fun us hl => match us, hl with | [_, _, _], _ => rfl) ?a_27 ?l_27 ?c_27 ?k_27) (fun h26 => ?next_27)
    (case a_27 => k_is); (case l_27 => k_is); (case c_27 => k_is); (case k_27 => k_is)
    refine' Itp.step (df_mk (n := Itp.tokN) (nm := nms) (x := "_law_end") (d := d__law_end) (st := s__law_end) KX G fs__law_end rfl rfl c__law_end (fun us hl => match us, hl with | [_, _], _ => rfl) ?a_28 ?l_28 ?c_28 ?k_28) (fun h27 => ?next_28)
    (case a_28 => k_is); (case l_28 => k_is); (case c_28 => k_is); (case k_28 => k_is)
    refine' Itp.step (df_mk (n := Itp.tokN) (nm := nms) (x := "_law_form") (d := d__law_form) (st := s__law_form) KX G fs__law_form rfl rfl c__law_form (fun us hl => match us, hl with | [_, _], _ => rfl) ?a_29 ?l_29 ?c_29 ?k_29) (fun h28 => ?next_29)
    (case a_29 => k_is); (case l_29 => k_is); (case c_29 => k_is); (case k_29 => k_is)
    refine' Itp.step (df_mk (n := Itp.tokN) (nm := nms) (x := "_law_outcome") (d := d__law_outcome_v2) (st := s__law_outcome_v2) KX G fs__law_outcome_v2 rfl rfl c__law_outcome_v2 (fun us hl => match us, hl with | [_, _, _], _ => rfl) ?a_30 ?l_30 ?c_30 ?k_30) (fun h29 => ?next_30)
    (case a_30 => k_is); (case l_30 => k_is); (case c_30 => k_is); (case k_30 => k_is)
    refine' Itp.step (df_mk (n := Itp.tokN) (nm := nms) (x := "law") (d := d_law_v2) (st := s_law_v2) KX G fs_law_v2 rfl rfl c_law_v2 (fun us hl => match us, hl with | [_], _ => rfl) ?a_31 ?l_31 ?c_31 ?k_31) (fun h30 => ?next_31)
    (case a_31 => k_is); (case l_31 => k_is); (case c_31 => k_is); (case k_31 => k_is)
    refine' Itp.step (gl_str (n := Itp.tokN) (nm := nms) (y := "SIGNS") (x := "abcdefghijklmnopqrstuvwxyz0123456789-./:,") (s := z_SIGNS) KX G (by decide +kernel) (by decide +kernel) ?a_32 ?z_32 ?t_32) (fun g0 => ?next_32); (case a_32 => k_is); (case z_32 => decide); (case t_32 => decide)
    refine' Itp.step (gl_str (n := Itp.tokN) (nm := nms) (y := "MARK") (x := "|") (s := [124]) KX G (by decide +kernel) (by decide +kernel) ?a_33 ?z_33 ?t_33) (fun g1 => ?next_33); (case a_33 => k_is); (case z_33 => decide); (case t_33 => decide)
    refine' Itp.step (gl_int (n := Itp.tokN) (nm := nms) (y := "MOST_SIGNS") (i := 3) KX G ?a_34) (fun g2 => ?next_34); (case a_34 => k_is)
    refine' Itp.step (gl_int (n := Itp.tokN) (nm := nms) (y := "MOST_STATE") (i := 3) KX G ?a_35) (fun g3 => ?next_35); (case a_35 => k_is)
    refine' Itp.step (gl_int (n := Itp.tokN) (nm := nms) (y := "MOST_OUTPUT") (i := 3) KX G ?a_36) (fun g4 => ?next_36); (case a_36 => k_is)
    refine' Itp.step (gl_int (n := Itp.tokN) (nm := nms) (y := "MOST_MOVES") (i := 12) KX G ?a_37) (fun g5 => ?next_37); (case a_37 => k_is)
    refine' Itp.step (cl_mk (x := "FieldError") KX G ?a_38 ?e_38 ?k_38 ?b_38 ?t_38 ?i_38) (fun k0 => ?next_38)
    (case a_38 => k_is); (case e_38 => first | k_is | kernel_rfl | rfl); (case k_38 => k_is); (case b_38 => k_is); (case t_38 => k_is); (case i_38 => k_is)
    refine' Itp.step (cl_mk (x := "InvalidFormatter") KX G ?a_39 ?e_39 ?k_39 ?b_39 ?t_39 ?i_39) (fun k1 => ?next_39)
    (case a_39 => k_is); (case e_39 => first | k_is | kernel_rfl | rfl); (case k_39 => k_is); (case b_39 => k_is); (case t_39 => k_is); (case i_39 => k_is)
    refine' Itp.step (cl_mk (x := "InvalidText") KX G ?a_40 ?e_40 ?k_40 ?b_40 ?t_40 ?i_40) (fun k2 => ?next_40)
    (case a_40 => k_is); (case e_40 => first | k_is | kernel_rfl | rfl); (case k_40 => k_is); (case b_40 => k_is); (case t_40 => k_is); (case i_40 => k_is)
    refine' Itp.step (cl_mk (x := "InvalidMarked") KX G ?a_41 ?e_41 ?k_41 ?b_41 ?t_41 ?i_41) (fun k3 => ?next_41)
    (case a_41 => k_is); (case e_41 => first | k_is | kernel_rfl | rfl); (case k_41 => k_is); (case b_41 => k_is); (case t_41 => k_is); (case i_41 => k_is)
    refine' Itp.step (sub_mk (b := true) KX k0 k0 ?s_42) (fun e0_0 => ?next_42); (case s_42 => first | rfl | k_is)
    refine' Itp.step (sub_mk (b := false) KX k0 k1 ?s_43) (fun e0_1 => ?next_43); (case s_43 => first | rfl | k_is)
    refine' Itp.step (sub_mk (b := false) KX k0 k2 ?s_44) (fun e0_2 => ?next_44); (case s_44 => first | rfl | k_is)
    refine' Itp.step (sub_mk (b := false) KX k0 k3 ?s_45) (fun e0_3 => ?next_45); (case s_45 => first | rfl | k_is)
    refine' Itp.step (sub_mk (b := true) KX k1 k0 ?s_46) (fun e1_0 => ?next_46); (case s_46 => first | rfl | k_is)
    refine' Itp.step (sub_mk (b := true) KX k1 k1 ?s_47) (fun e1_1 => ?next_47); (case s_47 => first | rfl | k_is)
    refine' Itp.step (sub_mk (b := false) KX k1 k2 ?s_48) (fun e1_2 => ?next_48); (case s_48 => first | rfl | k_is)
    refine' Itp.step (sub_mk (b := false) KX k1 k3 ?s_49) (fun e1_3 => ?next_49); (case s_49 => first | rfl | k_is)
    refine' Itp.step (sub_mk (b := true) KX k2 k0 ?s_50) (fun e2_0 => ?next_50); (case s_50 => first | rfl | k_is)
    refine' Itp.step (sub_mk (b := false) KX k2 k1 ?s_51) (fun e2_1 => ?next_51); (case s_51 => first | rfl | k_is)
    refine' Itp.step (sub_mk (b := true) KX k2 k2 ?s_52) (fun e2_2 => ?next_52); (case s_52 => first | rfl | k_is)
    refine' Itp.step (sub_mk (b := false) KX k2 k3 ?s_53) (fun e2_3 => ?next_53); (case s_53 => first | rfl | k_is)
    refine' Itp.step (sub_mk (b := true) KX k3 k0 ?s_54) (fun e3_0 => ?next_54); (case s_54 => first | rfl | k_is)
    refine' Itp.step (sub_mk (b := false) KX k3 k1 ?s_55) (fun e3_1 => ?next_55); (case s_55 => first | rfl | k_is)
    refine' Itp.step (sub_mk (b := false) KX k3 k2 ?s_56) (fun e3_2 => ?next_56); (case s_56 => first | rfl | k_is)
    refine' Itp.step (sub_mk (b := true) KX k3 k3 ?s_57) (fun e3_3 => ?next_57); (case s_57 => first | rfl | k_is)
    refine' Itp.step (nb_mk KX ?n0_58 ?n1_58 ?n2_58 ?n3_58 ?n4_58 ?n5_58 ?n6_58 ?n7_58 ?n8_58 ?n9_58 ?n10_58 ?n11_58 ?n12_58) (fun nb => ?next_58)
    (case n0_58 => k_is); (case n1_58 => k_is); (case n2_58 => k_is); (case n3_58 => k_is); (case n4_58 => k_is); (case n5_58 => k_is); (case n6_58 => k_is); (case n7_58 => k_is); (case n8_58 => k_is); (case n9_58 => k_is); (case n10_58 => k_is); (case n11_58 => k_is); (case n12_58 => k_is)
    exact law_end (prog_ok KX G h0 h1 h2 h3 h4 h5 h6 h7 h8 h9 h10 h11 h12 h13 h14 h15 h16 h17 h18 h19 h20 h21 h22 h23 h24 h25 h26 h27 h28 h29 h30 g0 g1 g2 g3 g4 g5 k0 k1 k2 k3 e0_0 e0_1 e0_2 e0_3 e1_0 e1_1 e1_2 e1_3 e2_0 e2_1 e2_2 e2_3 e3_0 e3_1 e3_2 e3_3 nb) (f := i_law_v2) rfl hmg rfl rfl (fun ns hl hb => law_true ns hl)
